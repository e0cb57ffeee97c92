import PyProof.Rows.All
import Wide.All
import OpenK.AllK
import Wide.FinOn
import HandS.ForMost
import HandS.Evl
import HandS.Exc
import HandS.Lambda
import HandS.IsInst
import HandS.Zip
import HandS.SortInts
import HandS.Defaults
import HandS.CallSlots
import HandS.Wide
import HandS.TupAny
import HandS.RaiseMore
import PyProof.ReprRoads
import HandS.HeadEnd
import HandS.HeadHook1
import HandS.HeadHook2
import HandS.Head0
import HandS.Head1
import HandS.Head2
import PySem.Challenge.RW_pledgehall_k02_whole_fees_by_own_reckoni
set_option Elab.async false
set_option linter.all false
set_option maxRecDepth 100000
set_option maxHeartbeats 4000000
/-! PF1: data, stores, outcomes, the relation to the abstract heap. -/
namespace PF
open PySem L2 Evl

/-- data: tuples and lists as values; loc n: the n-th list of the store (it may change); fz: a list that is read alone (the script) -/
inductive D where
  | non | bl (b : Bool) | int (i : Int) | str (s : Str) | tup (xs : List D) | lst (xs : List D) | loc (n : Nat) | fz (xs : List D)

mutual
def D.pure : D → Bool
  | .tup xs => D.pures xs
  | .lst xs => D.pures xs
  | .loc _ => false
  | .fz _ => false
  | .non => true
  | .bl _ => true
  | .int _ => true
  | .str _ => true
def D.pures : List D → Bool
  | [] => true
  | d :: ds => d.pure && D.pures ds
end
theorem D.pures_iff : ∀ {ds : List D}, D.pures ds = true ↔ ∀ d ∈ ds, d.pure = true
  | [] => by simp [D.pures]
  | d :: ds => by simp [D.pures, D.pures_iff (ds := ds)]
theorem D.pures_append {xs ys : List D} : D.pures (xs ++ ys) = (D.pures xs && D.pures ys) := by
  induction xs with
  | nil => simp [D.pures]
  | cons x xs ih => simp [D.pures, ih, Bool.and_assoc]

abbrev Store := List (List D)
/-- an exception: the module's name of its class, what it was made with -/
structure XV where
  cls : Str
  fields : List (Str × D)
abbrev Out (α : Type) := Option (Except XV α × Store)
def bindO {α β : Type} (r : Out α) (k : α → Store → Out β) : Out β :=
  match r with
  | none => none
  | some (.ok a, S) => k a S
  | some (.error x, S) => some (.error x, S)
@[simp] theorem bindO_ok {α β : Type} (a : α) (S : Store) (k : α → Store → Out β) : bindO (some (.ok a, S)) k = k a S := rfl
@[simp] theorem bindO_none {α β : Type} (k : α → Store → Out β) : bindO none k = none := rfl
@[simp] theorem bindO_err {α β : Type} (x : XV) (S : Store) (k : α → Store → Out β) : bindO (some (.error x, S)) k = some (.error x, S) := rfl
abbrev Env := List (Option D)
abbrev EX := Env → Store → Out D
abbrev AX := Env → Store → Out (List D)
def ret {α : Type} (a : α) (S : Store) : Out α := some (.ok a, S)

mutual
inductive Rep (K : PySem.W.Frag) (F : Hp) (μ : List Addr) : D → V → Prop
  | non : Rep K F μ .non .non
  | bl (b : Bool) : Rep K F μ (.bl b) (.bl b)
  | int (i : Int) : Rep K F μ (.int i) (.int i)
  | str (x : Str) : Rep K F μ (.str x) (.str x)
  | tup {a : Addr} {xs : List V} {ds : List D} : SqT K F a xs → Reps K F μ ds xs → Rep K F μ (.tup ds) (.ref a)
  | lst {a : Addr} {xs : List V} {ds : List D} : F a = some (.lst xs) → Reps K F μ ds xs → Rep K F μ (.lst ds) (.ref a)
  | fz {a : Addr} {xs : List V} {ds : List D} : SqL K F a xs → Reps K F μ ds xs → Rep K F μ (.fz ds) (.ref a)
  | loc {n : Nat} {a : Addr} : μ[n]? = some a → Rep K F μ (.loc n) (.ref a)
inductive Reps (K : PySem.W.Frag) (F : Hp) (μ : List Addr) : List D → List V → Prop
  | nil : Reps K F μ [] []
  | cons {d : D} {ds : List D} {v : V} {vs : List V} : Rep K F μ d v → Reps K F μ ds vs → Reps K F μ (d :: ds) (v :: vs)
end

section
variable {K : PySem.W.Frag} {F F' H : Hp} {μ μ' : List Addr} {d : D} {ds es : List D} {v : V} {vs ws : List V}
theorem pre_get {n : Nat} {a : Addr} (p : μ <+: μ') (h : μ[n]? = some a) : μ'[n]? = some a := by
  obtain ⟨t, rfl⟩ := p
  have := (List.getElem?_eq_some_iff.mp h).1
  rw [List.getElem?_append_left this]; exact h
mutual
theorem Rep.mono (e : Ex F F') (p : μ <+: μ') : ∀ {d : D} {v : V}, Rep K F μ d v → Rep K F' μ' d v
  | _, _, .non => .non
  | _, _, .bl b => .bl b
  | _, _, .int i => .int i
  | _, _, .str x => .str x
  | _, _, .tup h r => .tup (ex_t e h) (Reps.mono e p r)
  | _, _, .lst h r => .lst (e _ _ h) (Reps.mono e p r)
  | _, _, .fz h r => .fz (ex_l e h) (Reps.mono e p r)
  | _, _, .loc h => .loc (pre_get p h)
theorem Reps.mono (e : Ex F F') (p : μ <+: μ') : ∀ {ds : List D} {vs : List V}, Reps K F μ ds vs → Reps K F' μ' ds vs
  | _, _, .nil => .nil
  | _, _, .cons h r => .cons (Rep.mono e p h) (Reps.mono e p r)
end
mutual
/-- what has no location does not lean on the store -/
theorem Rep.free : ∀ {d : D} {v : V}, Rep K F μ d v → d.pure = true → Rep K F μ' d v
  | _, _, .non, _ => .non
  | _, _, .bl b, _ => .bl b
  | _, _, .int i, _ => .int i
  | _, _, .str x, _ => .str x
  | _, _, .tup h r, p => .tup h (Reps.free r (by simpa [D.pure] using p))
  | _, _, .lst h r, p => .lst h (Reps.free r (by simpa [D.pure] using p))
  | _, _, .loc h, p => by simp [D.pure] at p
  | _, _, .fz h r, p => by simp [D.pure] at p
theorem Reps.free : ∀ {ds : List D} {vs : List V}, Reps K F μ ds vs → D.pures ds = true → Reps K F μ' ds vs
  | _, _, .nil, _ => .nil
  | _, _, .cons h r, p => .cons (Rep.free h (by simp [D.pures] at p; exact p.1)) (Reps.free r (by simp [D.pures] at p; exact p.2))
end
theorem Reps.length : ∀ {ds : List D} {vs : List V}, Reps K F μ ds vs → ds.length = vs.length
  | _, _, .nil => rfl
  | _, _, .cons _ r => by simp [Reps.length r]
theorem Reps.get : ∀ {ds : List D} {vs : List V} {i : Nat} {d : D}, Reps K F μ ds vs → ds[i]? = some d → ∃ v, vs[i]? = some v ∧ Rep K F μ d v
  | _, _, _, _, .nil, h => by simp at h
  | _, _, 0, _, .cons h r, e => by simp at e; subst e; exact ⟨_, rfl, h⟩
  | _, _, i + 1, _, .cons h r, e => by simpa using Reps.get (i := i) r (by simpa using e)
theorem Reps.getV : ∀ {ds : List D} {vs : List V} {i : Nat} {v : V}, Reps K F μ ds vs → vs[i]? = some v → ∃ d, ds[i]? = some d ∧ Rep K F μ d v
  | _, _, _, _, .nil, h => by simp at h
  | _, _, 0, _, .cons h r, e => by simp at e; subst e; exact ⟨_, rfl, h⟩
  | _, _, i + 1, _, .cons h r, e => by simpa using Reps.getV (i := i) r (by simpa using e)
theorem Reps.append : ∀ {ds : List D} {vs : List V} {es : List D} {ws : List V}, Reps K F μ ds vs → Reps K F μ es ws → Reps K F μ (ds ++ es) (vs ++ ws)
  | _, _, _, _, .nil, s => s
  | _, _, _, _, .cons h r, s => .cons h (Reps.append r s)
theorem Reps.drop : ∀ {ds : List D} {vs : List V} (n : Nat), Reps K F μ ds vs → Reps K F μ (ds.drop n) (vs.drop n)
  | _, _, 0, r => r
  | _, _, n + 1, .nil => .nil
  | _, _, n + 1, .cons _ r => Reps.drop n r
theorem Reps.take : ∀ {ds : List D} {vs : List V} (n : Nat), Reps K F μ ds vs → Reps K F μ (ds.take n) (vs.take n)
  | _, _, 0, r => .nil
  | _, _, n + 1, .nil => .nil
  | _, _, n + 1, .cons h r => .cons h (Reps.take n r)
theorem Reps.set : ∀ {ds : List D} {vs : List V} {d : D} {v : V} (n : Nat), Reps K F μ ds vs → Rep K F μ d v → Reps K F μ (ds.set n d) (vs.set n v)
  | _, _, _, _, _, .nil, _ => .nil
  | _, _, _, _, 0, .cons h r, q => .cons q r
  | _, _, _, _, n + 1, .cons h r, q => .cons h (Reps.set n r q)
theorem Reps.eraseIdx : ∀ {ds : List D} {vs : List V} (n : Nat), Reps K F μ ds vs → Reps K F μ (ds.eraseIdx n) (vs.eraseIdx n)
  | _, _, _, .nil => .nil
  | _, _, 0, .cons h r => r
  | _, _, n + 1, .cons h r => .cons h (Reps.eraseIdx n r)
theorem Reps.reverse : ∀ {ds : List D} {vs : List V}, Reps K F μ ds vs → Reps K F μ ds.reverse vs.reverse
  | _, _, .nil => .nil
  | _, _, .cons h r => by
    rw [List.reverse_cons, List.reverse_cons]
    exact (Reps.reverse r).append (.cons h .nil)
theorem Reps.one (h : Rep K F μ d v) : Reps K F μ [d] [v] := .cons h .nil
end

/-! ### the store's relation to the heap -/
/-- T: the tables of code objects (lambdas); F: what is frozen; μ: where the store's lists stand -/
structure SR (K : PySem.W.Frag) (T : List (Addr × Str)) (F : Hp) (μ : List Addr) (S : Store) (H : Hp) : Prop where
  ex : Ex F H
  len : μ.length = S.length
  nd : μ.Nodup
  ob : ∀ (n : Nat) (a : Addr) (ds : List D), μ[n]? = some a → S[n]? = some ds → F a = none ∧ D.pures ds = true ∧ ∃ vs, H a = some (.lst vs) ∧ Reps K F μ ds vs
  tab : LamX.Tabs T H
  tabF : ∀ p ∈ T, F p.1 = none

section
variable {K : PySem.W.Frag} {T : List (Addr × Str)} {F F' H H' : Hp} {μ μ' : List Addr} {S : Store} {a : Addr} {o : HO}
theorem Tabs.keep {T : List (Addr × Str)} {H H' : Hp} (t : LamX.Tabs T H) (e : ∀ b o, H b = some o → (∀ xs, o ≠ .lst xs) → H' b = some o) : LamX.Tabs T H' := fun p hp => by
  obtain ⟨ps, h1, h2, h3⟩ := t p hp
  refine ⟨ps, e _ _ h1 (by intro xs z; cases z), h2, fun pos cv hc => ?_⟩
  obtain ⟨c, e1, e2⟩ := h3 pos cv hc
  exact ⟨c, e1, e _ _ e2 (by intro xs z; unfold LamX.CodeO at z; cases z)⟩
/-- a new frozen object -/
theorem SR.new (s : SR K T F μ S H) (hn : H a = none) : SR K T (upd F a o) μ S (upd H a o) := by
  have hF : F a = none := fresh_back s.ex hn
  have hm : ∀ (n : Nat) (b : Addr), μ[n]? = some b → b ≠ a := fun n b e z => by
    subst z
    have hl : n < S.length := by rw [← s.len]; exact (List.getElem?_eq_some_iff.mp e).1
    obtain ⟨_, _, vs, h, _⟩ := s.ob n b S[n] e (List.getElem?_eq_getElem hl)
    rw [hn] at h; cases h
  refine ⟨fun b u e => ?_, s.len, s.nd, fun n b ds e1 e2 => ?_, s.tab.ext fun b u e => ?_, fun p hp => ?_⟩
  · by_cases hb : b = a
    · subst hb; rw [upd_same] at e ⊢; exact e
    · rw [upd_ne hb] at e ⊢; exact s.ex b u e
  · obtain ⟨h1, h2, vs, h3, h4⟩ := s.ob n b ds e1 e2
    have nb := hm n b e1
    exact ⟨by rw [upd_ne nb]; exact h1, h2, vs, by rw [upd_ne nb]; exact h3, h4.mono (Ex.new hF) (List.prefix_refl _)⟩
  · rw [upd_ne (ne_of_none e hn)]; exact e
  · obtain ⟨ps, h1, _⟩ := s.tab p hp
    rw [upd_ne (ne_of_none h1 hn)]; exact s.tabF p hp
/-- a new list that is not frozen yet -/
theorem SR.lay (s : SR K T F μ S H) (hn : H a = none) : SR K T F μ S (upd H a o) := by
  refine ⟨s.ex.trans (Ex.new hn), s.len, s.nd, fun n b ds e1 e2 => ?_, s.tab.ext fun b u e => ?_, s.tabF⟩
  · obtain ⟨h1, h2, vs, h3, h4⟩ := s.ob n b ds e1 e2
    exact ⟨h1, h2, vs, by rw [upd_ne (ne_of_none h3 hn)]; exact h3, h4⟩
  · rw [upd_ne (ne_of_none e hn)]; exact e
/-- a list that nobody else holds is frozen -/
theorem SR.freeze (s : SR K T F μ S H) {xs : List V} (hF : F a = none) (hm : a ∉ μ) (hH : H a = some (.lst xs)) : SR K T (upd F a (.lst xs)) μ S H := by
  refine ⟨fun b u e => ?_, s.len, s.nd, fun n b ds e1 e2 => ?_, s.tab, fun p hp => ?_⟩
  · by_cases hb : b = a
    · subst hb; rw [upd_same] at e; cases e; exact hH
    · rw [upd_ne hb] at e; exact s.ex b u e
  · obtain ⟨h1, h2, vs, h3, h4⟩ := s.ob n b ds e1 e2
    have nb : b ≠ a := fun z => hm (by rw [← z]; exact List.mem_of_getElem? e1)
    exact ⟨by rw [upd_ne nb]; exact h1, h2, vs, h3, h4.mono (Ex.new hF) (List.prefix_refl _)⟩
  · obtain ⟨ps, h1, _⟩ := s.tab p hp
    rw [upd_ne (fun z => by rw [z, hH] at h1; cases h1)]
    exact s.tabF p hp
/-- .. or becomes a list of the store -/
theorem SR.alloc (s : SR K T F μ S H) {xs : List V} {ds : List D} (hF : F a = none) (hm : a ∉ μ) (hH : H a = some (.lst xs)) (hr : Reps K F μ ds xs) (hp : D.pures ds = true) : SR K T F (μ ++ [a]) (S ++ [ds]) H := by
  refine ⟨s.ex, by simp [s.len], ?_, fun n b es e1 e2 => ?_, s.tab, s.tabF⟩
  · rw [List.nodup_append]
    refine ⟨s.nd, by simp, fun x hx y hy e => ?_⟩
    simp at hy; subst hy; subst e; exact hm hx
  · by_cases hn : n < μ.length
    · rw [List.getElem?_append_left hn] at e1
      rw [List.getElem?_append_left (by rw [← s.len]; exact hn)] at e2
      obtain ⟨h1, h2, vs, h3, h4⟩ := s.ob n b es e1 e2
      exact ⟨h1, h2, vs, h3, h4.mono (Ex.refl _) (List.prefix_append _ _)⟩
    · have hl := (List.getElem?_eq_some_iff.mp e1).1
      have en : n = μ.length := by simp at hl; omega
      subst en
      rw [List.getElem?_append_right (Nat.le_refl _)] at e1
      rw [s.len, List.getElem?_append_right (Nat.le_refl _)] at e2
      simp at e1 e2
      subst e1; subst e2
      exact ⟨hF, hp, xs, hH, hr.mono (Ex.refl _) (List.prefix_append _ _)⟩
/-- the store's n-th list is changed -/
theorem SR.put (s : SR K T F μ S H) {n : Nat} {xs : List V} {ds : List D} (hm : μ[n]? = some a) (hr : Reps K F μ ds xs) (hp : D.pures ds = true) : SR K T F μ (S.set n ds) (upd H a (.lst xs)) := by
  have hl : n < S.length := by rw [← s.len]; exact (List.getElem?_eq_some_iff.mp hm).1
  obtain ⟨hF, _, ys, hHa, _⟩ := s.ob n a S[n] hm (List.getElem?_eq_getElem hl)
  refine ⟨Ex.mut s.ex hF, by simp [s.len], s.nd, fun m b es e1 e2 => ?_, Tabs.keep s.tab fun b u e nl => ?_, s.tabF⟩
  · by_cases hb : m = n
    · subst hb
      rw [hm] at e1; cases e1
      rw [List.getElem?_set_self hl] at e2; cases e2
      exact ⟨hF, hp, xs, upd_same, hr⟩
    · rw [List.getElem?_set_ne (Ne.symm hb)] at e2
      obtain ⟨h1, h2, vs, h3, h4⟩ := s.ob m b es e1 e2
      have nb : b ≠ a := fun z => by
        subst z
        have h1 := (List.getElem?_eq_some_iff.mp e1)
        have h2 := (List.getElem?_eq_some_iff.mp hm)
        exact hb ((List.getElem_inj s.nd).mp (h1.2.trans h2.2.symm))
      exact ⟨h1, h2, vs, by rw [upd_ne nb]; exact h3, h4⟩
  · by_cases hb : b = a
    · subst hb; rw [hHa] at e; cases e; exact absurd rfl (nl _)
    · rw [upd_ne hb]; exact e
/-- the store's later lists are forgotten -/
theorem SR.cut (s : SR K T F μ S H) (k : Nat) : SR K T F (μ.take k) (S.take k) H := by
  refine ⟨s.ex, by simp [s.len], s.nd.sublist (List.take_sublist _ _), fun n a ds e1 e2 => ?_, s.tab, s.tabF⟩
  have hk : n < k := by
    have := (List.getElem?_eq_some_iff.mp e1).1
    rw [List.length_take] at this; omega
  rw [List.getElem?_take_of_lt hk] at e1 e2
  obtain ⟨h1, h2, vs, h3, h4⟩ := s.ob n a ds e1 e2
  exact ⟨h1, h2, vs, h3, h4.free h2⟩
theorem SR.get (s : SR K T F μ S H) {n : Nat} (hm : μ[n]? = some a) : ∃ ds vs, S[n]? = some ds ∧ H a = some (.lst vs) ∧ Reps K F μ ds vs ∧ F a = none ∧ D.pures ds = true := by
  have hl : n < S.length := by rw [← s.len]; exact (List.getElem?_eq_some_iff.mp hm).1
  obtain ⟨h1, h2, vs, h3, h4⟩ := s.ob n a S[n] hm (List.getElem?_eq_getElem hl)
  exact ⟨S[n], vs, List.getElem?_eq_getElem hl, h3, h4, h1, h2⟩
theorem SR.sqT (s : SR K T F μ S H) {xs : List V} (h : SqT K F a xs) : SqT K H a xs := ex_t s.ex h
theorem SR.sqL (s : SR K T F μ S H) {xs : List V} (h : SqL K F a xs) : SqL K H a xs := ex_l s.ex h
end

/-! ### outcomes -/
/-- a list that was just made, held by nobody else -/
def Fresh (K : PySem.W.Frag) (F : Hp) (μ : List Addr) (H : Hp) (d : D) (v : V) : Prop :=
  ∃ ds a vs, d = .lst ds ∧ v = .ref a ∧ F a = none ∧ a ∉ μ ∧ H a = some (.lst vs) ∧ Reps K F μ ds vs
def RX (K : PySem.W.Frag) (fr : Bool) (F : Hp) (μ : List Addr) (H : Hp) (d : D) (v : V) : Prop := match fr with
  | true => Fresh K F μ H d v
  | false => Rep K F μ d v
/-- an exception of an own class that keeps what it was made with -/
def XRep (K : PySem.W.Frag) (mg : Str → Option Value) (F : Hp) (μ : List Addr) (x : XV) (cls : Value) (dd : Option Addr) : Prop :=
  ∃ C, cls = .ref C ∧ mg x.cls = some (.ref C) ∧ (x.fields = [] ∨ ∃ d vs, dd = some d ∧ Reps K F μ (x.fields.map (·.2)) vs ∧ F d = some (.xd ((x.fields.map (·.1)).zip vs)))
def GP {α : Type} (K : PySem.W.Frag) (T : List (Addr × Str)) (F : Hp) (μ : List Addr) (r : Out α) (ok : α → Hp → List Addr → Hp → Store → Prop) (er : XV → Hp → List Addr → Hp → Prop) : Prop :=
  match r with
  | none => False
  | some (.ok a, S) => ∀ F' μ' H', Ex F F' → μ <+: μ' → SR K T F' μ' S H' → ok a F' μ' H' S
  | some (.error x, S) => ∀ F' μ' H', Ex F F' → μ <+: μ' → SR K T F' μ' S H' → er x F' μ' H'
section
variable {α β : Type} {K : PySem.W.Frag} {T : List (Addr × Str)} {F F' H H' : Hp} {μ μ' : List Addr} {S : Store} {r : Out α} {k : α → Store → Out β}
  {ok : β → Hp → List Addr → Hp → Store → Prop} {ok1 ok2 : α → Hp → List Addr → Hp → Store → Prop} {er : XV → Hp → List Addr → Hp → Prop}
theorem GP.mono (h : GP K T F μ r ok1 er) (e : Ex F F') (p : μ <+: μ') : GP K T F' μ' r ok1 er := by
  match r, h with
  | some (.ok a, S), h => exact fun F2 μ2 H2 e2 p2 s2 => h F2 μ2 H2 (e.trans e2) (p.trans p2) s2
  | some (.error x, S), h => exact fun F2 μ2 H2 e2 p2 s2 => h F2 μ2 H2 (e.trans e2) (p.trans p2) s2
theorem GP.bind (h : GP K T F μ (bindO r k) ok er) : GP K T F μ r (fun a F' μ' H' S' => SR K T F' μ' S' H' ∧ Ex F F' ∧ μ <+: μ' ∧ GP K T F' μ' (k a S') ok er) er := by
  match r, h with
  | some (.ok a, S), h => exact fun F2 μ2 H2 e2 p2 s2 => ⟨s2, e2, p2, GP.mono h e2 p2⟩
  | some (.error x, S), h => exact h
theorem GP.imp (h : GP K T F μ r ok1 er) (f : ∀ a F' μ' H' S', Ex F F' → μ <+: μ' → SR K T F' μ' S' H' → ok1 a F' μ' H' S' → ok2 a F' μ' H' S') : GP K T F μ r ok2 er := by
  match r, h with
  | some (.ok a, S), h => exact fun F2 μ2 H2 e2 p2 s2 => f _ _ _ _ _ e2 p2 s2 (h F2 μ2 H2 e2 p2 s2)
  | some (.error x, S), h => exact h
/-- bind, and go on -/
theorem GP.seq (h : GP K T F μ (bindO r k) ok er) (f : ∀ a F' μ' H' S', Ex F F' → μ <+: μ' → SR K T F' μ' S' H' → GP K T F' μ' (k a S') ok er → ok2 a F' μ' H' S') : GP K T F μ r ok2 er :=
  GP.imp (GP.bind h) fun a F' μ' H' S' e p s ⟨_, _, _, q⟩ => f a F' μ' H' S' e p s q
theorem GP.here {a : α} (h : GP K T F μ (some (.ok a, S)) ok1 er) (s : SR K T F μ S H) : ok1 a F μ H S := h F μ H (Ex.refl _) (List.prefix_refl _) s
/-- a state that stands behind one that was reached -/
theorem GP.at {a : α} (h : GP K T F μ (some (.ok a, S)) ok1 er) (e : Ex F F') (p : μ <+: μ') (s : SR K T F' μ' S H') : ok1 a F' μ' H' S := h F' μ' H' e p s
end
/-- the slots -/
def EnvR (K : PySem.W.Frag) (F : Hp) (μ : List Addr) (ρ : Env) (σ : L2.St) : Prop := ρ.length = σ.length ∧ ∀ (i : Nat) (d : D), ρ[i]? = some (some d) → ∃ v, σ[i]? = some (some v) ∧ Rep K F μ d v
section
variable {K : PySem.W.Frag} {F F' : Hp} {μ μ' : List Addr} {ρ : Env} {σ : L2.St}
theorem EnvR.mono (h : EnvR K F μ ρ σ) (e : Ex F F') (p : μ <+: μ') : EnvR K F' μ' ρ σ := ⟨h.1, fun i d q => by
  obtain ⟨v, h1, h2⟩ := h.2 i d q
  exact ⟨v, h1, h2.mono e p⟩⟩
theorem EnvR.set (h : EnvR K F μ ρ σ) {i : Nat} {d : D} {v : V} (r : Rep K F μ d v) : EnvR K F μ (ρ.set i (some d)) (σ.set i (some v)) := ⟨by simp [h.1], fun j e q => by
  by_cases hj : j = i
  · subst hj
    have hl : j < ρ.length := by
      have := (List.getElem?_eq_some_iff.mp q).1
      simpa using this
    rw [List.getElem?_set_self hl] at q
    cases q
    exact ⟨v, by rw [List.getElem?_set_self (by rw [← h.1]; exact hl)], r⟩
  · rw [List.getElem?_set_ne (Ne.symm hj)] at q ⊢
    exact h.2 j e q⟩
theorem EnvR.none (h : EnvR K F μ ρ σ) (i : Nat) : EnvR K F μ (ρ.set i none) (σ.set i none) := ⟨by simp [h.1], fun j e q => by
  by_cases hj : j = i
  · subst hj
    have hl : j < ρ.length := by
      have := (List.getElem?_eq_some_iff.mp q).1
      simpa using this
    rw [List.getElem?_set_self hl] at q
    cases q
  · rw [List.getElem?_set_ne (Ne.symm hj)] at q ⊢
    exact h.2 j e q⟩
def wipeE (ρ : Env) : List Nat → Env
  | [] => ρ
  | v :: vs => (wipeE ρ vs).set v none
theorem EnvR.wipe (h : EnvR K F μ ρ σ) : ∀ vs : List Nat, EnvR K F μ (wipeE ρ vs) (wipe σ vs)
  | [] => h
  | v :: vs => (EnvR.wipe h vs).none v
end
end PF
set_option Elab.async false
set_option linter.all false
set_option maxRecDepth 100000
set_option maxHeartbeats 4000000
/-! PF2: expressions. -/
namespace PF
open PySem L2 Evl
section
variable (K : PySem.W.Frag) (mg : Str → Option Value)
def OkV (fr : Bool) (Q : VK) : D → Hp → List Addr → Hp → Store → Prop := fun d F μ H _ => ∀ v, RX K fr F μ H d v → Q v H
def OkA (Q : List V → Hp → Prop) : List D → Hp → List Addr → Hp → Store → Prop := fun ds F μ H _ => ∀ vs, Reps K F μ ds vs → Q vs H
def ErW (W : Value → Option Addr → Hp → Prop) : XV → Hp → List Addr → Hp → Prop := fun x F μ H => ∀ cls dd, XRep K mg F μ x cls dd → W cls dd H
end
abbrev BX := Env → Store → Out Bool
def RE (T : List (Addr × Str)) (fr : Bool) (X : Cx) (W : WX) (e : Expr) (c : EX) : Prop := ∃ t, PE X e t ∧
  ∀ σ ρ F μ S H Q, SR X.K T F μ S H → EnvR X.K F μ ρ σ → GP X.K T F μ (c ρ S) (OkV X.K fr Q) (ErW X.K X.mg fun cls dd H' => W cls dd σ H') → t σ H Q
def RT (T : List (Addr × Str)) (X : Cx) (W : WX) (e : Expr) (c : BX) : Prop := ∃ t, PT X e t ∧
  ∀ σ ρ F μ S H (Q : Bool → Hp → Prop), SR X.K T F μ S H → EnvR X.K F μ ρ σ → GP X.K T F μ (c ρ S) (fun b _ _ H' _ => Q b H') (ErW X.K X.mg fun cls dd H' => W cls dd σ H') → t σ H Q
/-- a test within and, or -/
def RW (T : List (Addr × Str)) (X : Cx) (W : WX) (e : Expr) (c : BX) : Prop := ∃ t, PW X e t ∧
  ∀ σ ρ F μ S H (Q : Bool → Hp → Prop), SR X.K T F μ S H → EnvR X.K F μ ρ σ → GP X.K T F μ (c ρ S) (fun b _ _ H' _ => Q b H') (ErW X.K X.mg fun cls dd H' => W cls dd σ H') → t σ H Q
def RA (T : List (Addr × Str)) (X : Cx) (W : WX) (es : List Expr) (c : AX) : Prop := ∃ t, PA X es t ∧
  ∀ σ ρ F μ S H Q, SR X.K T F μ S H → EnvR X.K F μ ρ σ → GP X.K T F μ (c ρ S) (OkA X.K Q) (ErW X.K X.mg fun cls dd H' => W cls dd σ H') → t σ H Q
/-- keywords -/
def RK (T : List (Addr × Str)) (X : Cx) (W : WX) (kws : List Keyword) (c : AX) : Prop := ∃ t, PK X kws t ∧
  ∀ σ ρ F μ S H Q, SR X.K T F μ S H → EnvR X.K F μ ρ σ → GP X.K T F μ (c ρ S) (OkA X.K Q) (ErW X.K X.mg fun cls dd H' => W cls dd σ H') → t σ H Q

/-! ### ends -/
section
variable {K : PySem.W.Frag} {T : List (Addr × Str)} {F H : Hp} {μ : List Addr} {S : Store} {Q : VK} {er : XV → Hp → List Addr → Hp → Prop} {d : D} {v : V} {ds : List D} {vs : List V}
theorem gp_val (h : GP K T F μ (some (.ok d, S)) (OkV K false Q) er) (s : SR K T F μ S H) (r : Rep K F μ d v) : Q v H := h F μ H (Ex.refl _) (List.prefix_refl _) s v r
theorem gp_tup (h : GP K T F μ (some (.ok (.tup ds), S)) (OkV K false Q) er) (s : SR K T F μ S H) (r : Reps K F μ ds vs) : ∀ p, H p = none → Q (.ref p) (upd H p (.tup vs)) := fun p hp =>
  h (upd F p (.tup vs)) μ _ (Ex.new (fresh_back s.ex hp)) (List.prefix_refl _) (s.new hp) _ (.tup (st_of upd_same) (r.mono (Ex.new (fresh_back s.ex hp)) (List.prefix_refl _)))
theorem SR.notin (s : SR K T F μ S H) {p : Addr} (hp : H p = none) : p ∉ μ := fun hm => by
  obtain ⟨n, hn, e⟩ := List.mem_iff_getElem.mp hm
  obtain ⟨_, vs, _, h, _⟩ := s.get (n := n) (a := p) (by rw [List.getElem?_eq_getElem hn, e])
  rw [hp] at h; cases h
theorem gp_lst (h : GP K T F μ (some (.ok (.lst ds), S)) (OkV K true Q) er) (s : SR K T F μ S H) (r : Reps K F μ ds vs) : ∀ p, H p = none → Q (.ref p) (upd H p (.lst vs)) := fun p hp =>
  h F μ _ (Ex.refl _) (List.prefix_refl _) (s.lay hp) _ ⟨ds, p, vs, rfl, rfl, fresh_back s.ex hp, s.notin hp, upd_same, r⟩
/-- a list that was just made is a value -/
theorem ok_of_fresh {a : D} {F' H' : Hp} {μ' : List Addr} {S' : Store} (s : SR K T F' μ' S' H') (h : GP K T F' μ' (some (.ok a, S')) (OkV K false Q) er) : OkV K true Q a F' μ' H' S' := fun v hf => by
  obtain ⟨es, p, ws, rfl, rfl, hF, hm, hH, r⟩ := hf
  exact h (upd F' p (.lst ws)) μ' H' (Ex.new hF) (List.prefix_refl _) (s.freeze hF hm hH) _ (.lst upd_same (r.mono (Ex.new hF) (List.prefix_refl _)))
theorem gp_freeze {r : Out D} (h : GP K T F μ r (OkV K false Q) er) : GP K T F μ r (OkV K true Q) er := by
  match r, h with
  | some (.ok a, S), h => exact fun F' μ' H' e p s => ok_of_fresh s (GP.mono h e p)
  | some (.error x, S), h => exact h
end

section
variable {T : List (Addr × Str)} {X : Cx} {W : WX} {fr : Bool}
theorem RE.frozen {e : Expr} {c : EX} (h : RE T true X W e c) : RE T false X W e c := by
  obtain ⟨t, p, f⟩ := h
  exact ⟨t, p, fun σ ρ F μ S H Q s hE g => f σ ρ F μ S H Q s hE (gp_freeze g)⟩
/-- a new list becomes a list of the store -/
def cAlloc (c : EX) : EX := fun ρ S => bindO (c ρ S) fun d S => match d with
  | .lst ds => if D.pures ds = true then some (.ok (.loc S.length), S ++ [ds]) else none
  | _ => none
theorem RE.alloc {e : Expr} {c : EX} (h : RE T true X W e c) : RE T false X W e (cAlloc c) := by
  obtain ⟨t, p, f⟩ := h
  refine ⟨t, p, fun σ ρ F μ S H Q s hE g => f σ ρ F μ S H Q s hE (GP.seq g fun d F' μ' H' S' e p s' q v hf => ?_)⟩
  obtain ⟨ds, a, vs, rfl, rfl, hF, hm, hH, r⟩ := hf
  dsimp only at q
  split at q
  · rename_i hp
    exact q F' (μ' ++ [a]) H' (Ex.refl _) (List.prefix_append _ _) (s'.alloc hF hm hH r hp) _ (.loc (by rw [← s'.len, List.getElem?_append_right (Nat.le_refl _)]; simp))
  · exact q.elim
/-- what was allocated meanwhile is forgotten -/
def cScope (c : EX) : EX := fun ρ S => match c ρ S with
  | none => none
  | some (.ok d, S') => if d.pure = true then some (.ok d, S'.take S.length) else none
  | some (.error x, S') => if D.pures (x.fields.map (·.2)) = true then some (.error x, S'.take S.length) else none
theorem take_pre {μ μ' : List Addr} {S : Store} {K : PySem.W.Frag} {F H : Hp} (s : SR K T F μ S H) (p : μ <+: μ') : μ'.take S.length = μ := by
  obtain ⟨t, rfl⟩ := p
  rw [← s.len]; simp
theorem RE.scope {e : Expr} {c : EX} (h : RE T false X W e c) : RE T false X W e (cScope c) := by
  obtain ⟨t, p, f⟩ := h
  refine ⟨t, p, fun σ ρ F μ S H Q s hE g => f σ ρ F μ S H Q s hE ?_⟩
  unfold cScope at g
  match hc : c ρ S with
  | none => rw [hc] at g; exact g
  | some (.ok d, S') =>
    rw [hc] at g
    dsimp only at g
    split at g
    · rename_i hp
      intro F' μ' H' e p s' v r
      have s2 := s'.cut S.length
      rw [take_pre s p] at s2
      exact g F' μ H' e (List.prefix_refl _) s2 v (Rep.free r hp)
    · exact g.elim
  | some (.error x, S') =>
    rw [hc] at g
    dsimp only at g
    split at g
    · rename_i hp
      intro F' μ' H' e p s' cls dd r
      have s2 := s'.cut S.length
      rw [take_pre s p] at s2
      obtain ⟨C, h1, h2, h3⟩ := r
      refine g F' μ H' e (List.prefix_refl _) s2 cls dd ⟨C, h1, h2, h3.imp id fun ⟨d, vs, a1, a2, a3⟩ => ⟨d, vs, a1, a2.free hp, a3⟩⟩
    · exact g.elim

/-! ### names, constants -/
def cVar (i : Nat) : EX := fun ρ S => match ρ[i]? with
  | some (some d) => some (.ok d, S)
  | _ => none
theorem re_var {i : Nat} {x : Str} {pos : Pos} (hN : X.N[i]? = some x := by rfl) (hv : Vis X.env.scope x := by first | exact Or.inl rfl | exact Or.inr (Or.inl rfl) | exact Or.inr (Or.inr rfl)) (hd : (x == ("__debug__" : Str)) = false := by decide)
    (hcd : (x == ("__classdict__" : Str)) = false := by decide) : RE T false X W (.Name x pos) (cVar i) := by
  refine ⟨_, pe_var hN hv hd hcd, fun σ ρ F μ S H Q s hE g => ?_⟩
  unfold cVar at g
  split at g
  · rename_i d hd
    obtain ⟨v, h1, h2⟩ := hE.2 i d hd
    exact ⟨v, h1, gp_val g s h2⟩
  · exact g.elim
def cK (d : D) : EX := fun _ S => some (.ok d, S)
theorem re_int {i : Int} {j pos} : RE T false X W (.Constant (.int i) j pos) (cK (.int i)) := ⟨_, pe_int, fun σ ρ F μ S H Q s hE g => gp_val g s (.int i)⟩
theorem re_bl {b : Bool} {j pos} : RE T false X W (.Constant (.bool b) j pos) (cK (.bl b)) := ⟨_, pe_bl, fun σ ρ F μ S H Q s hE g => gp_val g s (.bl b)⟩
theorem re_non {j pos} : RE T false X W (.Constant .none j pos) (cK .non) := ⟨_, pe_non, fun σ ρ F μ S H Q s hE g => gp_val g s .non⟩
theorem re_str {x : Str} {j pos} : RE T false X W (.Constant (.str x) j pos) (cK (.str x)) := ⟨_, pe_str, fun σ ρ F μ S H Q s hE g => gp_val g s (.str x)⟩
/-- a module's constant: k says that K's value of the name is the datum -/
def GlobK (K : PySem.W.Frag) (mg : Str → Option Value) (x : Str) (d : D) : Prop := ∃ u v, mg x = some u ∧ RelV v u ∧ ∀ F μ, Rep K F μ d v
theorem re_glob {x : Str} {d : D} {pos : Pos} (k : GlobK X.K X.mg x d) (hg : Gl X x := by rfl) (hd : (x == ("__debug__" : Str)) = false := by decide) : RE T false X W (.Name x pos) (cK d) := by
  obtain ⟨u, v, h1, h2, h3⟩ := k
  exact ⟨_, pe_glob hg h1 h2 hd, fun σ ρ F μ S H Q s hE g => gp_val g s (h3 F μ)⟩

/-! ### operators -/
abbrev Op2 := D → D → Store → Out D
def OpOk (X : Cx) (T : List (Addr × Str)) (fr : Bool) (r : R2) (o : Op2) : Prop := ∀ F μ S H x y v u Q er, SR X.K T F μ S H → Rep X.K F μ x v → Rep X.K F μ y u → GP X.K T F μ (o x y S) (OkV X.K fr Q) er → r v u H Q
def cBin (o : Op2) (a b : EX) : EX := fun ρ S => bindO (a ρ S) fun x S => bindO (b ρ S) fun y S => o x y S
theorem two {e1 e2 : Expr} {a b : EX} {ta tb : TE} {r : R2} {o : Op2}
    (fa : ∀ σ ρ F μ S H Q, SR X.K T F μ S H → EnvR X.K F μ ρ σ → GP X.K T F μ (a ρ S) (OkV X.K false Q) (ErW X.K X.mg fun cls dd H' => W cls dd σ H') → ta σ H Q)
    (fb : ∀ σ ρ F μ S H Q, SR X.K T F μ S H → EnvR X.K F μ ρ σ → GP X.K T F μ (b ρ S) (OkV X.K false Q) (ErW X.K X.mg fun cls dd H' => W cls dd σ H') → tb σ H Q)
    (ho : OpOk X T fr r o) {σ ρ F μ S H Q} (s : SR X.K T F μ S H) (hE : EnvR X.K F μ ρ σ) (g : GP X.K T F μ (cBin o a b ρ S) (OkV X.K fr Q) (ErW X.K X.mg fun cls dd H' => W cls dd σ H')) :
    ta σ H fun x H1 => tb σ H1 fun y H2 => r x y H2 Q := by
  refine fa σ ρ F μ S H _ s hE (GP.seq g fun x F1 μ1 H1 S1 e1 p1 s1 g1 v rx => ?_)
  refine fb σ ρ F1 μ1 S1 H1 _ s1 (hE.mono e1 p1) (GP.seq g1 fun y F2 μ2 H2 S2 e2 p2 s2 g2 u ry => ?_)
  exact ho F2 μ2 S2 H2 x y v u Q _ s2 (Rep.mono e2 p2 rx) ry g2
theorem re_bin {op : Operator} {r : R2} {o : Op2} {e1 e2 : Expr} {a b : EX} {pos : Pos} (hr : OpR X (binaryOp op) r) (ho : OpOk X T fr r o) (ha : RE T false X W e1 a) (hb : RE T false X W e2 b) : RE T fr X W (.BinOp e1 op e2 pos) (cBin o a b) := by
  obtain ⟨ta, pa, fa⟩ := ha
  obtain ⟨tb, pb, fb⟩ := hb
  exact ⟨_, pe_op hr pa pb, fun σ ρ F μ S H Q s hE g => two (e1 := e1) (e2 := e2) fa fb ho s hE g⟩
theorem re_cmp {op : CmpOp} {r : R2} {o : Op2} {e1 e2 : Expr} {a b : EX} {pos : Pos} (hr : OpR X (compareOp op) r) (ho : OpOk X T false r o) (ha : RE T false X W e1 a) (hb : RE T false X W e2 b) (hm : behindInMarks op e2 = false) : RE T false X W (.Compare e1 [op] [e2] pos) (cBin o a b) := by
  obtain ⟨ta, pa, fa⟩ := ha
  obtain ⟨tb, pb, fb⟩ := hb
  exact ⟨_, pe_cmpR hr pa pb hm, fun σ ρ F μ S H Q s hE g => two (e1 := e1) (e2 := e2) fa fb ho s hE g⟩
/-- a value as a test -/
def cTest (c : EX) : BX := fun ρ S => bindO (c ρ S) fun d S => match d with
  | .bl b => some (.ok b, S)
  | _ => none
theorem testV {t : TE} {c : EX} {σ ρ F μ S H} {Q : Bool → Hp → Prop} (f : ∀ σ ρ F μ S H Q, SR X.K T F μ S H → EnvR X.K F μ ρ σ → GP X.K T F μ (c ρ S) (OkV X.K false Q) (ErW X.K X.mg fun cls dd H' => W cls dd σ H') → t σ H Q)
    (s : SR X.K T F μ S H) (hE : EnvR X.K F μ ρ σ) (g : GP X.K T F μ (cTest c ρ S) (fun b _ _ H' _ => Q b H') (ErW X.K X.mg fun cls dd H' => W cls dd σ H')) : t σ H fun x H' => ∃ k, x = .bl k ∧ Q k H' := by
  refine f σ ρ F μ S H _ s hE (GP.seq g fun x F1 μ1 H1 S1 e1 p1 s1 g1 v rx => ?_)
  cases rx with
  | bl b => exact ⟨b, rfl, GP.here g1 s1⟩
  | _ => exact g1.elim
theorem rt_cmp {op : CmpOp} {r : R2} {o : Op2} {e1 e2 : Expr} {a b : EX} {pos : Pos} (hr : OpR X (compareOp op) r) (ho : OpOk X T false r o) (ha : RE T false X W e1 a) (hb : RE T false X W e2 b) (hm : behindInMarks op e2 = false) : RT T X W (.Compare e1 [op] [e2] pos) (cTest (cBin o a b)) := by
  obtain ⟨ta, pa, fa⟩ := ha
  obtain ⟨tb, pb, fb⟩ := hb
  exact ⟨_, pt_cmpR hr pa pb hm, fun σ ρ F μ S H Q s hE g => testV (fun σ ρ F μ S H Q s hE g => two (e1 := e1) (e2 := e2) fa fb ho s hE g) s hE g⟩
theorem rt_val {e : Expr} {c : EX} (h : RE T false X W e c) (he : ∀ whole, isTrue e X.env whole = (do let v ← whole; standAt e.pos; holding [v] (truthy v)) := by intro _; rfl) : RT T X W e (cTest c) := by
  obtain ⟨t, p, f⟩ := h
  exact ⟨_, pt_val p he, fun σ ρ F μ S H Q s hE g => testV f s hE g⟩
/-- a < b < c -/
def cChain (o o' : Op2) (a b c : EX) : EX := fun ρ S => bindO (a ρ S) fun x S => bindO (b ρ S) fun y S => bindO (o x y S) fun z S => match z with
  | .bl true => bindO (c ρ S) fun w S => o' y w S
  | .bl false => some (.ok (.bl false), S)
  | _ => none
theorem chain3 {a b c : EX} {ta tb tc : TE} {r r' : R2} {o o' : Op2}
    (fa : ∀ σ ρ F μ S H Q, SR X.K T F μ S H → EnvR X.K F μ ρ σ → GP X.K T F μ (a ρ S) (OkV X.K false Q) (ErW X.K X.mg fun cls dd H' => W cls dd σ H') → ta σ H Q)
    (fb : ∀ σ ρ F μ S H Q, SR X.K T F μ S H → EnvR X.K F μ ρ σ → GP X.K T F μ (b ρ S) (OkV X.K false Q) (ErW X.K X.mg fun cls dd H' => W cls dd σ H') → tb σ H Q)
    (fc : ∀ σ ρ F μ S H Q, SR X.K T F μ S H → EnvR X.K F μ ρ σ → GP X.K T F μ (c ρ S) (OkV X.K false Q) (ErW X.K X.mg fun cls dd H' => W cls dd σ H') → tc σ H Q)
    (ho : OpOk X T false r o) (ho' : OpOk X T false r' o') {σ ρ F μ S H Q} (s : SR X.K T F μ S H) (hE : EnvR X.K F μ ρ σ) (g : GP X.K T F μ (cChain o o' a b c ρ S) (OkV X.K false Q) (ErW X.K X.mg fun cls dd H' => W cls dd σ H')) :
    tChain r r' ta tb tc σ H Q := by
  refine fa σ ρ F μ S H _ s hE (GP.seq g fun x F1 μ1 H1 S1 e1 p1 s1 g1 v rx => ?_)
  refine fb σ ρ F1 μ1 S1 H1 _ s1 (hE.mono e1 p1) (GP.seq g1 fun y F2 μ2 H2 S2 e2 p2 s2 g2 u ry => ?_)
  refine ho F2 μ2 S2 H2 x y v u _ _ s2 (Rep.mono e2 p2 rx) ry (GP.seq g2 fun z F3 μ3 H3 S3 e3 p3 s3 g3 w rz => ?_)
  cases rz with
  | bl k =>
    refine ⟨k, rfl, ?_⟩
    cases k with
    | true =>
      rw [if_pos rfl]
      refine fc σ ρ F3 μ3 S3 H3 _ s3 (((hE.mono e1 p1).mono e2 p2).mono e3 p3) (GP.seq g3 fun q F4 μ4 H4 S4 e4 p4 s4 g4 w' rw' => ?_)
      exact ho' F4 μ4 S4 H4 y q u w' Q _ s4 (Rep.mono e4 p4 (Rep.mono e3 p3 ry)) rw' g4
    | false =>
      rw [if_neg Bool.false_ne_true]
      exact gp_val g3 s3 (.bl false)
  | _ => exact g3.elim
theorem re_chain {op op' : CmpOp} {r r' : R2} {o o' : Op2} {e1 e2 e3 : Expr} {a b c : EX} {pos : Pos} (hr : OpR X (compareOp op) r) (hr' : OpR X (compareOp op') r') (ho : OpOk X T false r o) (ho' : OpOk X T false r' o')
    (ha : RE T false X W e1 a) (hb : RE T false X W e2 b) (hc : RE T false X W e3 c) (hm : lastMarks [op, op'] [e2, e3] = false := by with_unfolding_all rfl) : RE T false X W (.Compare e1 [op, op'] [e2, e3] pos) (cChain o o' a b c) := by
  obtain ⟨ta, pa, fa⟩ := ha
  obtain ⟨tb, pb, fb⟩ := hb
  obtain ⟨tc, pc, fc⟩ := hc
  exact ⟨_, pe_chain hr hr' pa pb pc hm, fun σ ρ F μ S H Q s hE g => chain3 fa fb fc ho ho' s hE g⟩
theorem rt_chain {op op' : CmpOp} {r r' : R2} {o o' : Op2} {e1 e2 e3 : Expr} {a b c : EX} {pos : Pos} (hr : OpR X (compareOp op) r) (hr' : OpR X (compareOp op') r') (ho : OpOk X T false r o) (ho' : OpOk X T false r' o')
    (ha : RE T false X W e1 a) (hb : RE T false X W e2 b) (hc : RE T false X W e3 c) (hm : lastMarks [op, op'] [e2, e3] = false := by with_unfolding_all rfl) : RT T X W (.Compare e1 [op, op'] [e2, e3] pos) (cTest (cChain o o' a b c)) := by
  obtain ⟨ta, pa, fa⟩ := ha
  obtain ⟨tb, pb, fb⟩ := hb
  obtain ⟨tc, pc, fc⟩ := hc
  exact ⟨_, pt_chain hr hr' pa pb pc hm, fun σ ρ F μ S H Q s hE g => testV (fun σ ρ F μ S H Q s hE g => chain3 fa fb fc ho ho' s hE g) s hE g⟩

/-! ### and, or, not -/
def bAnd (a b : BX) : BX := fun ρ S => bindO (a ρ S) fun x S => match x with
  | true => b ρ S
  | false => some (.ok false, S)
def bOr (a b : BX) : BX := fun ρ S => bindO (a ρ S) fun x S => match x with
  | true => some (.ok true, S)
  | false => b ρ S
def bNot (a : BX) : BX := fun ρ S => bindO (a ρ S) fun x S => some (.ok (!x), S)
theorem rw_and1 {e : Expr} {c : BX} {pos : Pos} (h : RT T X W e c) : RW T X W (.BoolOp .And [e] pos) c := let ⟨t, p, f⟩ := h; ⟨t, pw_and1 p, f⟩
theorem rw_or1 {e : Expr} {c : BX} {pos : Pos} (h : RT T X W e c) : RW T X W (.BoolOp .Or [e] pos) c := let ⟨t, p, f⟩ := h; ⟨t, pw_or1 p, f⟩
theorem rw_and {e e2 : Expr} {es : List Expr} {a b : BX} {pos : Pos} (h : RT T X W e a) (h2 : RW T X W (.BoolOp .And (e2 :: es) pos) b) : RW T X W (.BoolOp .And (e :: e2 :: es) pos) (bAnd a b) := by
  obtain ⟨ta, pa, fa⟩ := h
  obtain ⟨tb, pb, fb⟩ := h2
  refine ⟨_, pw_and pa pb, fun σ ρ F μ S H Q s hE g => ?_⟩
  refine fa σ ρ F μ S H _ s hE (GP.seq g fun x F1 μ1 H1 S1 e1 p1 s1 g1 => ?_)
  cases x with
  | true => rw [if_pos rfl]; exact fb σ ρ F1 μ1 S1 H1 Q s1 (hE.mono e1 p1) g1
  | false => rw [if_neg Bool.false_ne_true]; exact GP.here g1 s1
theorem rw_or {e e2 : Expr} {es : List Expr} {a b : BX} {pos : Pos} (h : RT T X W e a) (h2 : RW T X W (.BoolOp .Or (e2 :: es) pos) b) : RW T X W (.BoolOp .Or (e :: e2 :: es) pos) (bOr a b) := by
  obtain ⟨ta, pa, fa⟩ := h
  obtain ⟨tb, pb, fb⟩ := h2
  refine ⟨_, pw_or pa pb, fun σ ρ F μ S H Q s hE g => ?_⟩
  refine fa σ ρ F μ S H _ s hE (GP.seq g fun x F1 μ1 H1 S1 e1 p1 s1 g1 => ?_)
  cases x with
  | true => rw [if_pos rfl]; exact GP.here g1 s1
  | false => rw [if_neg Bool.false_ne_true]; exact fb σ ρ F1 μ1 S1 H1 Q s1 (hE.mono e1 p1) g1
theorem RW.t {e : Expr} {c : BX} (h : RW T X W e c) : RT T X W e c := let ⟨t, p, f⟩ := h; ⟨t, p.pt, f⟩
theorem rt_not {e : Expr} {c : BX} {pos : Pos} (h : RT T X W e c) : RT T X W (.UnaryOp .Not e pos) (bNot c) := by
  obtain ⟨ta, pa, fa⟩ := h
  refine ⟨_, pt_not pa, fun σ ρ F μ S H Q s hE g => ?_⟩
  exact fa σ ρ F μ S H _ s hE (GP.seq g fun x F1 μ1 H1 S1 e1 p1 s1 g1 => GP.here g1 s1)
/-- as values: the first ones are bools -/
def cAnd (a b : EX) : EX := fun ρ S => bindO (a ρ S) fun x S => match x with
  | .bl true => b ρ S
  | .bl false => some (.ok (.bl false), S)
  | _ => none
def cOr (a b : EX) : EX := fun ρ S => bindO (a ρ S) fun x S => match x with
  | .bl true => some (.ok (.bl true), S)
  | .bl false => b ρ S
  | _ => none
def cNot (a : EX) : EX := fun ρ S => bindO (a ρ S) fun x S => match x with
  | .bl b => some (.ok (.bl (!b)), S)
  | _ => none
theorem re_one {e : Expr} {c : EX} {op} {pos : Pos} (h : RE T false X W e c) : RE T false X W (.BoolOp op [e] pos) c := let ⟨t, p, f⟩ := h; ⟨t, pe_one p, f⟩
theorem re_and {e e2 : Expr} {es : List Expr} {a b : EX} {pos : Pos} (h : RE T false X W e a) (h2 : RE T false X W (.BoolOp .And (e2 :: es) pos) b) : RE T false X W (.BoolOp .And (e :: e2 :: es) pos) (cAnd a b) := by
  obtain ⟨ta, pa, fa⟩ := h
  obtain ⟨tb, pb, fb⟩ := h2
  refine ⟨_, pe_and pa pb, fun σ ρ F μ S H Q s hE g => ?_⟩
  refine fa σ ρ F μ S H _ s hE (GP.seq g fun x F1 μ1 H1 S1 e1 p1 s1 g1 v rv => ?_)
  cases rv with
  | bl k =>
    refine ⟨k, rfl, ?_⟩
    cases k with
    | true => rw [if_pos rfl]; exact fb σ ρ F1 μ1 S1 H1 Q s1 (hE.mono e1 p1) g1
    | false => rw [if_neg Bool.false_ne_true]; exact gp_val g1 s1 (.bl false)
  | _ => exact g1.elim
theorem re_or {e e2 : Expr} {es : List Expr} {a b : EX} {pos : Pos} (h : RE T false X W e a) (h2 : RE T false X W (.BoolOp .Or (e2 :: es) pos) b) : RE T false X W (.BoolOp .Or (e :: e2 :: es) pos) (cOr a b) := by
  obtain ⟨ta, pa, fa⟩ := h
  obtain ⟨tb, pb, fb⟩ := h2
  refine ⟨_, pe_or pa pb, fun σ ρ F μ S H Q s hE g => ?_⟩
  refine fa σ ρ F μ S H _ s hE (GP.seq g fun x F1 μ1 H1 S1 e1 p1 s1 g1 v rv => ?_)
  cases rv with
  | bl k =>
    refine ⟨k, rfl, ?_⟩
    cases k with
    | true => rw [if_pos rfl]; exact gp_val g1 s1 (.bl true)
    | false => rw [if_neg Bool.false_ne_true]; exact fb σ ρ F1 μ1 S1 H1 Q s1 (hE.mono e1 p1) g1
  | _ => exact g1.elim
theorem re_not {e : Expr} {c : EX} {pos : Pos} (h : RE T false X W e c) : RE T false X W (.UnaryOp .Not e pos) (cNot c) := by
  obtain ⟨ta, pa, fa⟩ := h
  refine ⟨_, pe_not pa, fun σ ρ F μ S H Q s hE g => ?_⟩
  refine fa σ ρ F μ S H _ s hE (GP.seq g fun x F1 μ1 H1 S1 e1 p1 s1 g1 v rv => ?_)
  cases rv with
  | bl k => exact ⟨k, rfl, gp_val g1 s1 (.bl _)⟩
  | _ => exact g1.elim
def cIfE (c : BX) (a b : EX) : EX := fun ρ S => bindO (c ρ S) fun x S => match x with
  | true => a ρ S
  | false => b ρ S
theorem re_if {t e1 e2 : Expr} {c : BX} {a b : EX} {pos : Pos} (h : RT T X W t c) (ha : RE T fr X W e1 a) (hb : RE T fr X W e2 b) : RE T fr X W (.IfExp t e1 e2 pos) (cIfE c a b) := by
  obtain ⟨tc, pc, fc⟩ := h
  obtain ⟨ta, pa, fa⟩ := ha
  obtain ⟨tb, pb, fb⟩ := hb
  refine ⟨_, pe_ifExp pc pa pb, fun σ ρ F μ S H Q s hE g => ?_⟩
  refine fc σ ρ F μ S H _ s hE (GP.seq g fun x F1 μ1 H1 S1 e1 p1 s1 g1 => ?_)
  cases x with
  | true => rw [if_pos rfl]; exact fa σ ρ F1 μ1 S1 H1 Q s1 (hE.mono e1 p1) g1
  | false => rw [if_neg Bool.false_ne_true]; exact fb σ ρ F1 μ1 S1 H1 Q s1 (hE.mono e1 p1) g1
/-- -a -/
def oNeg : D → Store → Out D
  | .int i, S => some (.ok (.int (-i)), S)
  | _, _ => none
def cUn (o : D → Store → Out D) (a : EX) : EX := fun ρ S => bindO (a ρ S) fun x S => o x S
theorem re_neg {e : Expr} {c : EX} {pos : Pos} (h : RE T false X W e c) : RE T false X W (.UnaryOp .USub e pos) (cUn oNeg c) := by
  obtain ⟨ta, pa, fa⟩ := h
  refine ⟨_, pe_un un_neg pa, fun σ ρ F μ S H Q s hE g => ?_⟩
  refine fa σ ρ F μ S H _ s hE (GP.seq g fun x F1 μ1 H1 S1 e1 p1 s1 g1 v rv => ?_)
  cases rv with
  | int i => exact ⟨i, rfl, gp_val g1 s1 (.int _)⟩
  | _ => exact g1.elim

/-! ### argument lists, displays -/
def aNil : AX := fun _ S => some (.ok [], S)
def aCons (a : EX) (r : AX) : AX := fun ρ S => bindO (a ρ S) fun x S => bindO (r ρ S) fun xs S => some (.ok (x :: xs), S)
theorem ra_nil : RA T X W [] aNil := ⟨_, pa_nil, fun σ ρ F μ S H Q s hE g => GP.here g s [] .nil⟩
theorem acons {a : EX} {r : AX} {ta : TE} {tr : TA}
    (fa : ∀ σ ρ F μ S H Q, SR X.K T F μ S H → EnvR X.K F μ ρ σ → GP X.K T F μ (a ρ S) (OkV X.K false Q) (ErW X.K X.mg fun cls dd H' => W cls dd σ H') → ta σ H Q)
    (fr : ∀ σ ρ F μ S H Q, SR X.K T F μ S H → EnvR X.K F μ ρ σ → GP X.K T F μ (r ρ S) (OkA X.K Q) (ErW X.K X.mg fun cls dd H' => W cls dd σ H') → tr σ H Q)
    {σ ρ F μ S H Q} (s : SR X.K T F μ S H) (hE : EnvR X.K F μ ρ σ) (g : GP X.K T F μ (aCons a r ρ S) (OkA X.K Q) (ErW X.K X.mg fun cls dd H' => W cls dd σ H')) : tCons ta tr σ H Q := by
  refine fa σ ρ F μ S H _ s hE (GP.seq g fun x F1 μ1 H1 S1 e1 p1 s1 g1 v rx => ?_)
  refine fr σ ρ F1 μ1 S1 H1 _ s1 (hE.mono e1 p1) (GP.seq g1 fun xs F2 μ2 H2 S2 e2 p2 s2 g2 vs rs => ?_)
  exact GP.here g2 s2 _ (.cons (Rep.mono e2 p2 rx) rs)
theorem ra_cons {e : Expr} {es : List Expr} {a : EX} {r : AX} (h : RE T false X W e a) (hr : RA T X W es r) (hs : starEach (e :: es) X.env = (false, eval e X.env) :: starEach es X.env := by rfl) : RA T X W (e :: es) (aCons a r) := by
  obtain ⟨ta, pa, fa⟩ := h
  obtain ⟨tr, pr, fr⟩ := hr
  exact ⟨_, pa_cons pa pr hs, fun σ ρ F μ S H Q s hE g => acons fa fr s hE g⟩
theorem rk_nil : RK T X W [] aNil := ⟨_, pk_nil, fun σ ρ F μ S H Q s hE g => GP.here g s [] .nil⟩
theorem rk_cons {e : Expr} {nm : Option Str} {kpos : Pos} {es : List Keyword} {a : EX} {r : AX} (h : RE T false X W e a) (hr : RK T X W es r) : RK T X W (⟨nm, e, kpos⟩ :: es) (aCons a r) := by
  obtain ⟨ta, pa, fa⟩ := h
  obtain ⟨tr, pr, fr⟩ := hr
  exact ⟨_, pk_cons pa pr, fun σ ρ F μ S H Q s hE g => acons fa fr s hE g⟩
/-- sizes that are let -/
abbrev lim : Nat := 1000000
theorem lim_ok {n : Nat} (h : n ≤ lim) : n ≤ sizeLine := Nat.le_trans h (by decide)
def cTup (r : AX) : EX := fun ρ S => bindO (r ρ S) fun xs S => if xs.length ≤ lim then some (.ok (.tup xs), S) else none
def cLst (r : AX) : EX := fun ρ S => bindO (r ρ S) fun xs S => if xs.length ≤ lim then some (.ok (.lst xs), S) else none
theorem re_tup {es : List Expr} {x1 : Nat} {pos : Pos} {r : AX} (h : RA T X W es r) : RE T false X W (.Tuple es x1 pos) (cTup r) := by
  obtain ⟨t, p, f⟩ := h
  refine ⟨_, pe_tup p, fun σ ρ F μ S H Q s hE g => ?_⟩
  refine f σ ρ F μ S H _ s hE (GP.seq g fun xs F1 μ1 H1 S1 e1 p1 s1 g1 vs rs => ?_)
  split at g1
  · rename_i hz
    exact ⟨by rw [← rs.length]; exact lim_ok hz, gp_tup g1 s1 rs⟩
  · exact g1.elim
theorem re_lst {es : List Expr} {pos : Pos} {r : AX} (h : RA T X W es r) : RE T true X W (.List es pos) (cLst r) := by
  obtain ⟨t, p, f⟩ := h
  refine ⟨_, pe_lst p, fun σ ρ F μ S H Q s hE g => ?_⟩
  refine f σ ρ F μ S H _ s hE (GP.seq g fun xs F1 μ1 H1 S1 e1 p1 s1 g1 vs rs => ?_)
  split at g1
  · rename_i hz
    exact ⟨by rw [← rs.length]; exact lim_ok hz, gp_lst g1 s1 rs⟩
  · exact g1.elim
end
end PF
set_option Elab.async false
set_option linter.all false
set_option maxRecDepth 100000
set_option maxHeartbeats 4000000
/-! PF3: operators by data, indexes, slices, built-in functions. -/
namespace PF
open PySem L2 Evl
/-! ### sequences -/
def asL : D → Store → Option (List D)
  | .lst xs, _ => some xs
  | .loc n, S => S[n]?
  | .fz xs, _ => some xs
  | _, _ => none
def asT : D → Option (List D)
  | .tup xs => some xs
  | _ => none
def asS : D → Store → Option (List D)
  | .tup xs, _ => some xs
  | d, S => asL d S
section
variable {K : PySem.W.Frag} {T : List (Addr × Str)} {F H : Hp} {μ : List Addr} {S : Store} {d : D} {v : V} {ds : List D}
theorem asL_ok (s : SR K T F μ S H) (r : Rep K F μ d v) (h : asL d S = some ds) : ∃ a vs, v = .ref a ∧ SqL K H a vs ∧ Reps K F μ ds vs := by
  cases r with
  | lst hq rs => simp [asL] at h; subst h; exact ⟨_, _, rfl, sq_of (s.ex _ _ hq), rs⟩
  | fz hq rs => simp [asL] at h; subst h; exact ⟨_, _, rfl, s.sqL hq, rs⟩
  | loc hm =>
    simp [asL] at h
    obtain ⟨es, vs, h1, h2, h3, _⟩ := s.get hm
    rw [h1] at h; cases h
    exact ⟨_, vs, rfl, sq_of h2, h3⟩
  | _ => simp [asL] at h
theorem asT_ok (s : SR K T F μ S H) (r : Rep K F μ d v) (h : asT d = some ds) : ∃ a vs, v = .ref a ∧ SqT K H a vs ∧ Reps K F μ ds vs := by
  cases r with
  | tup hq rs => simp [asT] at h; subst h; exact ⟨_, _, rfl, s.sqT hq, rs⟩
  | _ => simp [asT] at h
theorem asS_ok (s : SR K T F μ S H) (r : Rep K F μ d v) (h : asS d S = some ds) : ∃ a vs, v = .ref a ∧ (SqL K H a vs ∨ SqT K H a vs) ∧ Reps K F μ ds vs := by
  cases r with
  | tup hq rs => simp [asS] at h; subst h; exact ⟨_, _, rfl, .inr (s.sqT hq), rs⟩
  | lst hq rs =>
    obtain ⟨a, vs, h1, h2, h3⟩ := asL_ok s (.lst hq rs) (ds := ds) (by simpa [asS] using h)
    exact ⟨a, vs, h1, .inl h2, h3⟩
  | fz hq rs =>
    obtain ⟨a, vs, h1, h2, h3⟩ := asL_ok s (.fz hq rs) (ds := ds) (by simpa [asS] using h)
    exact ⟨a, vs, h1, .inl h2, h3⟩
  | loc hm =>
    obtain ⟨a, vs, h1, h2, h3⟩ := asL_ok s (.loc hm) (ds := ds) (by simpa [asS] using h)
    exact ⟨a, vs, h1, .inl h2, h3⟩
  | _ => simp [asS, asL] at h
end
section
variable {X : Cx} {T : List (Addr × Str)}
/-! ### numbers -/
def oI (C : Int → Int → Bool) (g : Int → Int → D) : Op2 := fun x y S => match x, y with
  | .int i, .int j => if C i j = true then some (.ok (g i j), S) else none
  | _, _ => none
theorem oI_ok {C : Int → Int → Bool} {P : Int → Int → Prop} {g : Int → Int → V} {g' : Int → Int → D} (hC : ∀ i j, C i j = true → P i j) (hg : ∀ K F μ i j, Rep K F μ (g' i j) (g i j)) : OpOk X T false (rI P g) (oI C g') := by
  intro F μ S H x y v u Q er s rx ry h
  unfold oI at h
  cases rx with
  | int i =>
    cases ry with
    | int j =>
      dsimp only at h
      split at h
      · rename_i hc
        exact ⟨i, j, rfl, rfl, hC i j hc, gp_val h s (hg _ _ _ i j)⟩
      · exact h.elim
    | _ => exact h.elim
  | _ => exact h.elim
theorem oI0_ok {g : Int → Int → V} {g' : Int → Int → D} (hg : ∀ K F μ i j, Rep K F μ (g' i j) (g i j)) : OpOk X T false (rI0 g) (oI (fun _ _ => true) g') := by
  intro F μ S H x y v u Q er s rx ry h
  unfold oI at h
  cases rx with
  | int i =>
    cases ry with
    | int j => exact ⟨i, j, rfl, rfl, gp_val h s (hg _ _ _ i j)⟩
    | _ => exact h.elim
  | _ => exact h.elim
abbrev lim64 : Nat := 18446744073709551616
def oSub : Op2 := oI (fun _ _ => true) fun i j => .int (i - j)
theorem oSub_ok : OpOk X T false (rI0 fun i j => .int (i - j)) oSub := oI0_ok fun _ _ _ _ _ => .int _
def oMul : Op2 := oI (fun i j => decide (i.natAbs < lim64 ∨ j.natAbs < lim64)) fun i j => .int (i * j)
theorem oMul_ok : OpOk X T false (rI CMul fun i j => .int (i * j)) oMul := oI_ok (fun i j h => by
  have h := of_decide_eq_true h
  unfold CMul
  unfold lim64 at h
  rcases h with h | h
  · left; omega
  · right; omega) fun _ _ _ _ _ => .int _
def oDiv : Op2 := oI (fun _ j => decide (j ≠ 0 ∧ j.natAbs < 1073741824)) fun i j => .int (i.fdiv j)
theorem oDiv_ok : OpOk X T false (rI CDivN fun i j => .int (i.fdiv j)) oDiv := oI_ok (fun i j h => (of_decide_eq_true h : j ≠ 0 ∧ j.natAbs < 1073741824)) fun _ _ _ _ _ => .int _
def oMod : Op2 := oI (fun _ j => decide (j ≠ 0)) fun i j => .int (i.fmod j)
theorem oMod_ok : OpOk X T false (rI (fun _ j => j ≠ 0) fun i j => .int (i.fmod j)) oMod := oI_ok (fun i j h => of_decide_eq_true h) fun _ _ _ _ _ => .int _
def oPow : Op2 := oI (fun i j => decide (0 ≤ j ∧ j ≤ 1000 ∧ i.natAbs < lim64)) fun i j => .int (i ^ j.toNat)
theorem oPow_ok : OpOk X T false (rI CPow fun i j => .int (i ^ j.toNat)) oPow := oI_ok (fun i j h => by
  have h := of_decide_eq_true h
  unfold lim64 at h
  exact ⟨h.1, by omega, by omega⟩) fun _ _ _ _ _ => .int _
def oLt : Op2 := oI (fun _ _ => true) fun i j => .bl (decide (i < j))
theorem oLt_ok : OpOk X T false (rI0 fun i j => .bl (decide (i < j))) oLt := oI0_ok fun _ _ _ _ _ => .bl _
def oLe : Op2 := oI (fun _ _ => true) fun i j => .bl (decide (i ≤ j))
theorem oLe_ok : OpOk X T false (rI0 fun i j => .bl (decide (i ≤ j))) oLe := oI0_ok fun _ _ _ _ _ => .bl _
def oGt : Op2 := oI (fun _ _ => true) fun i j => .bl (decide (j < i))
theorem oGt_ok : OpOk X T false (rI0 fun i j => .bl (decide (j < i))) oGt := oI0_ok fun _ _ _ _ _ => .bl _
def oGe : Op2 := oI (fun _ _ => true) fun i j => .bl (decide (j ≤ i))
theorem oGe_ok : OpOk X T false (rI0 fun i j => .bl (decide (j ≤ i))) oGe := oI0_ok fun _ _ _ _ _ => .bl _
theorem OpOk.or {fr : Bool} {r r' : R2} {o o' : Op2} {o2 : Op2} (h : OpOk X T fr r o) (h' : OpOk X T fr r' o') (e : ∀ x y S, o2 x y S = o x y S ∨ o2 x y S = o' x y S) : OpOk X T fr (fun x y H Q => r x y H Q ∨ r' x y H Q) o2 := by
  intro F μ S H x y v u Q er s rx ry g
  rcases e x y S with q | q
  · rw [q] at g; exact .inl (h F μ S H x y v u Q er s rx ry g)
  · rw [q] at g; exact .inr (h' F μ S H x y v u Q er s rx ry g)
/-! ### + -/
def oAdd : Op2 := fun x y S => match x, y with
  | .int i, .int j => some (.ok (.int (i + j)), S)
  | .str i, .str j => if i.length + j.length ≤ lim then some (.ok (.str (i ++ j)), S) else none
  | .tup i, .tup j => if i.length + j.length ≤ lim then some (.ok (.tup (i ++ j)), S) else none
  | _, _ => none
def rAdd3 (K : PySem.W.Frag) : R2 := fun x y H Q => (∃ i j, x = .int i ∧ y = .int j ∧ Q (.int (i + j)) H) ∨ (∃ i j, x = .str i ∧ y = .str j ∧ i.length + j.length ≤ sizeLine ∧ Q (.str (i ++ j)) H) ∨ rCatA K x y H Q
theorem op_add3 : OpR X (binaryOp .Add) (rAdd3 X.K) := op_add.or (op_add_str.or op_catA)
theorem oAdd_ok : OpOk X T false (rAdd3 X.K) oAdd := by
  intro F μ S H x y v u Q er s rx ry h
  unfold oAdd at h
  cases rx with
  | int i =>
    cases ry with
    | int j => exact .inl ⟨i, j, rfl, rfl, gp_val h s (.int _)⟩
    | _ => exact h.elim
  | str i =>
    cases ry with
    | str j =>
      dsimp only at h
      split at h
      · rename_i hz
        exact .inr (.inl ⟨i, j, rfl, rfl, lim_ok hz, gp_val h s (.str _)⟩)
      · exact h.elim
    | _ => exact h.elim
  | @tup a xs ds h1 r1 =>
    cases ry with
    | @tup b ys es h2 r2 =>
      dsimp only at h
      split at h
      · rename_i hz
        refine .inr (.inr ⟨a, b, xs, ys, rfl, rfl, s.sqT h1, s.sqT h2, by rw [← r1.length, ← r2.length]; exact lim_ok hz, fun z => ?_, fun _ z => ?_, fun _ _ => gp_tup h s (r1.append r2)⟩)
        · subst z
          have e : ds = [] := by cases r1; rfl
          subst e
          exact gp_val h s (.tup h2 (by simpa using r2))
        · subst z
          have e : es = [] := by cases r2; rfl
          subst e
          exact gp_val h s (.tup h1 (by simpa using r1))
      · exact h.elim
    | _ => exact h.elim
  | _ => exact h.elim
/-- two lists: a new one -/
def asM : D → Store → Option (List D)
  | .lst xs, _ => some xs
  | .loc n, S => S[n]?
  | _, _ => none
theorem asM_ok {K : PySem.W.Frag} {F H : Hp} {μ : List Addr} {S : Store} {d : D} {v : V} {ds : List D} (s : SR K T F μ S H) (r : Rep K F μ d v) (h : asM d S = some ds) : ∃ a vs, v = .ref a ∧ H a = some (.lst vs) ∧ Reps K F μ ds vs := by
  cases r with
  | lst hq rs => simp [asM] at h; subst h; exact ⟨_, _, rfl, s.ex _ _ hq, rs⟩
  | loc hm =>
    simp [asM] at h
    obtain ⟨es, vs, h1, h2, h3, _⟩ := s.get hm
    rw [h1] at h; cases h
    exact ⟨_, vs, rfl, h2, h3⟩
  | _ => simp [asM] at h
def oCat : Op2 := fun x y S => match asM x S with
  | some i => (match asM y S with
    | some j => if i.length + j.length ≤ lim then some (.ok (.lst (i ++ j)), S) else none
    | none => none)
  | none => none
theorem oCat_ok : OpOk X T true rCat oCat := by
  intro F μ S H x y v u Q er s rx ry h
  unfold oCat at h
  split at h
  · rename_i i hi
    split at h
    · rename_i j hj
      split at h
      · rename_i hz
        obtain ⟨a, xs, rfl, h1, r1⟩ := asM_ok s rx hi
        obtain ⟨b, ys, rfl, h2, r2⟩ := asM_ok s ry hj
        exact ⟨a, b, xs, ys, rfl, rfl, h1, h2, by rw [← r1.length, ← r2.length]; exact lim_ok hz, gp_lst h s (r1.append r2)⟩
      · exact h.elim
    · exact h.elim
  · exact h.elim
/-- xs * k -/
def oRepL : Op2 := fun x y S => match asM x S, y with
  | some i, .int k => if k ≤ 10000 ∧ -10000 ≤ k ∧ i.length * k.toNat ≤ lim then some (.ok (.lst (List.replicate k.toNat i).flatten), S) else none
  | _, _ => none
theorem Reps.rep {K : PySem.W.Frag} {F : Hp} {μ : List Addr} {ds : List D} {vs : List V} (r : Reps K F μ ds vs) : ∀ k : Nat, Reps K F μ (List.replicate k ds).flatten (List.replicate k vs).flatten
  | 0 => .nil
  | k + 1 => by
    rw [List.replicate_succ, List.replicate_succ, List.flatten_cons, List.flatten_cons]
    exact r.append (Reps.rep r k)
theorem oRepL_ok : OpOk X T true rRep oRepL := by
  intro F μ S H x y v u Q er s rx ry h
  unfold oRepL at h
  split at h
  · rename_i i k hi
    split at h
    · rename_i hz
      obtain ⟨a, xs, rfl, h1, r1⟩ := asM_ok s rx hi
      cases ry
      exact ⟨a, k, xs, rfl, rfl, h1, by omega, by omega, by rw [← r1.length]; exact lim_ok hz.2.2, gp_lst h s (r1.rep _)⟩
    · exact h.elim
  · exact h.elim
/-! ### == -/
mutual
def D.eqv : D → D → Bool
  | .non, .non => true
  | .bl a, .bl b => a == b
  | .bl a, .int j => (if a then 1 else 0) == j
  | .int i, .bl b => i == (if b then 1 else 0)
  | .int i, .int j => i == j
  | .str x, .str y => x == y
  | .lst xs, .lst ys => D.eqvs xs ys
  | .tup xs, .tup ys => D.eqvs xs ys
  | _, _ => false
def D.eqvs : List D → List D → Bool
  | [], [] => true
  | x :: xs, y :: ys => D.eqv x y && D.eqvs xs ys
  | _, _ => false
end
mutual
def D.py : D → PyData
  | .non => .none
  | .bl b => .bool b
  | .int i => .int i
  | .str x => .str x
  | .tup xs => .tuple (D.pys xs)
  | .lst xs => .list (D.pys xs)
  | .loc _ => .none
  | .fz _ => .none
def D.pys : List D → List PyData
  | [] => []
  | x :: xs => D.py x :: D.pys xs
end
mutual
theorem py_eqv : ∀ (d e : D), d.pure = true → e.pure = true → PyData.eqv d.py e.py = D.eqv d e
  | .tup xs, .tup ys, h, k => by
    rw [D.pure] at h k
    simp only [D.py, PyData.eqv, D.eqv]; exact pys_eqv xs ys h k
  | .lst xs, .lst ys, h, k => by
    rw [D.pure] at h k
    simp only [D.py, PyData.eqv, D.eqv]; exact pys_eqv xs ys h k
  | .non, e, h, k => by cases e <;> simp [D.py, PyData.eqv, D.eqv, D.pure] at k ⊢
  | .bl b, e, h, k => by cases e <;> simp [D.py, PyData.eqv, D.eqv, D.pure] at k ⊢
  | .int b, e, h, k => by cases e <;> simp [D.py, PyData.eqv, D.eqv, D.pure] at k ⊢
  | .str b, e, h, k => by cases e <;> simp [D.py, PyData.eqv, D.eqv, D.pure] at k ⊢
  | .loc n, e, h, k => by simp [D.pure] at h
  | .fz n, e, h, k => by simp [D.pure] at h
  | .tup xs, .fz b, h, k => by simp [D.pure] at k
  | .lst xs, .fz b, h, k => by simp [D.pure] at k
  | .tup xs, .non, h, k => by simp [D.py, PyData.eqv, D.eqv]
  | .tup xs, .bl b, h, k => by simp [D.py, PyData.eqv, D.eqv]
  | .tup xs, .int b, h, k => by simp [D.py, PyData.eqv, D.eqv]
  | .tup xs, .str b, h, k => by simp [D.py, PyData.eqv, D.eqv]
  | .tup xs, .lst b, h, k => by simp [D.py, PyData.eqv, D.eqv]
  | .tup xs, .loc b, h, k => by simp [D.pure] at k
  | .lst xs, .non, h, k => by simp [D.py, PyData.eqv, D.eqv]
  | .lst xs, .bl b, h, k => by simp [D.py, PyData.eqv, D.eqv]
  | .lst xs, .int b, h, k => by simp [D.py, PyData.eqv, D.eqv]
  | .lst xs, .str b, h, k => by simp [D.py, PyData.eqv, D.eqv]
  | .lst xs, .tup b, h, k => by simp [D.py, PyData.eqv, D.eqv]
  | .lst xs, .loc b, h, k => by simp [D.pure] at k
theorem pys_eqv : ∀ (xs ys : List D), D.pures xs = true → D.pures ys = true → PyData.eqvAll (D.pys xs) (D.pys ys) = D.eqvs xs ys
  | [], [], _, _ => by simp [D.pys, PyData.eqvAll, D.eqvs]
  | [], y :: ys, _, _ => by simp [D.pys, PyData.eqvAll, D.eqvs]
  | x :: xs, [], _, _ => by simp [D.pys, PyData.eqvAll, D.eqvs]
  | x :: xs, y :: ys, h, k => by
    simp only [D.pures, Bool.and_eq_true] at h k
    simp only [D.pys, PyData.eqvAll, D.eqvs]
    rw [py_eqv x y h.1 k.1, pys_eqv xs ys h.2 k.2]
end
/-- the datum with the store's list at its top told -/
def told (S : Store) : D → D
  | .loc n => match S[n]? with
    | some ds => .lst ds
    | none => .loc n
  | d => d
mutual
theorem dp_of {K : PySem.W.Frag} {F H : Hp} {μ : List Addr} (e : Ex F H) : ∀ {d : D} {v : V}, Rep K F μ d v → d.pure = true → Dp K H v d.py
  | _, _, .non, _ => by rw [D.py]; exact .non
  | _, _, .bl b, _ => by rw [D.py]; exact .bl b
  | _, _, .int i, _ => by rw [D.py]; exact .int i
  | _, _, .str x, _ => by rw [D.py]; exact .str x
  | _, _, .tup h r, p => by rw [D.pure] at p; rw [D.py]; exact .tup (ex_t e h) (dps_of e r p)
  | _, _, .lst h r, p => by rw [D.pure] at p; rw [D.py]; exact .lst (sq_of (e _ _ h)) (dps_of e r p)
  | _, _, .loc h, p => by simp [D.pure] at p
  | _, _, .fz h r, p => by simp [D.pure] at p
theorem dps_of {K : PySem.W.Frag} {F H : Hp} {μ : List Addr} (e : Ex F H) : ∀ {ds : List D} {vs : List V}, Reps K F μ ds vs → D.pures ds = true → DpAll K H vs (D.pys ds)
  | _, _, .nil, _ => by rw [D.pys]; exact .nil
  | _, _, .cons h r, p => by
    simp only [D.pures, Bool.and_eq_true] at p
    rw [D.pys]; exact .cons (dp_of e h p.1) (dps_of e r p.2)
end
theorem dp_told {K : PySem.W.Frag} {F H : Hp} {μ : List Addr} {S : Store} {d : D} {v : V} (s : SR K T F μ S H) (r : Rep K F μ d v) (p : (told S d).pure = true) : Dp K H v (told S d).py := by
  cases r with
  | loc hm =>
    obtain ⟨es, vs, h1, h2, h3, _⟩ := s.get hm
    simp only [told, h1] at p ⊢
    rw [D.pure] at p
    rw [D.py]
    exact .lst (sq_of h2) (dps_of s.ex h3 p)
  | tup h r => exact dp_of s.ex (.tup h r) p
  | lst h r => exact dp_of s.ex (.lst h r) p
  | fz h r => simp [told, D.pure] at p
  | non => exact dp_of (μ := μ) s.ex .non p
  | bl b => exact dp_of (μ := μ) s.ex (.bl b) p
  | int b => exact dp_of (μ := μ) s.ex (.int b) p
  | str b => exact dp_of (μ := μ) s.ex (.str b) p
def eqOk (d : D) : Bool := d.pure && SeqAt.shaped d.py
def oEq : Op2 := fun x y S => if eqOk (told S x) = true ∧ eqOk (told S y) = true then some (.ok (.bl (D.eqv (told S x) (told S y))), S) else none
def oNe : Op2 := fun x y S => if eqOk (told S x) = true ∧ eqOk (told S y) = true then some (.ok (.bl (!D.eqv (told S x) (told S y))), S) else none
theorem oEq_ok : OpOk X T false (rEqD X.K) oEq := by
  intro F μ S H x y v u Q er s rx ry h
  unfold oEq at h
  split at h
  · rename_i hc
    obtain ⟨h1, h2⟩ := hc
    unfold eqOk at h1 h2
    rw [Bool.and_eq_true] at h1 h2
    refine ⟨_, _, dp_told s rx h1.1, dp_told s ry h2.1, h1.2, h2.2, ?_⟩
    rw [py_eqv _ _ h1.1 h2.1]
    exact gp_val h s (.bl _)
  · exact h.elim
theorem oNe_ok : OpOk X T false (rNeD X.K) oNe := by
  intro F μ S H x y v u Q er s rx ry h
  unfold oNe at h
  split at h
  · rename_i hc
    obtain ⟨h1, h2⟩ := hc
    unfold eqOk at h1 h2
    rw [Bool.and_eq_true] at h1 h2
    refine ⟨_, _, dp_told s rx h1.1, dp_told s ry h2.1, h1.2, h2.2, ?_⟩
    rw [py_eqv _ _ h1.1 h2.1]
    exact gp_val h s (.bl _)
  · exact h.elim
/-- is None, is not None -/
def oIsN : Op2 := fun x y S => match y with
  | .non => some (.ok (.bl (match x with | .non => true | _ => false)), S)
  | _ => none
def oNotN : Op2 := fun x y S => match y with
  | .non => some (.ok (.bl (match x with | .non => false | _ => true)), S)
  | _ => none
theorem oIsN_ok : OpOk X T false (fun x y H Q => y = .non ∧ Q (.bl (decide (x = .non))) H) oIsN := by
  intro F μ S H x y v u Q er s rx ry h
  unfold oIsN at h
  cases ry with
  | non =>
    refine ⟨rfl, ?_⟩
    cases rx <;> exact gp_val h s (.bl _)
  | _ => exact h.elim
theorem oNotN_ok : OpOk X T false (fun x y H Q => y = .non ∧ Q (.bl (!decide (x = .non))) H) oNotN := by
  intro F μ S H x y v u Q er s rx ry h
  unfold oNotN at h
  cases ry with
  | non =>
    refine ⟨rfl, ?_⟩
    cases rx <;> exact gp_val h s (.bl _)
  | _ => exact h.elim
/-! ### in, not in: flat things -/
def flatD : D → Bool
  | .non => true
  | .bl _ => true
  | .int _ => true
  | .str _ => true
  | _ => false
theorem flat_rep {K : PySem.W.Frag} {F : Hp} {μ : List Addr} {d : D} {v : V} (r : Rep K F μ d v) (h : flatD d = true) : flatV v = true := by cases r <;> first | rfl | cases h
theorem flats_rep {K : PySem.W.Frag} {F : Hp} {μ : List Addr} : ∀ {ds : List D} {vs : List V}, Reps K F μ ds vs → ds.all flatD = true → vs.all flatV = true
  | _, _, .nil, _ => rfl
  | _, _, .cons h r, p => by
    simp only [List.all_cons, Bool.and_eq_true] at p ⊢
    exact ⟨flat_rep h p.1, flats_rep r p.2⟩
theorem eqv_flat {K : PySem.W.Frag} {F : Hp} {μ : List Addr} {d e : D} {v u : V} (r : Rep K F μ d v) (q : Rep K F μ e u) (h : flatD d = true) (k : flatD e = true) : eqV v u = D.eqv d e := by
  cases r <;> cases q <;> first | cases h | cases k | skip
  all_goals simp [eqV, D.eqv]
theorem inV_rep {K : PySem.W.Frag} {F : Hp} {μ : List Addr} {d : D} {v : V} (r : Rep K F μ d v) (h : flatD d = true) : ∀ {ds : List D} {vs : List V}, Reps K F μ ds vs → ds.all flatD = true → inV v vs = ds.any fun e => D.eqv e d
  | _, _, .nil, _ => rfl
  | _, _, .cons h1 r1, p => by
    simp only [List.all_cons, Bool.and_eq_true] at p
    have ih := inV_rep r h r1 p.2
    unfold inV at ih ⊢
    simp only [List.any_cons, ih, eqv_flat h1 r p.1 h]
def oIn (neg : Bool) : Op2 := fun x y S => match asS y S with
  | some ds => if flatD x = true ∧ ds.all flatD = true then some (.ok (.bl (if neg then !(ds.any fun e => D.eqv e x) else ds.any fun e => D.eqv e x)), S) else none
  | none => none
theorem oIn_ok {neg : Bool} : OpOk X T false (rIn X.K neg) (oIn neg) := by
  intro F μ S H x y v u Q er s rx ry h
  unfold oIn at h
  split at h
  · rename_i ds hq
    split at h
    · rename_i hc
      obtain ⟨a, vs, rfl, h1, h2⟩ := asS_ok s ry hq
      refine ⟨a, vs, rfl, h1, flat_rep rx hc.1, flats_rep h2 hc.2, ?_⟩
      rw [inV_rep rx hc.1 h2 hc.2]
      exact gp_val h s (.bl _)
    · exact h.elim
  · exact h.elim
/-- a sign in a text -/
def oInS (neg : Bool) : Op2 := fun x y S => match x, y with
  | .str i, .str j => some (.ok (.bl (if neg then !(!(Builtin.Str.occurrences j i 0 j.length 1).isEmpty) else !(Builtin.Str.occurrences j i 0 j.length 1).isEmpty)), S)
  | _, _ => none

/-! ### indexes -/
def oIx : Op2 := fun x y S => match y with
  | .int i => (match x with
    | .str z => if z.length ≤ lim then (match atI z.cps.toList i with
      | some c => some (.ok (.str ⟨#[c]⟩), S)
      | none => none) else none
    | x => match asS x S with
      | some ds => (match atI ds i with
        | some d => some (.ok d, S)
        | none => none)
      | none => none)
  | _ => none
theorem atI_rep {K : PySem.W.Frag} {F : Hp} {μ : List Addr} {ds : List D} {vs : List V} {i : Int} {d : D} (r : Reps K F μ ds vs) (h : atI ds i = some d) : ∃ v, atI vs i = some v ∧ Rep K F μ d v := by
  unfold atI at h ⊢
  rw [← r.length]
  cases q : ixN ds.length i with
  | none => rw [q] at h; cases h
  | some j =>
    rw [q] at h
    exact r.get (i := j) (by simpa using h)
theorem oIx_ok : OpOk X T false (rIx X.K) oIx := by
  intro F μ S H x y v u Q er s rx ry h
  unfold oIx at h
  cases ry with
  | int i =>
    dsimp only at h
    split at h
    · rename_i z
      cases rx
      split at h
      · rename_i hz
        split at h
        · rename_i c hc
          exact .inr (.inr ⟨z, i, c, rfl, rfl, lim_ok hz, hc, gp_val h s (.str _)⟩)
        · exact h.elim
      · exact h.elim
    · split at h
      · rename_i ds hq
        split at h
        · rename_i d hd
          obtain ⟨a, vs, rfl, h1, h2⟩ := asS_ok s rx hq
          obtain ⟨w, e1, e2⟩ := atI_rep h2 hd
          rcases h1 with h1 | h1
          · exact .inl ⟨a, vs, i, w, rfl, rfl, h1, e1, gp_val h s e2⟩
          · exact .inr (.inl ⟨a, vs, i, w, rfl, rfl, h1, e1, gp_val h s e2⟩)
        · exact h.elim
      · exact h.elim
  | _ => exact h.elim
variable {W : WX}
theorem re_ix {e1 e2 : Expr} {a b : EX} {pos : Pos} (ha : RE T false X W e1 a) (hb : RE T false X W e2 b) (hs : PlainIx e2) : RE T false X W (.Subscript e1 e2 pos) (cBin oIx a b) := by
  obtain ⟨ta, pa, fa⟩ := ha
  obtain ⟨tb, pb, fb⟩ := hb
  exact ⟨_, pe_ix ix_seq pa pb hs, fun σ ρ F μ S H Q s hE g => two (e1 := e1) (e2 := e2) fa fb oIx_ok s hE g⟩

/-! ### slices -/
def cutL {α : Type} (xs : List α) (lo hi : Option Int) : List α := (xs.drop (HT.sIx xs.length 0 lo)).take (HT.sIx xs.length xs.length hi - HT.sIx xs.length 0 lo)
abbrev OX := Env → Store → Out (Option Int)
def RO (T : List (Addr × Str)) (X : Cx) (W : WX) (e : Option Expr) (c : OX) : Prop := ∃ t, PO X e t ∧
  ∀ σ ρ F μ S H (Q : Option Int → Hp → Prop), SR X.K T F μ S H → EnvR X.K F μ ρ σ → GP X.K T F μ (c ρ S) (fun o _ _ H' _ => Q o H') (ErW X.K X.mg fun cls dd H' => W cls dd σ H') → t σ H Q
def cNo : OX := fun _ S => some (.ok none, S)
def cPart (c : EX) : OX := fun ρ S => bindO (c ρ S) fun d S => match d with
  | .int i => some (.ok (some i), S)
  | _ => none
theorem ro_none : RO T X W none cNo := ⟨_, po_none, fun σ ρ F μ S H Q s hE g => GP.here g s⟩
theorem ro_some {e : Expr} {c : EX} (h : RE T false X W e c) : RO T X W (some e) (cPart c) := by
  obtain ⟨t, p, f⟩ := h
  refine ⟨_, po_some p, fun σ ρ F μ S H Q s hE g => f σ ρ F μ S H _ s hE (GP.seq g fun d F1 μ1 H1 S1 e1 p1 s1 g1 v r => ?_)⟩
  cases r with
  | int i => exact ⟨i, rfl, GP.here g1 s1⟩
  | _ => exact g1.elim
/-- t[lo:hi], a tuple or a text -/
def cSlice (a : EX) (lo hi : OX) : EX := fun ρ S => bindO (a ρ S) fun x S => bindO (lo ρ S) fun l S => bindO (hi ρ S) fun h S => match x with
  | .tup xs => some (.ok (.tup (cutL xs l h)), S)
  | .str z => if z.length ≤ lim then some (.ok (.str (cutS z l h)), S) else none
  | _ => none
/-- xs[lo:hi], a list: a new one -/
def cSliceL (a : EX) (lo hi : OX) : EX := fun ρ S => bindO (a ρ S) fun x S => bindO (lo ρ S) fun l S => bindO (hi ρ S) fun h S => match asL x S with
  | some xs => some (.ok (.lst (cutL xs l h)), S)
  | none => none
theorem sIx_all {n : Nat} {lo hi : Option Int} (h : HT.sIx n 0 lo = 0 ∧ HT.sIx n n hi = n) {α : Type} {xs : List α} (e : xs.length = n) : cutL xs lo hi = xs := by
  unfold cutL
  rw [e, h.1, h.2, List.drop_zero, Nat.sub_zero, ← e, List.take_length]
theorem Reps.cut {K : PySem.W.Frag} {F : Hp} {μ : List Addr} {ds : List D} {vs : List V} (r : Reps K F μ ds vs) (lo hi : Option Int) : Reps K F μ (cutL ds lo hi) (cutV vs lo hi) := by
  unfold cutL cutV
  rw [r.length]
  exact (r.drop _).take _
theorem re_slice {e : Expr} {lo hi : Option Expr} {a : EX} {cl ch : OX} {pos p2 : Pos} (ha : RE T false X W e a) (hl : RO T X W lo cl) (hh : RO T X W hi ch) : RE T false X W (.Subscript e (.Slice lo hi none p2) pos) (cSlice a cl ch) := by
  obtain ⟨ta, pa, fa⟩ := ha
  obtain ⟨tl, pl, fl⟩ := hl
  obtain ⟨th, ph, fh⟩ := hh
  refine ⟨_, pe_slice (sl_tupA.or sl_str) pa pl ph, fun σ ρ F μ S H Q s hE g => ?_⟩
  refine fa σ ρ F μ S H _ s hE (GP.seq g fun x F1 μ1 H1 S1 e1 p1 s1 g1 v rx => ?_)
  refine fl σ ρ F1 μ1 S1 H1 _ s1 (hE.mono e1 p1) (GP.seq g1 fun l F2 μ2 H2 S2 e2 p2 s2 g2 => ?_)
  refine fh σ ρ F2 μ2 S2 H2 _ s2 ((hE.mono e1 p1).mono e2 p2) (GP.seq g2 fun h F3 μ3 H3 S3 e3 p3 s3 g3 => ?_)
  have rx := Rep.mono e3 p3 (Rep.mono e2 p2 rx)
  cases rx with
  | @tup a xs ds hq rs =>
    refine .inl ⟨a, xs, rfl, s3.sqT hq, fun hw => ?_, fun _ => gp_tup g3 s3 (rs.cut _ _)⟩
    dsimp only at g3
    rw [sIx_all hw rs.length] at g3
    exact gp_val g3 s3 (.tup hq rs)
  | str z =>
    dsimp only at g3
    split at g3
    · rename_i hz
      exact .inr ⟨z, rfl, lim_ok hz, gp_val g3 s3 (.str _)⟩
    · exact g3.elim
  | _ => exact g3.elim
theorem re_sliceL {e : Expr} {lo hi : Option Expr} {a : EX} {cl ch : OX} {pos p2 : Pos} (ha : RE T false X W e a) (hl : RO T X W lo cl) (hh : RO T X W hi ch) : RE T true X W (.Subscript e (.Slice lo hi none p2) pos) (cSliceL a cl ch) := by
  obtain ⟨ta, pa, fa⟩ := ha
  obtain ⟨tl, pl, fl⟩ := hl
  obtain ⟨th, ph, fh⟩ := hh
  refine ⟨_, pe_slice sl_list pa pl ph, fun σ ρ F μ S H Q s hE g => ?_⟩
  refine fa σ ρ F μ S H _ s hE (GP.seq g fun x F1 μ1 H1 S1 e1 p1 s1 g1 v rx => ?_)
  refine fl σ ρ F1 μ1 S1 H1 _ s1 (hE.mono e1 p1) (GP.seq g1 fun l F2 μ2 H2 S2 e2 p2 s2 g2 => ?_)
  refine fh σ ρ F2 μ2 S2 H2 _ s2 ((hE.mono e1 p1).mono e2 p2) (GP.seq g2 fun h F3 μ3 H3 S3 e3 p3 s3 g3 => ?_)
  have rx := Rep.mono e3 p3 (Rep.mono e2 p2 rx)
  split at g3
  · rename_i xs hq
    obtain ⟨a, vs, rfl, h1, h2⟩ := asL_ok s3 rx hq
    exact ⟨a, vs, rfl, h1, gp_lst g3 s3 (h2.cut _ _)⟩
  · exact g3.elim

/-! ### built-in functions -/
abbrev OpB := List D → Store → Out D
def BltOk (X : Cx) (T : List (Addr × Str)) (fr : Bool) (r : List V → Hp → VK → Prop) (o : OpB) : Prop := ∀ F μ S H ds vs Q er, SR X.K T F μ S H → Reps X.K F μ ds vs → GP X.K T F μ (o ds S) (OkV X.K fr Q) er → r vs H Q
def cBlt (o : OpB) (r : AX) : EX := fun ρ S => bindO (r ρ S) fun ds S => o ds S
section
variable {x : Str} {p pos : Pos} {e : Expr} {es : List Expr} {c : AX} {fr : Bool} {id Ty : String} {r : List V → Hp → VK → Prop} {o : OpB}
theorem re_callB (hc : CallR X (.builtin id) r) (ho : BltOk X T fr r o) (hm : X.mg x = none) (hv : bootBuiltins x = some (.builtin id)) (ha : RA T X W (e :: es) c) (hg : Gl X x := by rfl) (hn : x ≠ "__name__" := by decide) (hdb : (x == ("__debug__" : Str)) = false := by decide)
    (he : starEach (e :: es) X.env = (false, eval e X.env) :: starEach es X.env := by rfl) (hpl : (backTo pos (starEach es X.env)).any (·.1) = false := by rfl) : RE T fr X W (.Call (.Name x p) (e :: es) [] pos) (cBlt o c) := by
  obtain ⟨t, pa, f⟩ := ha
  exact ⟨_, pe_callB hc hg hm hv pa hn hdb he hpl, fun σ ρ F μ S H Q s hE g => f σ ρ F μ S H _ s hE (GP.seq g fun ds F1 μ1 H1 S1 e1 p1 s1 g1 vs rs => ho F1 μ1 S1 H1 ds vs Q _ s1 rs g1)⟩
theorem re_callTy (hc : CallR X (.type Ty) r) (ho : BltOk X T fr r o) (hm : X.mg x = none) (hv : bootBuiltins x = some (.type Ty)) (ha : RA T X W (e :: es) c) (hg : Gl X x := by rfl) (hn : x ≠ "__name__" := by decide) (hdb : (x == ("__debug__" : Str)) = false := by decide)
    (he : starEach (e :: es) X.env = (false, eval e X.env) :: starEach es X.env := by rfl) (hpl : (backTo pos (starEach es X.env)).any (·.1) = false := by rfl) : RE T fr X W (.Call (.Name x p) (e :: es) [] pos) (cBlt o c) := by
  obtain ⟨t, pa, f⟩ := ha
  exact ⟨_, pe_callTy hc hg hm hv pa hn hdb he hpl, fun σ ρ F μ S H Q s hE g => f σ ρ F μ S H _ s hE (GP.seq g fun ds F1 μ1 H1 S1 e1 p1 s1 g1 vs rs => ho F1 μ1 S1 H1 ds vs Q _ s1 rs g1)⟩
end
def bLen : OpB := fun ds S => match ds with
  | [.str z] => if z.length ≤ lim then some (.ok (.int z.length), S) else none
  | [d] => (match asS d S with
    | some xs => some (.ok (.int xs.length), S)
    | none => none)
  | _ => none
theorem Reps.inv1 {K : PySem.W.Frag} {F : Hp} {μ : List Addr} {d : D} {vs : List V} (h : Reps K F μ [d] vs) : ∃ v, vs = [v] ∧ Rep K F μ d v := by
  cases h with
  | cons h r => cases r; exact ⟨_, rfl, h⟩
theorem Reps.inv2 {K : PySem.W.Frag} {F : Hp} {μ : List Addr} {d e : D} {vs : List V} (h : Reps K F μ [d, e] vs) : ∃ v u, vs = [v, u] ∧ Rep K F μ d v ∧ Rep K F μ e u := by
  cases h with
  | cons h r =>
    obtain ⟨u, rfl, h2⟩ := r.inv1
    exact ⟨_, u, rfl, h, h2⟩
theorem bLen_ok : BltOk X T false (fun xs H Q => ∃ x n, xs = [x] ∧ LenV X.K x H n ∧ Q (.int n) H) bLen := by
  intro F μ S H ds vs Q er s rs h
  unfold bLen at h
  split at h
  · rename_i z
    obtain ⟨v, rfl, r⟩ := rs.inv1
    cases r
    split at h
    · rename_i hz
      exact ⟨_, z.length, rfl, ⟨lim_ok hz, rfl⟩, gp_val h s (.int _)⟩
    · exact h.elim
  · rename_i d _
    obtain ⟨v, rfl, r⟩ := rs.inv1
    split at h
    · rename_i xs hq
      obtain ⟨a, ws, rfl, h1, h2⟩ := asS_ok s r hq
      refine ⟨_, xs.length, rfl, ?_, gp_val h s (.int _)⟩
      rcases h1 with h1 | h1
      · exact .inl ⟨ws, h1, h2.length⟩
      · exact .inr ⟨ws, h1, h2.length⟩
    · exact h.elim
  · exact h.elim
def bAbs : OpB := fun ds S => match ds with
  | [.int i] => some (.ok (.int (if i < 0 then -i else i)), S)
  | _ => none
theorem bAbs_ok : BltOk X T false (fun xs H Q => ∃ i, xs = [.int i] ∧ Q (.int (if i < 0 then -i else i)) H) bAbs := by
  intro F μ S H ds vs Q er s rs h
  unfold bAbs at h
  split at h
  · obtain ⟨v, rfl, r⟩ := rs.inv1
    cases r
    exact ⟨_, rfl, gp_val h s (.int _)⟩
  · exact h.elim
def bInt : OpB := fun ds S => match ds with
  | [.int i] => some (.ok (.int i), S)
  | [.bl k] => some (.ok (.int (if k then 1 else 0)), S)
  | _ => none
theorem bInt_ok : BltOk X T false (fun xs H Q => (∃ i, xs = [.int i] ∧ Q (.int i) H) ∨ ∃ k, xs = [.bl k] ∧ Q (.int (if k then 1 else 0)) H) bInt := by
  intro F μ S H ds vs Q er s rs h
  unfold bInt at h
  split at h
  · obtain ⟨v, rfl, r⟩ := rs.inv1
    cases r
    exact .inl ⟨_, rfl, gp_val h s (.int _)⟩
  · obtain ⟨v, rfl, r⟩ := rs.inv1
    cases r
    exact .inr ⟨_, rfl, gp_val h s (.int _)⟩
  · exact h.elim
def bMin2 : OpB := fun ds S => match ds with
  | [.int i, .int j] => some (.ok (.int (if j < i then j else i)), S)
  | _ => none
def bMax2 : OpB := fun ds S => match ds with
  | [.int i, .int j] => some (.ok (.int (if j > i then j else i)), S)
  | _ => none
theorem bMin2_ok : BltOk X T false (fun xs H Q => ∃ i j, xs = [.int i, .int j] ∧ Q (.int (if j < i then j else i)) H) bMin2 := by
  intro F μ S H ds vs Q er s rs h
  unfold bMin2 at h
  split at h
  · obtain ⟨v, u, rfl, r1, r2⟩ := rs.inv2
    cases r1; cases r2
    exact ⟨_, _, rfl, gp_val h s (.int _)⟩
  · exact h.elim
theorem bMax2_ok : BltOk X T false (fun xs H Q => ∃ i j, xs = [.int i, .int j] ∧ Q (.int (if j > i then j else i)) H) bMax2 := by
  intro F μ S H ds vs Q er s rs h
  unfold bMax2 at h
  split at h
  · obtain ⟨v, u, rfl, r1, r2⟩ := rs.inv2
    cases r1; cases r2
    exact ⟨_, _, rfl, gp_val h s (.int _)⟩
  · exact h.elim
/-- lists of ints, of bools -/
def intsOf : List D → Option (List Int)
  | [] => some []
  | .int i :: ds => (intsOf ds).map (i :: ·)
  | _ => none
def blsOf : List D → Option (List Bool)
  | [] => some []
  | .bl i :: ds => (blsOf ds).map (i :: ·)
  | _ => none
theorem ints_rep {K : PySem.W.Frag} {F : Hp} {μ : List Addr} : ∀ {ds : List D} {vs : List V} {ns : List Int}, Reps K F μ ds vs → intsOf ds = some ns → vs = ns.map V.int
  | _, _, _, .nil, h => by simp [intsOf] at h; subst h; rfl
  | _, _, _, .cons h1 r, h => by
    cases h1 with
    | int i =>
      simp only [intsOf, Option.map_eq_some_iff] at h
      obtain ⟨ms, h2, rfl⟩ := h
      rw [ints_rep r h2]; rfl
    | _ => simp [intsOf] at h
theorem bls_rep {K : PySem.W.Frag} {F : Hp} {μ : List Addr} : ∀ {ds : List D} {vs : List V} {ns : List Bool}, Reps K F μ ds vs → blsOf ds = some ns → vs = ns.map V.bl
  | _, _, _, .nil, h => by simp [blsOf] at h; subst h; rfl
  | _, _, _, .cons h1 r, h => by
    cases h1 with
    | bl i =>
      simp only [blsOf, Option.map_eq_some_iff] at h
      obtain ⟨ms, h2, rfl⟩ := h
      rw [bls_rep r h2]; rfl
    | _ => simp [blsOf] at h
theorem reps_ints {K : PySem.W.Frag} {F : Hp} {μ : List Addr} : ∀ (ns : List Int), Reps K F μ (ns.map D.int) (ns.map V.int)
  | [] => .nil
  | n :: ns => .cons (.int n) (reps_ints ns)
/-- a list by its ints -/
def bL1 {α : Type} (of : List D → Option (List α)) (g : List α → Option D) : OpB := fun ds S => match ds with
  | [d] => (match asL d S with
    | some xs => (match of xs with
      | some ns => (match g ns with
        | some z => some (.ok z, S)
        | none => none)
      | none => none)
    | none => none)
  | _ => none
theorem bL1_ok {α : Type} {of : List D → Option (List α)} {g : List α → Option D} {F : Hp} {μ : List Addr} {S : Store} {H : Hp} {ds : List D} {vs : List V} {fr : Bool} {Q : VK} {er}
    (s : SR X.K T F μ S H) (rs : Reps X.K F μ ds vs) (h : GP X.K T F μ (bL1 of g ds S) (OkV X.K fr Q) er) :
    ∃ a ws xs ns z, vs = [.ref a] ∧ SqL X.K H a ws ∧ Reps X.K F μ xs ws ∧ of xs = some ns ∧ g ns = some z ∧ GP X.K T F μ (some (.ok z, S)) (OkV X.K fr Q) er := by
  unfold bL1 at h
  split at h
  · obtain ⟨v, rfl, r⟩ := rs.inv1
    split at h
    · rename_i xs hq
      split at h
      · rename_i ns hn
        split at h
        · rename_i z hz
          obtain ⟨a, ws, rfl, h1, h2⟩ := asL_ok s r hq
          exact ⟨a, ws, xs, ns, z, rfl, h1, h2, hn, hz, h⟩
        · exact h.elim
      · exact h.elim
    · exact h.elim
  · exact h.elim
def bSum : OpB := bL1 intsOf fun ns => some (.int ns.sum)
theorem bSum_ok : BltOk X T false (rSum X.K) bSum := by
  intro F μ S H ds vs Q er s rs h
  obtain ⟨a, ws, xs, ns, z, rfl, h1, h2, h3, h4, h5⟩ := bL1_ok s rs h
  cases h4
  rw [ints_rep h2 h3] at h1
  exact ⟨a, ns, rfl, h1, gp_val h5 s (.int _)⟩
def bAll : OpB := bL1 blsOf fun ns => some (.bl (ns.all id))
theorem bAll_ok : BltOk X T false (rAll X.K) bAll := by
  intro F μ S H ds vs Q er s rs h
  obtain ⟨a, ws, xs, ns, z, rfl, h1, h2, h3, h4, h5⟩ := bL1_ok s rs h
  cases h4
  rw [bls_rep h2 h3] at h1
  exact ⟨a, ns, rfl, h1, gp_val h5 s (.bl _)⟩
def bAny : OpB := bL1 blsOf fun ns => some (.bl (ns.any id))
theorem bAny_ok : BltOk X T false (rAny X.K) bAny := by
  intro F μ S H ds vs Q er s rs h
  obtain ⟨a, ws, xs, ns, z, rfl, h1, h2, h3, h4, h5⟩ := bL1_ok s rs h
  cases h4
  rw [bls_rep h2 h3] at h1
  exact ⟨a, ns, rfl, h1, gp_val h5 s (.bl _)⟩
def bMax : OpB := bL1 intsOf fun ns => ns.max?.map D.int
def bMin : OpB := bL1 intsOf fun ns => ns.min?.map D.int
theorem bMax_ok : BltOk X T false (rMax X.K) bMax := by
  intro F μ S H ds vs Q er s rs h
  obtain ⟨a, ws, xs, ns, z, rfl, h1, h2, h3, h4, h5⟩ := bL1_ok s rs h
  rw [Option.map_eq_some_iff] at h4
  obtain ⟨m, h6, rfl⟩ := h4
  rw [ints_rep h2 h3] at h1
  obtain ⟨q1, q2⟩ := List.max?_eq_some_iff.mp h6
  refine ⟨a, ns, rfl, h1, List.length_pos_of_mem q1, fun m' k1 k2 => ?_⟩
  have e : m' = m := Int.le_antisymm (q2 m' k1) (k2 m q1)
  subst e
  exact gp_val h5 s (.int _)
theorem bMin_ok : BltOk X T false (rMin X.K) bMin := by
  intro F μ S H ds vs Q er s rs h
  obtain ⟨a, ws, xs, ns, z, rfl, h1, h2, h3, h4, h5⟩ := bL1_ok s rs h
  rw [Option.map_eq_some_iff] at h4
  obtain ⟨m, h6, rfl⟩ := h4
  rw [ints_rep h2 h3] at h1
  obtain ⟨q1, q2⟩ := List.min?_eq_some_iff.mp h6
  refine ⟨a, ns, rfl, h1, List.length_pos_of_mem q1, fun m' k1 k2 => ?_⟩
  have e : m' = m := Int.le_antisymm (k2 m q1) (q2 m' k1)
  subst e
  exact gp_val h5 s (.int _)
/-- sorted ints -/
def insI (x : Int) : List Int → List Int
  | [] => [x]
  | y :: ys => if x ≤ y then x :: y :: ys else y :: insI x ys
def sortI : List Int → List Int
  | [] => []
  | x :: xs => insI x (sortI xs)
theorem insI_perm (x : Int) : ∀ ys, (insI x ys).Perm (x :: ys)
  | [] => .refl _
  | y :: ys => by
    unfold insI
    split
    · exact .refl _
    · exact ((insI_perm x ys).cons y).trans (.swap x y ys)
theorem sortI_perm : ∀ xs, (sortI xs).Perm xs
  | [] => .refl _
  | x :: xs => (insI_perm x _).trans ((sortI_perm xs).cons x)
theorem insI_sorted (x : Int) : ∀ {ys : List Int}, ys.Pairwise (· ≤ ·) → (insI x ys).Pairwise (· ≤ ·)
  | [], _ => by simp [insI]
  | y :: ys, h => by
    unfold insI
    split
    · rename_i hxy
      rw [List.pairwise_cons] at h ⊢
      refine ⟨fun z hz => ?_, List.pairwise_cons.mpr h⟩
      rcases List.mem_cons.mp hz with e | hz
      · rw [e]; exact hxy
      · exact Int.le_trans hxy (h.1 z hz)
    · rename_i hxy
      rw [List.pairwise_cons] at h ⊢
      refine ⟨fun z hz => ?_, insI_sorted x h.2⟩
      rcases List.mem_cons.mp ((insI_perm x ys).mem_iff.mp hz) with e | hz
      · rw [e]; omega
      · exact h.1 z hz
theorem sortI_sorted : ∀ xs, (sortI xs).Pairwise (· ≤ ·)
  | [] => .nil
  | x :: xs => insI_sorted x (sortI_sorted xs)
theorem sorted_unique {xs ys : List Int} (h : xs.Perm ys) (h1 : xs.Pairwise (· ≤ ·)) (h2 : ys.Pairwise (· ≤ ·)) : xs = ys :=
  h.eq_of_pairwise (fun a b _ _ h1 h2 => Int.le_antisymm h1 h2) h1 h2
def bSorted : OpB := bL1 intsOf fun ns => some (.lst ((sortI ns).map D.int))
theorem bSorted_ok : BltOk X T true (rSortedI X.K) bSorted := by
  intro F μ S H ds vs Q er s rs h
  obtain ⟨a, ws, xs, ns, z, rfl, h1, h2, h3, h4, h5⟩ := bL1_ok s rs h
  cases h4
  rw [ints_rep h2 h3] at h1
  refine ⟨a, ns, rfl, h1, fun ns' p k1 k2 hp => ?_⟩
  have e : ns' = sortI ns := sorted_unique (k1.trans (sortI_perm ns).symm) k2 (sortI_sorted ns)
  subst e
  exact gp_lst h5 s (reps_ints _) p hp
/-- list(xs), tuple(xs) -/
def bList : OpB := fun ds S => match ds with
  | [d] => (match asS d S with
    | some xs => some (.ok (.lst xs), S)
    | none => none)
  | _ => none
def bTuple : OpB := fun ds S => match ds with
  | [d] => (match asS d S with
    | some xs => some (.ok (.tup xs), S)
    | none => none)
  | _ => none
theorem bList_ok : BltOk X T true (fun xs H Q => ∃ p ys, xs = [.ref p] ∧ (SqL X.K H p ys ∨ SqT X.K H p ys) ∧ ∀ l, H l = none → Q (.ref l) (upd H l (.lst ys))) bList := by
  intro F μ S H ds vs Q er s rs h
  unfold bList at h
  split at h
  · obtain ⟨v, rfl, r⟩ := rs.inv1
    split at h
    · rename_i xs hq
      obtain ⟨a, ws, rfl, h1, h2⟩ := asS_ok s r hq
      exact ⟨a, ws, rfl, h1, gp_lst h s h2⟩
    · exact h.elim
  · exact h.elim
theorem bTuple_ok : BltOk X T false (fun xs H Q => ∃ p ys, xs = [.ref p] ∧ ((SqL X.K H p ys ∧ ∀ l, H l = none → Q (.ref l) (upd H l (.tup ys))) ∨ (SqT X.K H p ys ∧ Q (.ref p) H))) bTuple := by
  intro F μ S H ds vs Q er s rs h
  unfold bTuple at h
  split at h
  · obtain ⟨v, rfl, r⟩ := rs.inv1
    split at h
    · rename_i xs hq
      cases r with
      | @tup a ws es hT r2 =>
        simp [asS] at hq
        subst hq
        exact ⟨a, ws, rfl, .inr ⟨s.sqT hT, gp_val h s (.tup hT r2)⟩⟩
      | lst hl r2 =>
        obtain ⟨a, ws, e, h1, h2⟩ := asL_ok s (.lst hl r2) (ds := xs) (by simpa [asS] using hq)
        cases e
        exact ⟨_, ws, rfl, .inl ⟨h1, gp_tup h s h2⟩⟩
      | fz hl r2 =>
        obtain ⟨a, ws, e, h1, h2⟩ := asL_ok s (.fz hl r2) (ds := xs) (by simpa [asS] using hq)
        cases e
        exact ⟨_, ws, rfl, .inl ⟨h1, gp_tup h s h2⟩⟩
      | loc hl =>
        obtain ⟨a, ws, e, h1, h2⟩ := asL_ok s (.loc hl) (ds := xs) (by simpa [asS] using hq)
        cases e
        exact ⟨_, ws, rfl, .inl ⟨h1, gp_tup h s h2⟩⟩
      | _ => simp [asS, asL] at hq
    · exact h.elim
  · exact h.elim
def bDivmod : OpB := fun ds S => match ds with
  | [.int i, .int j] => if 0 < j ∧ j < 1073741824 then some (.ok (.tup [.int (i / j), .int (i % j)]), S) else none
  | _ => none
theorem bDivmod_ok : BltOk X T false (fun xs H Q => ∃ i j, xs = [.int i, .int j] ∧ CDiv i j ∧ ∀ p, H p = none → Q (.ref p) (upd H p (.tup [.int (i / j), .int (i % j)]))) bDivmod := by
  intro F μ S H ds vs Q er s rs h
  unfold bDivmod at h
  split at h
  · obtain ⟨v, u, rfl, r1, r2⟩ := rs.inv2
    cases r1; cases r2
    split at h
    · rename_i hc
      exact ⟨_, _, rfl, hc, gp_tup h s (.cons (.int _) (.cons (.int _) .nil))⟩
    · exact h.elim
  · exact h.elim
/-! isinstance of the built-in types -/
inductive Ty where | int | bool | str | tuple | list | dict
def Ty.nm : Ty → String
  | .int => "int" | .bool => "bool" | .str => "str" | .tuple => "tuple" | .list => "list" | .dict => "dict"
def isTy : D → Ty → Bool
  | .int _, .int => true
  | .bl _, .int => true
  | .bl _, .bool => true
  | .str _, .str => true
  | .tup _, .tuple => true
  | .lst _, .list => true
  | .loc _, .list => true
  | .fz _, .list => true
  | _, _ => false
def tyNm : D → String
  | .non => "NoneType" | .bl _ => "bool" | .int _ => "int" | .str _ => "str" | .tup _ => "tuple" | .lst _ => "list" | .loc _ => "list" | .fz _ => "list"
theorem kit_is (d : D) (t : Ty) : kitB (tyNm d) t.nm = some (isTy d t) := by
  cases d <;> cases t <;> (dsimp only [tyNm, isTy, Ty.nm]; decide +kernel)
theorem tyx_of {K : PySem.W.Frag} {F H : Hp} {μ : List Addr} {S : Store} {d : D} {v : V} (s : SR K T F μ S H) (r : Rep K F μ d v) : TyX K H v (.type (tyNm d)) := by
  cases r with
  | non => exact .base .non
  | bl b => exact .base (.bl b)
  | int i => exact .base (.int i)
  | str x => exact .base (.str x)
  | tup h _ =>
    rcases h with (h | ⟨o, h⟩) | ⟨o, its, n, h1, h2, _⟩
    · exact .base (.tup (s.ex _ _ h))
    · exact .fTuple (s.ex _ _ h)
    · exact .kTuple h1 h2
  | lst h _ => exact .base (.lst (s.ex _ _ h))
  | fz h _ =>
    rcases h with (h | ⟨o, h⟩) | ⟨o, its, n, h1, h2, _⟩
    · exact .base (.lst (s.ex _ _ h))
    · exact .base (.frz (s.ex _ _ h))
    · exact .kList h1 h2
  | loc hm =>
    obtain ⟨es, vs, h1, h2, _⟩ := s.get hm
    exact .base (.lst h2)
def cIsi (t : Ty) (a : EX) : EX := fun ρ S => bindO (a ρ S) fun x S => some (.ok (.bl (isTy x t)), S)
theorem re_isi {t : Ty} {tn : Str} {e : Expr} {a : EX} {p p2 pos : Pos} (ha : RE T false X W e a) (hm : X.mg "isinstance" = none) (hmt : X.mg tn = none) (hbt : bootBuiltins tn = some (.type t.nm)) (hg : Gl X "isinstance" := by rfl) (hgt : Gl X tn := by rfl)
    (hdt : (tn == ("__debug__" : Str)) = false := by decide) (hnt : tn ≠ "__name__" := by decide)
    (he : starEach [e, .Name tn p2] X.env = (false, eval e X.env) :: starEach [.Name tn p2] X.env := by rfl) (hpl : (backTo pos (starEach [.Name tn p2] X.env)).any (·.1) = false := by rfl) :
    RE T false X W (.Call (.Name "isinstance" p) [e, .Name tn p2] [] pos) (cIsi t a) := by
  obtain ⟨ta, pa, fa⟩ := ha
  refine ⟨_, pe_callB call_isi hg hm (by decide +kernel) (pa_cons pa (pa_cons (pe_bltn (v := .ty t.nm) hgt hmt hbt rfl hnt hdt) pa_nil) he) (by decide) (by decide) he hpl, fun σ ρ F μ S H Q s hE g => ?_⟩
  refine fa σ ρ F μ S H _ s hE (GP.seq g fun x F1 μ1 H1 S1 e1 p1 s1 g1 v rx => ?_)
  exact ⟨v, .ty t.nm, _, _, isTy x t, rfl, .ty _, tyx_of s1 rx, kit_ty (kit_is x t), gp_val g1 s1 (.bl _)⟩
end
end PF
set_option Elab.async false
set_option linter.all false
set_option maxRecDepth 100000
set_option maxHeartbeats 4000000
/-! PF4: what a def promises (told while no text of an object is under way: the repr of data needs that), calls, repr. -/
namespace PF
open PySem L2 Evl PySem.Spec PyProof.Rows
/-- like the layer's FnOk, asked where no repr is running -/
structure FnG (P : Program) (w : World) (K : PySem.W.Frag) (mg : Str → Option Value) (base : Heap) (k : Nat) (f : Addr) (fd : FuncData) (ps : List Str) (sp : Sp) : Prop where
  len : ∀ vs H Q E, sp vs H Q E → vs.length = ps.length
  run : ∀ (A : Around) (outer : List PySem.Env) (s : Shared) (H : Hp) (args : Args) (us : List Value) (vs : List V) (Q : VK) (E : XK), Room k A → A.guards = some [] →
    Env0 P w K mg base A outer s H → BindsTo s fd args (ps.zip us) → Vals vs us → sp vs H Q E → codeAny (model P w) A (.call (.ref f) args) (CR (L2.CX P w) outer P w H s Q E) s
section
variable {P : Program} {w : World} {K : PySem.W.Frag} {mg : Str → Option Value} {base : Heap} {f : Addr} {ps : List Str} {sp : Sp} {k : Nat}
theorem FnG.mono {fd : FuncData} {j : Nat} (F : FnG P w K mg base j f fd ps sp) (h : j ≤ k) : FnG P w K mg base k f fd ps sp :=
  { len := F.len, run := fun A outer s H args us vs Q E r => F.run A outer s H args us vs Q E (Room.mono r h) }
/-- a def of the text, by its body -/
theorem fn_g {x qual : Str} {params : Arguments} {body : List Stmt} {scope : Scope} {dvs : List V} {kws : List (Str × V)} {fd : FuncData} {N : List Str} (D : FunD K x qual params body scope dvs kws f fd) (sc : FnScope N ps scope) (hl : ∀ vs H Q E, sp vs H Q E → vs.length = ps.length)
    (bd : ∀ (cdv : Value) (A : Around) (outer : List PySem.Env) (s : Shared) (H : Hp) (vs : List V) (Q : VK) (E : XK), Room k (A.deeper (envOfC qual scope s.heap.objs.size f cdv)) → A.guards = some [] → sp vs H Q E →
      ∃ t, PSs (cxOf (L2.CX P w) P w K mg base N qual scope f cdv A outer s H E) body t ∧ t { nx := fun _ H' => Q .non H', rt := Q } (start N vs) H) : FnG P w K mg base (k + 1) f fd ps sp := by
  obtain ⟨oc, od, dV, kV, doc, pm, an, cdv, ct, osl, rfl, lk, hcode, _, _⟩ := D.ex
  refine ⟨hl, fun A outer s H args us vs Q E room gu env bi rel want => ?_⟩
  have inK : K.In s.heap := PySem.W.Frag.In.keeps env.mod.kin fun b o q => (env.bs b o q).1
  have nolim : s.heap.NoLimit := Heap.NoLimit.keeps env.mod.nolimit fun b o q => (env.bs b o q).1
  have kinds : ∀ z ∈ ps.zip us, scope.names.lookup z.1 = some .local ∨ (scope.names.lookup z.1 = some .cell ∧ ((cellsFrom (s.heap.objs.size + 1) scope.names []).lookup z.1).isSome = true) := by
    rintro ⟨n, v⟩ hz
    have hn : n ∈ ps := (List.of_mem_zip hz).1
    cases sc.par n hn with
    | inl q => exact Or.inl q
    | inr q => exact Or.inr ⟨q, PySem.W.cellsFrom_some _ _ _ (Or.inl q)⟩
  refine codeAny_call_function room.depth (inK _ _ lk) rfl sc.co sc.gen rfl (PySem.W.codeRec_of inK hcode) (bi _ _ _ _ ?_)
  refine wpAny_newFunctionEnv_cells sc.kind kinds fun env' he s1 hs1 => ?_
  subst he
  refine ⟨Heap.NoLimit.keeps nolim hs1.toInCall.keep, codeAny_func ?_⟩
  obtain ⟨t, pt, rd⟩ := bd cdv A outer s H vs Q E (Room.deeper room _) gu want
  have I0 := inv_start (CX := L2.CX P w) (mg := mg) (qual := qual) (f := f) (cd := cdv) (E := E) sc room.hd env (hl _ _ _ _ want) rel hs1
  refine wpAny_mono (pt.run [] s1 _ H _ I0 rd) ?_ (fun e s' q => q)
  intro fl s' q
  have close : ∀ (σ' : L2.St) (H' : Hp) (v : V) (u : Value), Inv (cxOf (L2.CX P w) P w K mg base N qual scope f cdv A outer s H E) [] σ' H' s' → RelV v u → Q v H' → CE outer P w H s Q u s' :=
    fun σ' H' v u J rv qq => Exists.intro v (Exists.intro H' ⟨J.os, J.bare, J.base, J.hok, rv, qq⟩)
  match fl, q with
  | .ret u, ⟨v, σ', H', J, rv, qq⟩ => exact close σ' H' v u J rv qq
  | .next, ⟨σ', H', J, qq⟩ => exact close σ' H' .non Value.none J rfl qq
  | .brk, ⟨_, _, _, z⟩ => exact z.elim
  | .cont, ⟨_, _, _, z⟩ => exact z.elim
end
/-- the callee runs -/
theorem run_g {X : Cx} {k : Nat} {f : Addr} {fd : FuncData} {ps : List Str} {sp : Sp} {E : XK} {pins : List (Addr × Obj)} {σ : L2.St} {H : Hp} {s : Shared} {Q : VK} {pos us : List Value} {kw : List (Str × Value)} {vs : List V}
    (F : FnG X.prog X.w X.K X.mg X.base k f fd ps sp) (hr : Room k X.A) (hg : X.A.guards = some []) (hb : BindsTo s fd ⟨pos, kw⟩ (ps.zip us)) (hx : PassesAt (L2.CX X.prog X.w) X σ E) (I : Inv X pins σ H s) (r : Vals vs us) (h : sp vs H Q E) :
    wpAny (model X.prog X.w) X.A (call (.ref f) pos kw) (EP X pins σ Q) X.xe s := by
  refine wpAny_call (codeAny_mono (F.run X.A X.stack s H ⟨pos, kw⟩ us vs Q E hr hg I.env0 hb r h) ?_)
  intro r s' q
  match r, q with
  | .error e, q => exact hx pins H s e s' I q
  | .ok (.ret u), q => exact Inv.after I q
  | .ok .next, q => exact q.elim
  | .ok .brk, q => exact q.elim
  | .ok .cont, q => exact q.elim

/-! ### the promise by a function of data -/
def spOf (K : PySem.W.Frag) (mg : Str → Option Value) (T : List (Addr × Str)) (fr : Bool) (n : Nat) (f : OpB) : Sp := fun vs H Q E =>
  ∃ F μ S ds, SR K T F μ S H ∧ Reps K F μ ds vs ∧ vs.length = n ∧ GP K T F μ (f ds S) (OkV K fr Q) (ErW K mg E)
/-- the def x of the module (no defaults) does f -/
structure DefG (P : Program) (w : World) (K : PySem.W.Frag) (mg : Str → Option Value) (base : Heap) (T : List (Addr × Str)) (k : Nat) (x : Str) (params : Arguments) (body : List Stmt) (scope : Scope) (ps : List Str) (fr : Bool) (o : OpB) : Prop where
  ex : ∃ f fd, FunD K x x params body scope [] [] f fd ∧ mg x = some (.ref f) ∧ FnG P w K mg base k f fd ps (spOf K mg T fr ps.length o)
theorem DefG.mono {P : Program} {w : World} {K : PySem.W.Frag} {mg : Str → Option Value} {base : Heap} {T : List (Addr × Str)} {j k : Nat} {x : Str} {params : Arguments} {body : List Stmt} {scope : Scope} {ps : List Str} {fr : Bool} {o : OpB}
    (h : DefG P w K mg base T j x params body scope ps fr o) (l : j ≤ k) : DefG P w K mg base T k x params body scope ps fr o := by
  obtain ⟨f, fd, a, b, c⟩ := h.ex
  exact ⟨f, fd, a, b, c.mono l⟩
/-- how positional values bind -/
def Posn (params : Arguments) (body : List Stmt) (scope : Scope) (x : Str) (ps : List Str) : Prop := ∀ (kV doc pm : Value) (an : Option Addr) (cdv ct : Value) (us : List Value), us.length = ps.length → bindArgs (PySem.W.fnOf x x params body scope .none kV doc pm an cdv ct) ⟨us, []⟩ = pure (ps.zip us)
/-- how keywords bind: g puts positional values and keywords' values in the parameters' order -/
def Keyn (params : Arguments) (body : List Stmt) (scope : Scope) (x : Str) (ps ks : List Str) (n : Nat) (g : {α : Type} → List α → List α → List α) : Prop := ∀ (kV doc pm : Value) (an : Option Addr) (cdv ct : Value) (us ws : List Value), us.length = n → ws.length = ks.length →
  bindArgs (PySem.W.fnOf x x params body scope .none kV doc pm an cdv ct) ⟨us, ks.zip ws⟩ = pure (ps.zip (g us ws))
theorem FunD.to {K : PySem.W.Frag} {x qual : Str} {params : Arguments} {body : List Stmt} {scope : Scope} {f : Addr} {fd : FuncData} (F : FunD K x qual params body scope [] [] f fd) : ∃ kV doc pm an cdv ct, fd = PySem.W.fnOf x qual params body scope .none kV doc pm an cdv ct := by
  obtain ⟨oc, od, dV, kV, doc, pm, an, cdv, ct, osl, rfl, lk, hcd, hD, hK⟩ := F.ex
  rcases hD with ⟨_, rfl⟩ | ⟨e, _⟩
  · exact ⟨kV, doc, pm, an, cdv, ct, rfl⟩
  · exact absurd rfl e
section
variable {X : Cx} {T : List (Addr × Str)} {W : WX} {k : Nat} {x : Str} {params : Arguments} {body : List Stmt} {scope : Scope} {ps ks : List Str} {fr : Bool} {o : OpB} {p pos : Pos} {e : Expr} {es : List Expr} {kws : List Keyword} {c cs : AX}
def cCall (n : Nat) (o : OpB) (r : AX) : EX := fun ρ S => bindO (r ρ S) fun ds S => if ds.length = n then o ds S else none
/-- f(e, ..) -/
theorem re_call (G : DefG X.prog X.w X.K X.mg X.base T k x params body scope ps fr o) (hp : Posn params body scope x ps) (hr : Room k X.A) (hgu : X.A.guards = some []) (hx : ∀ σ, PassesAt (L2.CX X.prog X.w) X σ fun cls d H => W cls d σ H)
    (ha : RA T X W (e :: es) c) (hg : Gl X x := by rfl) (hdb : (x == ("__debug__" : Str)) = false := by decide) (he : starEach (e :: es) X.env = (false, eval e X.env) :: starEach es X.env := by rfl) (hpl : (backTo pos (starEach es X.env)).any (·.1) = false := by rfl) :
    RE T fr X W (.Call (.Name x p) (e :: es) [] pos) (cCall ps.length o c) := by
  obtain ⟨f, fd, FD, hm, FG⟩ := G.ex
  obtain ⟨t, pa, rd⟩ := ha
  refine ⟨fun σ H Q => t σ H fun vs H1 => spOf X.K X.mg T fr ps.length o vs H1 Q (fun cls d H => W cls d σ H), ⟨fun pins s σ H Q I h => ?_⟩, fun σ ρ F μ S H Q s hE g => ?_⟩
  · refine wpAny_Call_Name_kw (ld_glob I hg hm ?_ hdb)
    refine PySem.W.callWith_K (h₀ := X.base) I.ok.mod.kin FD.kp (thn (pa.run pos pins s σ H _ I h) fun us s1 ⟨vs, H1, I1, r, q⟩ => ⟨I1.kIn, ?_⟩) he hpl
    obtain ⟨kV, doc, pm, an, cdv, ct, rfl⟩ := FunD.to FD
    have hl : us.length = ps.length := by
      obtain ⟨_, _, _, _, _, _, hl, _⟩ := id q
      rw [← r.length]; exact hl
    exact run_g (us := us) FG hr hgu (.of_eq (hp _ _ _ _ _ _ us hl)) (hx σ) I1 r q
  · refine rd σ ρ F μ S H _ s hE (GP.seq g fun ds F1 μ1 H1 S1 e1 p1 s1 g1 vs rs => ?_)
    split at g1
    · rename_i hn
      exact ⟨F1, μ1, S1, ds, s1, rs, by rw [← rs.length]; exact hn, g1⟩
    · exact g1.elim
/-- f(e, .., k = v, ..); n positional values -/
def cCallK (n m : Nat) (g : List D → List D → List D) (o : OpB) (r rk : AX) : EX := fun ρ S => bindO (r ρ S) fun ds S => bindO (rk ρ S) fun es S => if ds.length = n ∧ es.length = m then o (g ds es) S else none
theorem re_callK {n : Nat} {g : {α : Type} → List α → List α → List α} (G : DefG X.prog X.w X.K X.mg X.base T k x params body scope ps fr o) (hp : Keyn params body scope x ps ks n g) (hgr : ∀ {K F μ} {ds es : List D} {vs us : List V}, ds.length = n → es.length = ks.length → Reps K F μ ds vs → Reps K F μ es us → Reps K F μ (g ds es) (g vs us))
    (hgv : ∀ {vs us : List V} {ws zs : List Value}, vs.length = n → us.length = ks.length → Vals vs ws → Vals us zs → Vals (g vs us) (g ws zs)) (hgl : ∀ {ds es : List V}, ds.length = n → es.length = ks.length → (g ds es).length = ps.length)
    (hr : Room k X.A) (hgu : X.A.guards = some []) (hx : ∀ σ, PassesAt (L2.CX X.prog X.w) X σ fun cls d H => W cls d σ H)
    (ha : RA T X W (e :: es) c) (hkw : RK T X W kws cs) (hg : Gl X x := by rfl) (hall : (backToKw pos (keywordEach kws X.env)).all (·.1.isSome) = true := by rfl) (hks : (backToKw pos (keywordEach kws X.env)).filterMap (·.1) = ks := by rfl)
    (hdb : (x == ("__debug__" : Str)) = false := by decide) (he : starEach (e :: es) X.env = (false, eval e X.env) :: starEach es X.env := by rfl)
    (hpl : ((backTo pos (starEach (e :: es) X.env)).any (·.1) || (backToKw pos (keywordEach kws X.env)).any (·.1.isNone)) = false := by rfl) :
    RE T fr X W (.Call (.Name x p) (e :: es) kws pos) (cCallK n ks.length g o c cs) := by
  obtain ⟨f, fd, FD, hm, FG⟩ := G.ex
  obtain ⟨t, pa, rd⟩ := ha
  obtain ⟨t2, pk, rd2⟩ := hkw
  refine ⟨fun σ H Q => t σ H fun vs H1 => t2 σ H1 fun us H2 => vs.length = n ∧ us.length = ks.length ∧ spOf X.K X.mg T fr ps.length o (g vs us) H2 Q (fun cls d H => W cls d σ H), ⟨fun pins s σ H Q I h => ?_⟩, fun σ ρ F μ S H Q s hE g => ?_⟩
  · refine wpAny_Call_Name_kw (ld_glob I hg hm ?_ hdb)
    refine PySem.W.callWith_KW (h₀ := X.base) I.ok.mod.kin FD.kp hall (thn (pa.run pos pins s σ H _ I h) fun us s1 ⟨vs, H1, I1, r, q⟩ => ?_) hpl he
    refine thn (pk.run pos pins s1 σ H1 _ I1 q) fun ws s2 ⟨zs, H2, I2, rz, l1, l2, q2⟩ => ⟨I2.kIn, ?_⟩
    obtain ⟨kV, doc, pm, an, cdv, ct, rfl⟩ := FunD.to FD
    rw [hks]
    exact run_g (us := g us ws) FG hr hgu (.of_eq (hp _ _ _ _ _ _ us ws (by rw [← r.length]; exact l1) (by rw [← rz.length]; exact l2))) (hx σ) I2 (hgv l1 l2 r rz) q2
  · refine rd σ ρ F μ S H _ s hE (GP.seq g fun ds F1 μ1 H1 S1 e1 p1 s1 g1 vs rs => ?_)
    refine rd2 σ ρ F1 μ1 S1 H1 _ s1 (hE.mono e1 p1) (GP.seq g1 fun es F2 μ2 H2 S2 e2 p2 s2 g2 us ru => ?_)
    split at g2
    · rename_i hn
      have l1 : vs.length = n := by rw [← rs.length]; exact hn.1
      have l2 : us.length = ks.length := by rw [← ru.length]; exact hn.2
      exact ⟨l1, l2, F2, μ2, S2, _, s2, hgr hn.1 hn.2 (rs.mono e2 p2) ru, hgl l1 l2, g2⟩
    · exact g2.elim
/-- f(k = v, ..) -/
theorem re_callK0 {g : {α : Type} → List α → List α → List α} (G : DefG X.prog X.w X.K X.mg X.base T k x params body scope ps fr o) (hp : Keyn params body scope x ps ks 0 g) (hgr : ∀ {K F μ} {ds es : List D} {vs us : List V}, ds.length = 0 → es.length = ks.length → Reps K F μ ds vs → Reps K F μ es us → Reps K F μ (g ds es) (g vs us))
    (hgv : ∀ {vs us : List V} {ws zs : List Value}, vs.length = 0 → us.length = ks.length → Vals vs ws → Vals us zs → Vals (g vs us) (g ws zs)) (hgl : ∀ {ds es : List V}, ds.length = 0 → es.length = ks.length → (g ds es).length = ps.length)
    (hr : Room k X.A) (hgu : X.A.guards = some []) (hx : ∀ σ, PassesAt (L2.CX X.prog X.w) X σ fun cls d H => W cls d σ H)
    (hkw : RK T X W kws cs) (hg : Gl X x := by rfl) (hall : (backToKw pos (keywordEach kws X.env)).all (·.1.isSome) = true := by rfl) (hks : (backToKw pos (keywordEach kws X.env)).filterMap (·.1) = ks := by rfl)
    (hdb : (x == ("__debug__" : Str)) = false := by decide)
    (hpl : ((backTo pos (starEach [] X.env)).any (·.1) || (backToKw pos (keywordEach kws X.env)).any (·.1.isNone)) = false := by rfl) :
    RE T fr X W (.Call (.Name x p) [] kws pos) (cCallK 0 ks.length g o aNil cs) := by
  obtain ⟨f, fd, FD, hm, FG⟩ := G.ex
  obtain ⟨t2, pk, rd2⟩ := hkw
  refine ⟨fun σ H Q => t2 σ H fun us H2 => us.length = ks.length ∧ spOf X.K X.mg T fr ps.length o (g [] us) H2 Q (fun cls d H => W cls d σ H), ⟨fun pins s σ H Q I h => ?_⟩, fun σ ρ F μ S H Q s hE g => ?_⟩
  · refine wpAny_Call_Name_kw (ld_glob I hg hm ?_ hdb)
    refine PySem.W.callWith_KW0 (h₀ := X.base) I.ok.mod.kin FD.kp hall ?_ hpl
    refine thn (pk.run pos pins s σ H _ I h) fun ws s2 ⟨zs, H2, I2, rz, l2, q2⟩ => ⟨I2.kIn, ?_⟩
    obtain ⟨kV, doc, pm, an, cdv, ct, rfl⟩ := FunD.to FD
    rw [hks]
    exact run_g (us := g [] ws) FG hr hgu (.of_eq (hp _ _ _ _ _ _ [] ws rfl (by rw [← rz.length]; exact l2))) (hx σ) I2 (hgv rfl l2 .nil rz) q2
  · have g0 := g
    unfold cCallK aNil at g
    rw [bindO_ok] at g
    refine rd2 σ ρ F μ S H _ s hE (GP.seq g fun es F2 μ2 H2 S2 e2 p2 s2 g2 us ru => ?_)
    split at g2
    · rename_i hn
      have l2 : us.length = ks.length := by rw [← ru.length]; exact hn.2
      exact ⟨l2, F2, μ2, S2, _, s2, hgr rfl hn.2 .nil ru, hgl rfl l2, g2⟩
    · exact g2.elim
/-- the orders that come up: two by two -/
def kSwap {α : Type} : List α → List α → List α
  | [], [a, b] => [b, a]
  | xs, ys => xs ++ ys
def kSame {α : Type} (xs ys : List α) : List α := xs ++ ys
end

/-! ### repr -/
def reprOk (d : D) : Bool := d.pure && d.py.showable && decide (d.py.depth ≤ 60) && decide (d.py.shown.length ≤ sizeLine)
def bRepr : OpB := fun ds S => match ds with
  | [d] => if reprOk (told S d) = true then some (.ok (.str (told S d).py.shown), S) else none
  | _ => none
mutual
theorem py_nodict : ∀ d : D, d.py.hasDict = false
  | .non => by simp [D.py, PyData.hasDict]
  | .bl b => by simp [D.py, PyData.hasDict]
  | .int i => by simp [D.py, PyData.hasDict]
  | .str x => by simp [D.py, PyData.hasDict]
  | .tup xs => by simp [D.py, PyData.hasDict, pys_nodict xs]
  | .lst xs => by simp [D.py, PyData.hasDict, pys_nodict xs]
  | .loc n => by simp [D.py, PyData.hasDict]
  | .fz n => by simp [D.py, PyData.hasDict]
theorem pys_nodict : ∀ xs : List D, PyData.hasDictAll (D.pys xs) = false
  | [] => by simp [D.pys, PyData.hasDictAll]
  | x :: xs => by simp [D.pys, PyData.hasDictAll, py_nodict x, pys_nodict xs]
end
/-- the text of data -/
def rRepr (K : PySem.W.Frag) : List V → Hp → VK → Prop := fun vs H Q => ∃ v d, vs = [v] ∧ Dp K H v d ∧ d.showable = true ∧ d.hasDict = false ∧ d.depth ≤ 60 ∧ d.shown.length ≤ sizeLine ∧ Q (.str d.shown) H
theorem call_repr {X : Cx} (hg : X.A.guards = some []) (hu : X.A.units + 64 < cLine) : CallR X (.builtin "repr") (rRepr X.K) := by
  intro pins s σ H xs us Q I r h
  obtain ⟨v, d, rfl, hd, h1, h2, h3, h4, q⟩ := h
  obtain ⟨u, rfl, ru⟩ := vals1 r
  have fin : ∀ (t : Tok) (s' : Shared), Inv X pins σ H s' → EP X pins σ Q (.str d.shown t) s' := fun t s' J => ⟨.str d.shown, H, J, ⟨t, rfl⟩, q⟩
  cases hd with
  | non => cases ru; exact PySem.P.repr_of_none (fin _ _ (I.tok _))
  | bl b =>
    cases ru
    refine PySem.P.repr_of_bool ?_
    cases b <;> exact fin _ _ (I.tok _)
  | int i =>
    obtain ⟨t, rfl⟩ := ru
    have h1' : i.natAbs.log2 < 1920 := by simpa [PyData.showable] using h1
    exact PySem.P.repr_of_int h1' (fin _ _ (I.tok _))
  | str x =>
    obtain ⟨t, rfl⟩ := ru
    exact PySem.P.repr_of_str (fin _ _ (I.tok _)) h4
  | lst hs ha =>
    have rv := ru
    cases ru
    obtain ⟨as, rd⟩ := Dp.reads I _ _ _ (.lst hs ha) rv
    exact repr_of_reads' rd h1 (fun z => by rw [h2] at z; cases z) hg (by omega) (fun b o e => e) (fun h' t tk kk => fin _ _ (I.kept kk)) h4
  | tup hs ha =>
    have rv := ru
    cases ru
    obtain ⟨as, rd⟩ := Dp.reads I _ _ _ (.tup hs ha) rv
    exact repr_of_reads' rd h1 (fun z => by rw [h2] at z; cases z) hg (by omega) (fun b o e => e) (fun h' t tk kk => fin _ _ (I.kept kk)) h4
theorem bRepr_ok {X : Cx} {T : List (Addr × Str)} : BltOk X T false (rRepr X.K) bRepr := by
  intro F μ S H ds vs Q er s rs h
  unfold bRepr at h
  split at h
  · obtain ⟨v, rfl, r⟩ := rs.inv1
    split at h
    · rename_i d hc
      unfold reprOk at hc
      simp only [Bool.and_eq_true, decide_eq_true_eq] at hc
      obtain ⟨⟨⟨h1, h2⟩, h3⟩, h4⟩ := hc
      exact ⟨v, _, rfl, dp_told s r h1, h2, py_nodict _, h3, h4, gp_val h s (.str _)⟩
    · exact h.elim
  · exact h.elim
end PF
set_option Elab.async false
set_option linter.all false
set_option maxRecDepth 100000
set_option maxHeartbeats 4000000
/-! PF5: what is walked, targets, comprehensions. -/
namespace PF
open PySem L2 Evl PySem.Spec PyProof.Rows
/-! ### what is walked -/
inductive Src where
  | items (ds : List D) | cell (n : Nat) | enum (s : Src) | zip (a b : Src)
def numb : Nat → List D → List D
  | _, [] => []
  | i, d :: ds => .tup [.int i, d] :: numb (i + 1) ds
theorem numb_get : ∀ (ds : List D) (k i : Nat), (numb k ds)[i]? = (ds[i]?).map fun d => .tup [.int ((k + i : Nat) : Int), d]
  | [], _, _ => by simp [numb]
  | d :: ds, k, 0 => by simp [numb]
  | d :: ds, k, i + 1 => by
    simp only [numb, List.getElem?_cons_succ, numb_get ds (k + 1) i]
    have : k + 1 + i = k + (i + 1) := by omega
    rw [this]
theorem numb_len : ∀ (ds : List D) (k : Nat), (numb k ds).length = ds.length
  | [], _ => rfl
  | d :: ds, k => by simp [numb, numb_len ds (k + 1)]
def zipD : List D → List D → List D
  | d :: ds, e :: es => .tup [d, e] :: zipD ds es
  | _, _ => []
theorem zipD_get : ∀ (ds es : List D) (i : Nat) (x : D), (zipD ds es)[i]? = some x → ∃ d e, ds[i]? = some d ∧ es[i]? = some e ∧ x = .tup [d, e]
  | d :: ds, e :: es, 0, x, h => by simp [zipD] at h; exact ⟨d, e, rfl, rfl, h.symm⟩
  | d :: ds, e :: es, i + 1, x, h => by
    simp only [zipD, List.getElem?_cons_succ] at h ⊢
    exact zipD_get ds es i x h
  | [], _, i, x, h => by simp [zipD] at h
  | _ :: _, [], i, x, h => by simp [zipD] at h
theorem zipD_len : ∀ (ds es : List D), (zipD ds es).length = min ds.length es.length
  | d :: ds, e :: es => by simp [zipD, zipD_len ds es]
  | [], es => by simp [zipD]
  | _ :: _, [] => by simp [zipD]
def srcAt : Src → Store → Option (List D)
  | .items ds, _ => some ds
  | .cell n, S => S[n]?
  | .enum s, S => (srcAt s S).map (numb 0)
  | .zip a b, S => match srcAt a S, srcAt b S with
    | some xs, some ys => some (zipD xs ys)
    | _, _ => none
/-- J walks it, whatever has happened meanwhile -/
def Walks (K : PySem.W.Frag) (T : List (Addr × Str)) (F0 : Hp) (μ0 : List Addr) (src : Src) (J : It) : Prop :=
  ∀ F μ S H ds i, Ex F0 F → μ0 <+: μ → SR K T F μ S H → srcAt src S = some ds →
    (∀ d, ds[i]? = some d → J.go i H ∧ ∀ x H', J.yld i H x H' → ∃ F', Ex F F' ∧ SR K T F' μ S H' ∧ Rep K F' μ d x) ∧ (ds.length ≤ i → J.stop i H)
abbrev IX := PF.Env → Store → Out Src
def RI (T : List (Addr × Str)) (X : Cx) (W : WX) (tg e : Expr) (c : IX) : Prop := ∃ wi, PI X tg e wi ∧
  ∀ σ ρ F μ S H (R : It → Hp → Prop), SR X.K T F μ S H → EnvR X.K F μ ρ σ → GP X.K T F μ (c ρ S) (fun src F' μ' H' _ => ∀ J, Walks X.K T F' μ' src J → R J H') (ErW X.K X.mg fun cls dd H' => W cls dd σ H') → wi σ H R
/-- a list or a tuple as a value tells what is walked -/
def srcOf : D → Option Src
  | .tup ds => some (.items ds)
  | .lst ds => some (.items ds)
  | .fz ds => some (.items ds)
  | .loc n => some (.cell n)
  | _ => none
section
variable {K : PySem.W.Frag} {T : List (Addr × Str)} {F H : Hp} {μ : List Addr} {S : Store} {d : D} {v : V} {src src2 : Src} {a b : Addr}
/-- at each later state a is a list (a tuple) of what src has -/
def StandL (K : PySem.W.Frag) (T : List (Addr × Str)) (F0 : Hp) (μ0 : List Addr) (src : Src) (a : Addr) : Prop := ∀ F μ S H ds, Ex F0 F → μ0 <+: μ → SR K T F μ S H → srcAt src S = some ds → ∃ vs, SqL K H a vs ∧ Reps K F μ ds vs
def StandT (K : PySem.W.Frag) (T : List (Addr × Str)) (F0 : Hp) (μ0 : List Addr) (src : Src) (a : Addr) : Prop := ∀ F μ S H ds, Ex F0 F → μ0 <+: μ → SR K T F μ S H → srcAt src S = some ds → ∃ vs, SqT K H a vs ∧ Reps K F μ ds vs
theorem StandL.mono {F' : Hp} {μ' : List Addr} (h : StandL K T F μ src a) (e : Ex F F') (p : μ <+: μ') : StandL K T F' μ' src a := fun F2 μ2 S H ds e2 p2 s q => h F2 μ2 S H ds (e.trans e2) (p.trans p2) s q
theorem StandT.mono {F' : Hp} {μ' : List Addr} (h : StandT K T F μ src a) (e : Ex F F') (p : μ <+: μ') : StandT K T F' μ' src a := fun F2 μ2 S H ds e2 p2 s q => h F2 μ2 S H ds (e.trans e2) (p.trans p2) s q
theorem walks_l (h : StandL K T F μ src a) : Walks K T F μ src (Itl K a) := by
  intro F' μ' S H ds i e p s q
  obtain ⟨vs, h1, h2⟩ := h F' μ' S H ds e p s q
  refine ⟨fun d hd => ?_, fun hl => ⟨vs, h1, by rw [← h2.length]; exact hl⟩⟩
  obtain ⟨v, k1, k2⟩ := h2.get hd
  refine ⟨⟨vs, v, h1, k1⟩, fun x H' y => ?_⟩
  obtain ⟨rfl, y⟩ := y
  have := (y vs h1).symm.trans k1
  cases this
  exact ⟨F', Ex.refl _, s, k2⟩
theorem walks_t (h : StandT K T F μ src a) : Walks K T F μ src (Itt K a) := by
  intro F' μ' S H ds i e p s q
  obtain ⟨vs, h1, h2⟩ := h F' μ' S H ds e p s q
  refine ⟨fun d hd => ?_, fun hl => ⟨vs, h1, by rw [← h2.length]; exact hl⟩⟩
  obtain ⟨v, k1, k2⟩ := h2.get hd
  refine ⟨⟨vs, v, h1, k1⟩, fun x H' y => ?_⟩
  obtain ⟨rfl, y⟩ := y
  have := (y vs h1).symm.trans k1
  cases this
  exact ⟨F', Ex.refl _, s, k2⟩
def ranged (lo : Int) : Nat → List D
  | 0 => []
  | n + 1 => .int lo :: ranged (lo + 1) n
theorem ranged_get : ∀ (n : Nat) (lo : Int) (i : Nat), i < n → (ranged lo n)[i]? = some (.int (lo + i))
  | n + 1, lo, 0, _ => by simp [ranged]
  | n + 1, lo, i + 1, h => by
    simp only [ranged, List.getElem?_cons_succ]
    rw [ranged_get n (lo + 1) i (by omega)]
    have : lo + 1 + (i : Int) = lo + ((i + 1 : Nat) : Int) := by omega
    rw [this]
theorem ranged_len : ∀ (n : Nat) (lo : Int), (ranged lo n).length = n
  | 0, _ => rfl
  | n + 1, lo => by simp [ranged, ranged_len n]
theorem walks_r {lo : Int} {n : Nat} : Walks K T F μ (.items (ranged lo n)) (Itr lo n) := by
  intro F' μ' S H ds i e p s q
  cases q
  refine ⟨fun d hd => ?_, fun hl => by rw [ranged_len] at hl; exact hl⟩
  have hi : i < n := by
    have := (List.getElem?_eq_some_iff.mp hd).1
    rw [ranged_len] at this; exact this
  rw [ranged_get n lo i hi] at hd
  cases hd
  refine ⟨hi, fun x H' y => ?_⟩
  obtain ⟨rfl, rfl⟩ := y
  exact ⟨F', Ex.refl _, s, .int _⟩
theorem walks_e (h : StandL K T F μ src a) : Walks K T F μ (.enum src) (Ite K a) := by
  intro F' μ' S H ds i e p s q
  simp only [srcAt, Option.map_eq_some_iff] at q
  obtain ⟨es, q, rfl⟩ := q
  obtain ⟨vs, h1, h2⟩ := h F' μ' S H es e p s q
  refine ⟨fun d hd => ?_, fun hl => ⟨vs, h1, by rw [← h2.length]; rw [numb_len] at hl; exact hl⟩⟩
  rw [numb_get, Option.map_eq_some_iff] at hd
  obtain ⟨d', hd, rfl⟩ := hd
  obtain ⟨v, k1, k2⟩ := h2.get hd
  refine ⟨⟨vs, v, h1, k1⟩, fun x H' y => ?_⟩
  obtain ⟨A, w, rfl, hA, rfl, y⟩ := y
  have := (y vs h1).symm.trans k1
  cases this
  have hF := fresh_back s.ex hA
  rw [Nat.zero_add]
  exact ⟨upd F' A (.tup [.int (i : Nat), _]), Ex.new hF, s.new hA, .tup (st_of upd_same) (.cons (.int _) (.cons (k2.mono (Ex.new hF) (List.prefix_refl _)) .nil))⟩
theorem walks_z (h : StandL K T F μ src a) (k : StandL K T F μ src2 b) : Walks K T F μ (.zip src src2) (Itz K a b) := by
  intro F' μ' S H ds i e p s q
  simp only [srcAt] at q
  split at q
  · rename_i es fs q1 q2
    cases q
    obtain ⟨vs, h1, h2⟩ := h F' μ' S H es e p s q1
    obtain ⟨us, k1, k2⟩ := k F' μ' S H fs e p s q2
    refine ⟨fun d hd => ?_, fun hl => ⟨vs, us, h1, k1, by rw [zipD_len] at hl; rw [← h2.length, ← k2.length]; omega⟩⟩
    obtain ⟨x, y, e1, e2, rfl⟩ := zipD_get _ _ _ _ hd
    obtain ⟨v, a1, a2⟩ := h2.get e1
    obtain ⟨u, b1, b2⟩ := k2.get e2
    refine ⟨⟨vs, us, v, u, h1, k1, a1, b1⟩, fun x H' z => ?_⟩
    obtain ⟨A, x', y', rfl, hA, rfl, z1, z2⟩ := z
    have t1 := (z1 vs h1).symm.trans a1
    have t2 := (z2 us k1).symm.trans b1
    cases t1; cases t2
    have hF := fresh_back s.ex hA
    exact ⟨upd F' A (.tup [_, _]), Ex.new hF, s.new hA, .tup (st_of upd_same) (.cons (a2.mono (Ex.new hF) (List.prefix_refl _)) (.cons (b2.mono (Ex.new hF) (List.prefix_refl _)) .nil))⟩
  · cases q
theorem walks_zT (h : StandT K T F μ src a) (k : StandT K T F μ src2 b) : Walks K T F μ (.zip src src2) (RZ.ItzT K a b) := by
  intro F' μ' S H ds i e p s q
  simp only [srcAt] at q
  split at q
  · rename_i es fs q1 q2
    cases q
    obtain ⟨vs, h1, h2⟩ := h F' μ' S H es e p s q1
    obtain ⟨us, k1, k2⟩ := k F' μ' S H fs e p s q2
    refine ⟨fun d hd => ?_, fun hl => ⟨vs, us, h1, k1, by rw [zipD_len] at hl; rw [← h2.length, ← k2.length]; omega⟩⟩
    obtain ⟨x, y, e1, e2, rfl⟩ := zipD_get _ _ _ _ hd
    obtain ⟨v, a1, a2⟩ := h2.get e1
    obtain ⟨u, b1, b2⟩ := k2.get e2
    refine ⟨⟨vs, us, v, u, h1, k1, a1, b1⟩, fun x H' z => ?_⟩
    obtain ⟨A, x', y', rfl, hA, rfl, z1, z2⟩ := z
    have t1 := (z1 vs h1).symm.trans a1
    have t2 := (z2 us k1).symm.trans b1
    cases t1; cases t2
    have hF := fresh_back s.ex hA
    exact ⟨upd F' A (.tup [_, _]), Ex.new hF, s.new hA, .tup (st_of upd_same) (.cons (a2.mono (Ex.new hF) (List.prefix_refl _)) (.cons (b2.mono (Ex.new hF) (List.prefix_refl _)) .nil))⟩
  · cases q
/-- a list or tuple value stands -/
theorem stand (s : SR K T F μ S H) (r : Rep K F μ d v) (h : srcOf d = some src) : ∃ a, v = .ref a ∧ (((∃ vs, SqL K H a vs) ∧ StandL K T F μ src a) ∨ ((∃ vs, SqT K H a vs) ∧ StandT K T F μ src a)) := by
  cases r with
  | @tup a xs ds hq rs =>
    cases h
    exact ⟨a, rfl, .inr ⟨⟨xs, s.sqT hq⟩, fun F' μ' S' H' es e p s' q => by cases q; exact ⟨xs, s'.sqT (ex_t e hq), rs.mono e p⟩⟩⟩
  | @lst a xs ds hq rs =>
    cases h
    exact ⟨a, rfl, .inl ⟨⟨xs, sq_of (s.ex _ _ hq)⟩, fun F' μ' S' H' es e p s' q => by cases q; exact ⟨xs, sq_of (s'.ex _ _ (e _ _ hq)), rs.mono e p⟩⟩⟩
  | @fz a xs ds hq rs =>
    cases h
    exact ⟨a, rfl, .inl ⟨⟨xs, s.sqL hq⟩, fun F' μ' S' H' es e p s' q => by cases q; exact ⟨xs, s'.sqL (ex_l e hq), rs.mono e p⟩⟩⟩
  | @loc n a hm =>
    cases h
    obtain ⟨ds, vs, h1, h2, h3, _⟩ := s.get hm
    refine ⟨a, rfl, .inl ⟨⟨vs, sq_of h2⟩, fun F' μ' S' H' es e p s' q => ?_⟩⟩
    obtain ⟨ds', vs', k1, k2, k3, _⟩ := s'.get (pre_get p hm)
    simp only [srcAt] at q
    rw [k1] at q; cases q
    exact ⟨vs', sq_of k2, k3⟩
  | _ => cases h
end
/-! ### what a for, a comprehension walks -/
section
variable {X : Cx} {T : List (Addr × Str)} {W : WX} {tg e e2 : Expr} {c : EX} {ca : AX} {p pos : Pos}
def cSeqI (c : EX) : IX := fun ρ S => bindO (c ρ S) fun d S => match srcOf d with
  | some src => some (.ok src, S)
  | none => none
theorem ri_seq (h : RE T false X W e c) : RI T X W tg e (cSeqI c) := by
  obtain ⟨t, pe, f⟩ := h
  refine ⟨fun σ H R => t σ H fun x H1 => ∃ a, x = .ref a ∧ (((∃ vs, SqL X.K H1 a vs) ∧ R (Itl X.K a) H1) ∨ ((∃ vs, SqT X.K H1 a vs) ∧ R (Itt X.K a) H1)), ⟨fun pins s σ H R I h => ?_⟩, fun σ ρ F μ S H R s hE g => ?_⟩
  · refine thn (pe.run pins s σ H _ I h) ?_
    rintro v s1 ⟨x, H1, I1, r1, a, rfl, q1⟩
    cases r1
    have newest : ∀ (ob : Obj), Inv X pins σ H1 { s1 with heap := s1.heap.push ob } := fun ob => Inv.kept (t' := s1.toks) I1 fun b o q => Heap.get?_push_of_some _ q
    have foot : ∀ b ∈ [s1.heap.objs.size], FpOk X pins H1 b := fun b hb => by
      rw [List.mem_singleton] at hb
      subst hb
      exact Inv.fpOk I1 (Nat.le_refl _) (HOk.fresh I1.hok (Nat.le_refl _))
    rcases q1 with ⟨⟨vs, hq⟩, q⟩ | ⟨⟨vs, hq⟩, q⟩
    · obtain ⟨its, _, pl, _⟩ := Inv.list I1 hq
      exact wpAny_pyIter_list pl.isList ⟨_, _, _, _, H1, rfl, newest _, turn_list a _, ⟨_, Heap.get?_push_size _ rfl, rfl, rfl⟩, foot, q⟩
    · obtain ⟨its, _, pt, _⟩ := Inv.tuple I1 hq
      exact wpAny_pyIter_tuple (items := its.toArray) pt ⟨_, _, _, _, H1, rfl, newest _, turn_tuple a _, ⟨_, Heap.get?_push_size _ rfl, rfl, rfl⟩, foot, q⟩
  · refine f σ ρ F μ S H _ s hE (GP.seq g fun d F1 μ1 H1 S1 e1 p1 s1 g1 v rv => ?_)
    split at g1
    · rename_i src hs
      obtain ⟨a, rfl, hh⟩ := stand s1 rv hs
      have fin := GP.here g1 s1
      refine ⟨a, rfl, ?_⟩
      rcases hh with ⟨h1, h2⟩ | ⟨h1, h2⟩
      · exact .inl ⟨h1, fin _ (walks_l h2)⟩
      · exact .inr ⟨h1, fin _ (walks_t h2)⟩
    · exact g1.elim
/-- range(n) -/
def cRange1 (c : AX) : IX := fun ρ S => bindO (c ρ S) fun ds S => match ds with
  | [.int n] => if n < 1000000000 ∧ -1000000000 < n then some (.ok (.items (ranged 0 n.toNat)), S) else none
  | _ => none
def cRange2 (c : AX) : IX := fun ρ S => bindO (c ρ S) fun ds S => match ds with
  | [.int m, .int n] => if (n < 1000000000 ∧ -1000000000 < n) ∧ (m < 1000000000 ∧ -1000000000 < m) then some (.ok (.items (ranged m (n - m).toNat)), S) else none
  | _ => none
theorem ri_range1 (ha : RA T X W [e] ca) (hm : X.mg "range" = none) (hg : Gl X "range" := by rfl) (hs : starEach [e] X.env = [(false, eval e X.env)] := by rfl) : RI T X W tg (.Call (.Name "range" p) [e] [] pos) (cRange1 ca) := by
  obtain ⟨t, pa, f⟩ := ha
  refine ⟨_, pi_range1 hg hm pa hs, fun σ ρ F μ S H R s hE g => f σ ρ F μ S H _ s hE (GP.seq g fun ds F1 μ1 H1 S1 e1 p1 s1 g1 vs rs => ?_)⟩
  split at g1
  · rename_i n
    split at g1
    · rename_i hn
      obtain ⟨v, rfl, rv⟩ := rs.inv1
      cases rv
      exact ⟨n, rfl, by omega, by omega, GP.here g1 s1 _ walks_r⟩
    · exact g1.elim
  · exact g1.elim
theorem ri_range2 (ha : RA T X W [e, e2] ca) (hm : X.mg "range" = none) (hg : Gl X "range" := by rfl) (hs : starEach [e, e2] X.env = [(false, eval e X.env), (false, eval e2 X.env)] := by rfl) (hs2 : starEach [e2] X.env = [(false, eval e2 X.env)] := by rfl) :
    RI T X W tg (.Call (.Name "range" p) [e, e2] [] pos) (cRange2 ca) := by
  obtain ⟨t, pa, f⟩ := ha
  refine ⟨_, pi_range2 hg hm pa hs hs2, fun σ ρ F μ S H R s hE g => f σ ρ F μ S H _ s hE (GP.seq g fun ds F1 μ1 H1 S1 e1 p1 s1 g1 vs rs => ?_)⟩
  split at g1
  · rename_i m n
    split at g1
    · rename_i hn
      obtain ⟨v, u, rfl, rv, ru⟩ := rs.inv2
      cases rv; cases ru
      exact ⟨m, n, rfl, ⟨by omega, by omega, by omega, by omega⟩, GP.here g1 s1 _ walks_r⟩
    · exact g1.elim
  · exact g1.elim
/-- enumerate(xs), a list -/
def isL : D → Bool
  | .lst _ => true
  | .fz _ => true
  | .loc _ => true
  | _ => false
def cEnumL (c : AX) : IX := fun ρ S => bindO (c ρ S) fun ds S => match ds with
  | [d] => if isL d = true then (match srcOf d with
    | some src => some (.ok (.enum src), S)
    | none => none) else none
  | _ => none
theorem stand_l {K : PySem.W.Frag} {F H : Hp} {μ : List Addr} {S : Store} {d : D} {v : V} {src : Src} (s : SR K T F μ S H) (r : Rep K F μ d v) (h : srcOf d = some src) (hl : isL d = true) : ∃ a, v = .ref a ∧ (∃ vs, SqL K H a vs) ∧ StandL K T F μ src a := by
  cases r with
  | @lst a xs ds hq rs =>
    cases h
    exact ⟨a, rfl, ⟨xs, sq_of (s.ex _ _ hq)⟩, fun F' μ' S' H' es e p s' q => by cases q; exact ⟨xs, sq_of (s'.ex _ _ (e _ _ hq)), rs.mono e p⟩⟩
  | @fz a xs ds hq rs =>
    cases h
    exact ⟨a, rfl, ⟨xs, s.sqL hq⟩, fun F' μ' S' H' es e p s' q => by cases q; exact ⟨xs, s'.sqL (ex_l e hq), rs.mono e p⟩⟩
  | @loc n a hm =>
    cases h
    obtain ⟨ds, vs, h1, h2, h3, _⟩ := s.get hm
    refine ⟨a, rfl, ⟨vs, sq_of h2⟩, fun F' μ' S' H' es e p s' q => ?_⟩
    obtain ⟨ds', vs', k1, k2, k3, _⟩ := s'.get (pre_get p hm)
    simp only [srcAt] at q
    rw [k1] at q; cases q
    exact ⟨vs', sq_of k2, k3⟩
  | _ => cases hl
theorem ri_enumL {elts : List Expr} {kk : Nat} {tpos : Pos} (ha : RA T X W [e] ca) (hm : X.mg "enumerate" = none) (hg : Gl X "enumerate" := by rfl) (hs : starEach [e] X.env = [(false, eval e X.env)] := by rfl) : RI T X W (.Tuple elts kk tpos) (.Call (.Name "enumerate" p) [e] [] pos) (cEnumL ca) := by
  obtain ⟨t, pa, f⟩ := ha
  refine ⟨_, pi_enum hg hm pa hs, fun σ ρ F μ S H R s hE g => f σ ρ F μ S H _ s hE (GP.seq g fun ds F1 μ1 H1 S1 e1 p1 s1 g1 vs rs => ?_)⟩
  split at g1
  · rename_i d
    split at g1
    · rename_i hl
      split at g1
      · rename_i src hsrc
        obtain ⟨v, rfl, rv⟩ := rs.inv1
        obtain ⟨a, rfl, ⟨ws, h1⟩, h2⟩ := stand_l s1 rv hsrc hl
        exact ⟨a, ws, rfl, h1, GP.here g1 s1 _ (walks_e h2)⟩
      · exact g1.elim
    · exact g1.elim
  · exact g1.elim
/-- zip of two lists, of two tuples -/
def cZip (c : AX) : IX := fun ρ S => bindO (c ρ S) fun ds S => match ds with
  | [d, e] => if isL d = isL e then (match srcOf d with
    | some src => (match srcOf e with
      | some src2 => some (.ok (.zip src src2), S)
      | none => none)
    | none => none) else none
  | _ => none
theorem stand_t {K : PySem.W.Frag} {F H : Hp} {μ : List Addr} {S : Store} {d : D} {v : V} {src : Src} (s : SR K T F μ S H) (r : Rep K F μ d v) (h : srcOf d = some src) (hl : isL d = false) : ∃ a, v = .ref a ∧ (∃ vs, SqT K H a vs) ∧ StandT K T F μ src a := by
  cases r with
  | @tup a xs ds hq rs =>
    cases h
    exact ⟨a, rfl, ⟨xs, s.sqT hq⟩, fun F' μ' S' H' es e p s' q => by cases q; exact ⟨xs, s'.sqT (ex_t e hq), rs.mono e p⟩⟩
  | lst => cases hl
  | fz => cases hl
  | loc => cases hl
  | _ => cases h
theorem ri_zip {elts : List Expr} {kk : Nat} {tpos : Pos} (ha : RA T X W [e, e2] ca) (hm : X.mg "zip" = none) (hg : Gl X "zip" := by rfl) (hs : starEach [e, e2] X.env = (false, eval e X.env) :: starEach [e2] X.env := by rfl) (hpl : (backTo pos (starEach [e2] X.env)).any (·.1) = false := by rfl) :
    RI T X W (.Tuple elts kk tpos) (.Call (.Name "zip" p) [e, e2] [] pos) (cZip ca) := by
  obtain ⟨t, pa, f⟩ := ha
  refine ⟨_, RZ.pi_zipA hg hm pa hs hpl, fun σ ρ F μ S H R s hE g => f σ ρ F μ S H _ s hE (GP.seq g fun ds F1 μ1 H1 S1 e1 p1 s1 g1 vs rs => ?_)⟩
  split at g1
  · rename_i d d2
    split at g1
    · rename_i hl
      split at g1
      · rename_i src hsrc
        split at g1
        · rename_i src2 hsrc2
          obtain ⟨v, u, rfl, rv, ru⟩ := rs.inv2
          cases hk : isL d2 with
          | true =>
            rw [hk] at hl
            obtain ⟨a, rfl, ⟨ws, h1⟩, h2⟩ := stand_l s1 rv hsrc hl
            obtain ⟨b, rfl, ⟨zs, k1⟩, k2⟩ := stand_l s1 ru hsrc2 hk
            exact ⟨a, b, ws, zs, rfl, .inl ⟨h1, k1, GP.here g1 s1 _ (walks_z h2 k2)⟩⟩
          | false =>
            rw [hk] at hl
            obtain ⟨a, rfl, ⟨ws, h1⟩, h2⟩ := stand_t s1 rv hsrc hl
            obtain ⟨b, rfl, ⟨zs, k1⟩, k2⟩ := stand_t s1 ru hsrc2 hk
            exact ⟨a, b, ws, zs, rfl, .inr ⟨h1, k1, GP.here g1 s1 _ (walks_zT h2 k2)⟩⟩
        · exact g1.elim
      · exact g1.elim
    · exact g1.elim
  · exact g1.elim
end

/-! ### targets -/
abbrev TX := D → PF.Env → Store → Out PF.Env
abbrev TXs := List D → PF.Env → Store → Out PF.Env
def NoEr : XV → Hp → List Addr → Hp → Prop := fun _ _ _ _ => False
/-- σ' has other values at the slots js alone -/
def Agree (js : List Nat) (σ σ' : L2.St) : Prop := σ'.length = σ.length ∧ ∀ j, j ∉ js → σ'[j]? = σ[j]?
theorem Agree.refl {js : List Nat} {σ : L2.St} : Agree js σ σ := ⟨rfl, fun _ _ => rfl⟩
theorem Agree.trans {js : List Nat} {σ σ1 σ2 : L2.St} (a : Agree js σ σ1) (b : Agree js σ1 σ2) : Agree js σ σ2 := ⟨b.1.trans a.1, fun j h => (b.2 j h).trans (a.2 j h)⟩
theorem Agree.mono {js ks : List Nat} {σ σ1 : L2.St} (a : Agree js σ σ1) (h : ∀ j ∈ js, j ∈ ks) : Agree ks σ σ1 := ⟨a.1, fun j hj => a.2 j fun z => hj (h j z)⟩
def RG (T : List (Addr × Str)) (X : Cx) (js : List Nat) (tg : Expr) (c : TX) : Prop := ∃ g, PG X tg g ∧
  ∀ d v σ ρ F μ S H (Q : L2.St → Hp → Prop), SR X.K T F μ S H → EnvR X.K F μ ρ σ → Rep X.K F μ d v → GP X.K T F μ (c d ρ S) (fun ρ' F' μ' H' _ => ∀ σ', EnvR X.K F' μ' ρ' σ' → Agree js σ σ' → Q σ' H') NoEr → g v σ H Q
def RGs (T : List (Addr × Str)) (X : Cx) (js : List Nat) (tgs : List Expr) (c : TXs) : Prop := ∃ g, PGs X tgs g ∧
  ∀ ds vs σ ρ F μ S H (Q : L2.St → Hp → Prop), SR X.K T F μ S H → EnvR X.K F μ ρ σ → Reps X.K F μ ds vs → GP X.K T F μ (c ds ρ S) (fun ρ' F' μ' H' _ => ∀ σ', EnvR X.K F' μ' ρ' σ' → Agree js σ σ' → Q σ' H') NoEr → g vs σ H Q
section
variable {X : Cx} {T : List (Addr × Str)} {pos : Pos}
def tName (i : Nat) : TX := fun d ρ S => some (.ok (ρ.set i (some d)), S)
theorem rg_name {i : Nat} {x : Str} (hN : X.N.Nodup) (hi : X.N[i]? = some x := by rfl) (hx : Loc X.env.scope x := by first | exact Or.inl rfl | exact Or.inr rfl) (hf : X.fn x = true ∨ X.env.scope.names.lookup x = some .local := by first | exact .inl rfl | exact .inr rfl) : RG T X [i] (.Name x pos) (tName i) := by
  refine ⟨_, pg_name hN hi hx hf, fun d v σ ρ F μ S H Q s hE r g => ?_⟩
  refine GP.here g s _ (hE.set r) ⟨by simp, fun j hj => ?_⟩
  rw [List.getElem?_set_ne (by simp at hj; exact fun z => hj z.symm)]
def tsNil : TXs := fun ds ρ S => match ds with
  | [] => some (.ok ρ, S)
  | _ => none
def tsCons (t : TX) (r : TXs) : TXs := fun ds ρ S => match ds with
  | d :: ds => bindO (t d ρ S) fun ρ1 S => r ds ρ1 S
  | [] => none
theorem rgs_nil : RGs T X [] [] tsNil := by
  refine ⟨_, pgs_nil, fun ds vs σ ρ F μ S H Q s hE r g => ?_⟩
  cases r with
  | nil => exact ⟨rfl, GP.here g s _ hE Agree.refl⟩
  | cons _ _ => exact g.elim
theorem rgs_cons {js ks : List Nat} {e : Expr} {es : List Expr} {t : TX} {r : TXs} (h : RG T X js e t) (hr : RGs T X ks es r) (hs : (assignEach (e :: es) X.env).map (·.2) = assign e X.env :: (assignEach es X.env).map (·.2) := by rfl) : RGs T X (js ++ ks) (e :: es) (tsCons t r) := by
  obtain ⟨g1, p1, f1⟩ := h
  obtain ⟨g2, p2, f2⟩ := hr
  refine ⟨_, pgs_cons p1 p2 hs, fun ds vs σ ρ F μ S H Q s hE rs g => ?_⟩
  cases rs with
  | nil => exact g.elim
  | cons rd rs =>
    refine ⟨_, _, rfl, f1 _ _ σ ρ F μ S H _ s hE rd (GP.seq g fun ρ1 F1 μ1 H1 S1 e1 q1 s1 gg σ1 hE1 a1 => ?_)⟩
    refine f2 _ _ σ1 ρ1 F1 μ1 S1 H1 Q s1 hE1 (rs.mono e1 q1) (GP.imp gg fun ρ2 F2 μ2 H2 S2 e2 q2 s2 k σ2 hE2 a2 => ?_)
    exact k σ2 hE2 ((a1.mono fun j hj => List.mem_append_left _ hj).trans (a2.mono fun j hj => List.mem_append_right _ hj))
/-- (a, b, ..) = a tuple -/
def tTup (n : Nat) (c : TXs) : TX := fun d ρ S => match d with
  | .tup ds => if ds.length = n then c ds ρ S else none
  | _ => none
theorem rg_tup {js : List Nat} {es : List Expr} {k n : Nat} {c : TXs} (hc : X.calm = true) (h : RGs T X js es c) (hn : (assignEach es X.env).length = n := by rfl) (hst : (assignEach es X.env).findIdx? (·.1) = none := by rfl) : RG T X js (.Tuple es k pos) (tTup n c) := by
  obtain ⟨g1, p1, f1⟩ := h
  refine ⟨_, pg_tup hc p1 hn hst, fun d v σ ρ F μ S H Q s hE r g => ?_⟩
  cases r with
  | @tup a xs ds hq rs =>
    unfold tTup at g
    dsimp only at g
    split at g
    · rename_i hl
      exact ⟨a, xs, rfl, s.sqT hq, by rw [← rs.length]; exact hl, f1 ds xs σ ρ F μ S H Q s hE rs g⟩
    · exact g.elim
  | _ => exact g.elim
/-- no exception -/
def noX {α : Type} (r : Out α) : Out α := match r with
  | some (.error _, _) => none
  | r => r
theorem GP.noX {α : Type} {K : PySem.W.Frag} {F : Hp} {μ : List Addr} {r : Out α} {ok : α → Hp → List Addr → Hp → Store → Prop} {er er' : XV → Hp → List Addr → Hp → Prop} (h : GP K T F μ (noX r) ok er) : GP K T F μ r ok er' := by
  match r, h with
  | some (.ok a, S), h => exact h
/-- o[i] = .., a list of the store -/
def tSub (a b : EX) : TX := fun d ρ S => bindO (noX (a ρ S)) fun o S => bindO (noX (b ρ S)) fun i S => match o, i with
  | .loc n, .int k => (match S[n]? with
    | some ds => (match ixN ds.length k with
      | some j => if d.pure = true then some (.ok ρ, S.set n (ds.set j d)) else none
      | none => none)
    | none => none)
  | _, _ => none
theorem pures_set {ds : List D} {d : D} {j : Nat} (h : D.pures ds = true) (hd : d.pure = true) : D.pures (ds.set j d) = true := by
  rw [D.pures_iff] at h ⊢
  intro x hx
  rcases List.mem_or_eq_of_mem_set hx with hx | rfl
  · exact h x hx
  · exact hd
theorem rg_sub {o i : Expr} {a b : EX} (ho : RE T false X (fun _ _ _ _ => False) o a) (hi : RE T false X (fun _ _ _ _ => False) i b)
    (ha : ∀ v, assign (.Subscript o i pos) X.env v = (do
      let ov ← holding [v] (eval o X.env)
      let iv ← holding [v, ov] (eval i X.env)
      standAt pos
      holding [v, ov, iv] (setItem ov iv v)
      release [v, ov, iv] []) := by intro _; rfl) : RG T X [] (.Subscript o i pos) (tSub a b) := by
  obtain ⟨t1, p1, f1⟩ := ho
  obtain ⟨t2, p2, f2⟩ := hi
  refine ⟨_, pg_sub p1 p2 set_list ha, fun d v σ ρ F μ S H Q s hE r g => ?_⟩
  refine f1 σ ρ F μ S H _ s hE (GP.noX (GP.seq (er := NoEr) g fun x F1 μ1 H1 S1 e1 q1 s1 g1 w rw1 => ?_))
  refine f2 σ ρ F1 μ1 S1 H1 _ s1 (hE.mono e1 q1) (GP.noX (GP.seq (er := NoEr) g1 fun y F2 μ2 H2 S2 e2 q2 s2 g2 u ru => ?_))
  have rw1 := Rep.mono e2 q2 rw1
  cases rw1 with
  | @loc n A hm =>
    cases ru with
    | int k =>
      obtain ⟨ds, vs, h1, h2, h3, _, h5⟩ := s2.get hm
      dsimp only at g2
      rw [h1] at g2
      dsimp only at g2
      split at g2
      · rename_i j hj
        split at g2
        · rename_i hp
          refine ⟨A, vs, k, j, rfl, rfl, h2, by rw [← h3.length]; exact hj, ?_⟩
          have s3 := s2.put hm (h3.set j (Rep.mono e2 q2 (Rep.mono e1 q1 r))) (pures_set h5 hp)
          exact GP.here g2 s3 _ ((hE.mono e1 q1).mono e2 q2) Agree.refl
        · exact g2.elim
      · exact g2.elim
    | _ => exact g2.elim
  | _ => exact g2.elim
end
end PF
set_option Elab.async false
set_option linter.all false
set_option maxRecDepth 100000
set_option maxHeartbeats 4000000
/-! PF6: comprehensions, statements, a def. -/
namespace PF
open PySem L2 Evl PySem.Spec PyProof.Rows
/-! ### comprehensions -/
/-- k turns from the i-th on; the list that grows is the store's n-th -/
def compGo (src : Src) (n : Nat) (f : D → Store → Out (Option D)) : Nat → Nat → Store → Out Unit
  | 0, i, S => match srcAt src S with
    | some ds => if ds.length ≤ i then some (.ok (), S) else none
    | none => none
  | k + 1, i, S => match srcAt src S with
    | some ds => (match ds[i]? with
      | some d => bindO (noX (f d S)) fun o S1 => match o with
        | none => compGo src n f k (i + 1) S1
        | some y => (match S1[n]? with
          | some acc => if y.pure = true ∧ acc.length < lim then compGo src n f k (i + 1) (S1.set n (acc ++ [y])) else none
          | none => none)
      | none => none)
    | none => none
def cComp (src : IX) (js : List Nat) (tgt : TX) (test : BX) (elt : EX) : EX := fun ρ S => bindO (src ρ S) fun src S => match srcAt src S with
  | some ds => bindO (compGo src S.length (fun d S => bindO (tgt d (wipeE ρ js) S) fun ρ1 S => bindO (test ρ1 S) fun b S => match b with
      | true => bindO (elt ρ1 S) fun y S => some (.ok (some y), S)
      | false => some (.ok none, S)) ds.length 0 (S ++ [[]])) fun _ S' => (match S'[S.length]? with
    | some acc => some (.ok (.lst acc), S'.take S.length)
    | none => none)
  | none => none
def bYes : BX := fun _ S => some (.ok true, S)
def RTs (T : List (Addr × Str)) (X : Cx) (W : WX) (ifs : List Expr) (c : BX) : Prop := ∃ t, PTs X ifs t ∧
  ∀ σ ρ F μ S H (Q : Bool → Hp → Prop), SR X.K T F μ S H → EnvR X.K F μ ρ σ → GP X.K T F μ (c ρ S) (fun b _ _ H' _ => Q b H') (ErW X.K X.mg fun cls dd H' => W cls dd σ H') → t σ H Q
theorem rts_nil {T : List (Addr × Str)} {X : Cx} {W : WX} : RTs T X W [] bYes := ⟨_, pts_nil, fun σ ρ F μ S H Q s hE g => GP.here g s⟩
theorem rts_one {T : List (Addr × Str)} {X : Cx} {W : WX} {e : Expr} {c : BX} (h : RT T X W e c) : RTs T X W [e] c := let ⟨t, p, f⟩ := h; ⟨t, pts_one p, f⟩
theorem wipe_get {σ : L2.St} : ∀ {vs : List Nat} {j : Nat}, j ∉ vs → (wipe σ vs)[j]? = σ[j]?
  | [], _, _ => rfl
  | v :: vs, j, h => by
    simp only [List.mem_cons, not_or] at h
    unfold wipe
    rw [List.getElem?_set_ne (fun z => h.1 z.symm)]
    exact wipe_get h.2
theorem wipe_in {σ : L2.St} : ∀ {vs : List Nat} {j : Nat}, j ∈ vs → j < σ.length → (wipe σ vs)[j]? = some none
  | v :: vs, j, h, hl => by
    unfold wipe
    by_cases e : v = j
    · subst e
      rw [List.getElem?_set_self (by rw [wipe_length]; exact hl)]
    · rw [List.getElem?_set_ne e]
      rcases List.mem_cons.mp h with z | z
      · exact absurd z.symm e
      · exact wipe_in z hl
theorem wipe_agree {σ σ' : L2.St} {vs js : List Nat} (h : Agree js (wipe σ vs) σ') (hj : ∀ j ∈ js, j ∈ vs) : wipe σ' vs = wipe σ vs := by
  have hl : σ'.length = σ.length := by rw [h.1, wipe_length]
  apply List.ext_getElem?
  intro j
  by_cases hv : j ∈ vs
  · by_cases hlt : j < σ.length
    · rw [wipe_in hv (by omega), wipe_in hv hlt]
    · rw [List.getElem?_eq_none (by rw [wipe_length]; omega), List.getElem?_eq_none (by rw [wipe_length]; omega)]
  · rw [wipe_get hv, h.2 j (fun z => hv (hj j z)), wipe_get hv]
abbrev WF : WX := fun _ _ _ _ => False
theorem srcAt_app {src : Src} {S : Store} {L : List D} {ds : List D} : srcAt src S = some ds → srcAt src (S ++ [L]) = some ds := by
  induction src generalizing ds with
  | items es => exact id
  | cell n =>
    intro h
    simp only [srcAt] at h ⊢
    have := (List.getElem?_eq_some_iff.mp h).1
    rw [List.getElem?_append_left this]; exact h
  | enum s ih =>
    intro h
    simp only [srcAt, Option.map_eq_some_iff] at h ⊢
    obtain ⟨es, h, rfl⟩ := h
    exact ⟨es, ih h, rfl⟩
  | zip a b iha ihb =>
    intro h
    simp only [srcAt] at h ⊢
    split at h
    · rename_i xs ys h1 h2
      rw [iha h1, ihb h2]
      exact h
    · cases h
theorem GP.er {α : Type} {K : PySem.W.Frag} {T : List (Addr × Str)} {F : Hp} {μ : List Addr} {r : Out α} {ok : α → Hp → List Addr → Hp → Store → Prop} {er : XV → Hp → List Addr → Hp → Prop} (h : GP K T F μ r ok NoEr) : GP K T F μ r ok er := by
  match r, h with
  | some (.ok a, S), h => exact h
  | some (.error x, S), h => exact fun F' μ' H' e p s => (h F' μ' H' e p s).elim
/-! the readings that data give, whatever the context -/
def tE (T : List (Addr × Str)) (fr : Bool) (K : PySem.W.Frag) (mg : Str → Option Value) (W : WX) (c : EX) : TE := fun σ H Q => ∃ ρ F μ S, SR K T F μ S H ∧ EnvR K F μ ρ σ ∧ GP K T F μ (c ρ S) (OkV K fr Q) (ErW K mg fun cls dd H' => W cls dd σ H')
def tTs (T : List (Addr × Str)) (K : PySem.W.Frag) (mg : Str → Option Value) (W : WX) (c : BX) : TT := fun σ H Q => ∃ ρ F μ S, SR K T F μ S H ∧ EnvR K F μ ρ σ ∧ GP K T F μ (c ρ S) (fun b _ _ H' _ => Q b H') (ErW K mg fun cls dd H' => W cls dd σ H')
def gE (T : List (Addr × Str)) (K : PySem.W.Frag) (js : List Nat) (c : TX) : TG := fun v σ H Q => ∃ d ρ F μ S, SR K T F μ S H ∧ EnvR K F μ ρ σ ∧ Rep K F μ d v ∧ GP K T F μ (c d ρ S) (fun ρ' F' μ' H' _ => ∀ σ', EnvR K F' μ' ρ' σ' → Agree js σ σ' → Q σ' H') NoEr
theorem RE.pe {T : List (Addr × Str)} {fr : Bool} {X : Cx} {W : WX} {e : Expr} {c : EX} (h : RE T fr X W e c) : PE X e (tE T fr X.K X.mg W c) := by
  obtain ⟨t, p, f⟩ := h
  exact ⟨fun pins s σ H Q I ⟨ρ, F, μ, S, a, b, g⟩ => p.run pins s σ H Q I (f σ ρ F μ S H Q a b g)⟩
theorem RTs.pts {T : List (Addr × Str)} {X : Cx} {W : WX} {e : List Expr} {c : BX} (h : RTs T X W e c) : PTs X e (tTs T X.K X.mg W c) := by
  obtain ⟨t, p, f⟩ := h
  exact ⟨fun pins s σ H Q I ⟨ρ, F, μ, S, a, b, g⟩ => p.run pins s σ H Q I (f σ ρ F μ S H Q a b g)⟩
theorem RG.pg {T : List (Addr × Str)} {X : Cx} {js : List Nat} {e : Expr} {c : TX} (h : RG T X js e c) : PG X e (gE T X.K js c) := by
  obtain ⟨t, p, f⟩ := h
  exact ⟨fun pins s σ H v u Q I r ⟨d, ρ, F, μ, S, a, b, rd, g⟩ => p.run pins s σ H v u Q I r (f d v σ ρ F μ S H Q a b rd g)⟩
section
variable {X : Cx} {T : List (Addr × Str)} {W : WX} {js : List Nat} {elt tg iter : Expr} {ifs : List Expr} {scope : Scope} {own : List (Str × Nat)} {pos : Pos} {ci : IX} {ct : TX} {cb : BX} {ce : EX}
/-- what a comprehension's reading asks -/
theorem comp_read {wi : TI} {g : TG} {tt : TT} {te : TE} {X' : Cx} (hjs : ∀ j ∈ js, j ∈ own.map (·.2)) (hK : X'.K = X.K)
    (fi : ∀ σ ρ F μ S H (R : It → Hp → Prop), SR X.K T F μ S H → EnvR X.K F μ ρ σ → GP X.K T F μ (ci ρ S) (fun src F' μ' H' _ => ∀ J, Walks X.K T F' μ' src J → R J H') (ErW X.K X.mg fun cls dd H' => W cls dd σ H') → wi σ H R)
    (fg : ∀ d v σ ρ F μ S H (Q : L2.St → Hp → Prop), SR X.K T F μ S H → EnvR X.K F μ ρ σ → Rep X.K F μ d v → GP X.K T F μ (ct d ρ S) (fun ρ' F' μ' H' _ => ∀ σ', EnvR X.K F' μ' ρ' σ' → Agree js σ σ' → Q σ' H') NoEr → g v σ H Q)
    (ft : ∀ σ ρ F μ S H (Q : Bool → Hp → Prop), SR X.K T F μ S H → EnvR X.K F μ ρ σ → GP X.K T F μ (cb ρ S) (fun b _ _ H' _ => Q b H') (ErW X.K X.mg fun cls dd H' => WF cls dd σ H') → tt σ H Q)
    (fe : ∀ σ ρ F μ S H Q, SR X.K T F μ S H → EnvR X.K F μ ρ σ → GP X.K T F μ (ce ρ S) (OkV X.K false Q) (ErW X.K X.mg fun cls dd H' => WF cls dd σ H') → te σ H Q)
    {σ ρ F μ S H Q} (s : SR X.K T F μ S H) (hE : EnvR X.K F μ ρ σ) (gg : GP X.K T F μ (cComp ci (own.map (·.2)) ct cb ce ρ S) (OkV X.K true Q) (ErW X.K X.mg fun cls dd H' => W cls dd σ H')) :
    tLc wi g tt te (own.map (·.2)) σ H Q := by
  refine fi σ ρ F μ S H _ s hE (GP.seq gg fun src F1 μ1 H1 S1 e1 p1 s1 g1 J hJ => ?_)
  have hE1 := hE.mono e1 p1
  split at g1
  case h_2 => exact g1.elim
  rename_i ds hds
  intro Dl hD
  have hF := fresh_back s1.ex hD
  have s2 : SR X.K T F1 (μ1 ++ [Dl]) (S1 ++ [[]]) (upd H1 Dl (.lst [])) := (s1.lay hD).alloc hF (s1.notin hD) upd_same .nil rfl
  have hn : (μ1 ++ [Dl])[S1.length]? = some Dl := by rw [← s1.len, List.getElem?_append_right (Nat.le_refl _)]; simp
  generalize hf : (fun d S => bindO (ct d (wipeE ρ (own.map (·.2))) S) fun ρ1 S => bindO (cb ρ1 S) fun b S => match b with
      | true => bindO (ce ρ1 S) fun y S => some (.ok (some y), S)
      | false => some (.ok none, S) : D → Store → Out (Option D)) = f at g1
  generalize hk : (fun _ S' => match S'[S1.length]? with
    | some acc => some (.ok (.lst acc), S'.take S1.length)
    | none => none : Unit → Store → Out D) = k at g1
  generalize hr : bindO (compGo src S1.length f ds.length 0 (S1 ++ [[]])) k = r at g1
  refine ⟨fun i m H' => ∃ F' μ' S', Ex F1 F' ∧ (μ1 ++ [Dl]) <+: μ' ∧ SR X.K T F' μ' S' H' ∧ bindO (compGo src S1.length f m i S') k = r,
    ⟨ds.length, F1, μ1 ++ [Dl], _, Ex.refl _, List.prefix_refl _, s2, hr⟩, ?_⟩
  rintro i m H2 ⟨F2, μ2, S2, e2, p2, s3, k2⟩
  have hDl2 := pre_get p2 hn
  have p12 : μ1 <+: μ2 := (List.prefix_append _ _).trans p2
  cases m with
  | zero =>
    left
    unfold compGo at k2
    split at k2
    case h_2 => rw [← k2] at g1; exact g1.elim
    rename_i es hes
    split at k2
    case isFalse => rw [← k2] at g1; exact g1.elim
    rename_i hl
    refine ⟨(hJ F2 μ2 S2 H2 es i e2 p12 s3 hes).2 hl, ?_⟩
    obtain ⟨acc, vs, a1, a2, a3, a4, a5⟩ := s3.get hDl2
    rw [bindO_ok, ← hk] at k2
    dsimp only at k2
    rw [a1] at k2
    dsimp only at k2
    rw [← k2] at g1
    have s4 := s3.cut S1.length
    have hcut : μ2.take S1.length = μ1 := by
      obtain ⟨t, rfl⟩ := p12
      rw [← s1.len]; simp
    rw [hcut] at s4
    exact g1 F2 μ1 H2 e2 (List.prefix_refl _) s4 _ ⟨acc, Dl, vs, rfl, rfl, a4, s1.notin hD, a2, a3.free a5⟩
  | succ m =>
    right
    unfold compGo at k2
    split at k2
    case h_2 => rw [← k2] at g1; exact g1.elim
    rename_i es hes
    split at k2
    case h_2 => rw [← k2] at g1; exact g1.elim
    rename_i d hd
    obtain ⟨hgo, hy⟩ := (hJ F2 μ2 S2 H2 es i e2 p12 s3 hes).1 d hd
    cases hfd : noX (f d S2) with
    | none => rw [hfd] at k2; rw [← k2] at g1; exact g1.elim
    | some q =>
      obtain ⟨q, S3⟩ := q
      cases q with
      | error x =>
        exfalso
        unfold noX at hfd
        split at hfd
        · cases hfd
        · rename_i hne
          exact hne _ _ hfd
      | ok o =>
        rw [hfd, bindO_ok] at k2
        have known : GP X.K T F2 μ2 (f d S2) (fun o' F' μ' H' S' => o' = o ∧ S' = S3 ∧ Ex F2 F' ∧ μ2 <+: μ' ∧ SR X.K T F' μ' S' H') NoEr := by
          apply GP.noX (er := NoEr)
          rw [hfd]
          exact fun F' μ' H' e p s' => ⟨rfl, rfl, e, p, s'⟩
        rw [← hf] at known
        refine ⟨hgo, fun H' => ∃ F' μ' S', Ex F1 F' ∧ (μ1 ++ [Dl]) <+: μ' ∧ SR X.K T F' μ' S' H' ∧ bindO (compGo src S1.length f m (i + 1) S') k = r, fun H' h => ⟨m, Nat.lt_succ_self _, h⟩, fun x H3 yl => ?_⟩
        obtain ⟨F3, e3, s5, rx⟩ := hy x H3 yl
        have hE3 : EnvR X.K F3 μ2 (wipeE ρ (own.map (·.2))) (wipe σ (own.map (·.2))) := (hE1.wipe _).mono (e2.trans e3) p12
        have known3 := GP.mono known e3 (List.prefix_refl _)
        dsimp only at known3
        refine fg d x _ _ F3 μ2 S2 H3 _ s5 hE3 rx (GP.seq known3 fun ρ1 F4 μ4 H4 S4 e4 p4 s4 k4 σ4 hE4 a4 => ?_)
        refine ⟨wipe_agree a4 hjs, ?_⟩
        refine ft σ4 ρ1 F4 μ4 S4 H4 _ s4 hE4 (GP.seq (GP.er k4) fun b F5 μ5 H5 S5 e5 p5 s5' k5 => ?_)
        cases b with
        | false =>
          rw [if_neg Bool.false_ne_true]
          obtain ⟨h1, h2, h3, h4, h5⟩ := GP.here k5 s5'
          subst h1; subst h2
          exact ⟨F5, μ5, S5, e2.trans h3, p2.trans h4, h5, k2⟩
        | true =>
          rw [if_pos rfl]
          refine fe σ4 ρ1 F5 μ5 S5 H5 _ s5' (hE4.mono e5 p5) (GP.seq k5 fun y F6 μ6 H6 S6 e6 p6 s6 k6 v rv => ?_)
          obtain ⟨h1, h2, h3, h4, h5⟩ := GP.here k6 s6
          subst h1; subst h2
          have hDl6 := pre_get h4 hDl2
          obtain ⟨acc, vs, a1, a2, a3, a4', a5⟩ := s6.get hDl6
          dsimp only at k2
          rw [a1] at k2
          dsimp only at k2
          split at k2
          case isFalse => rw [← k2] at g1; exact g1.elim
          rename_i hc
          refine ⟨vs, a2, by rw [← a3.length]; exact Nat.lt_of_lt_of_le hc.2 (by decide), F6, μ6, _, e2.trans h3, p2.trans h4, s6.put hDl6 (a3.append (Reps.one rv)) (by
            rw [D.pures_append, a5, Bool.true_and]
            simp [D.pures, hc.1]), k2⟩
/-- [elt for tg in iter if ..] -/
theorem re_comp {os : List Nat} (hc : X.calm = true) (hN : X.N.Nodup) (ok : BlkOk X.N X.env.scope scope own) (hos : own.map (·.2) = os) (hjs : ∀ j ∈ js, j ∈ os) (hi : RI T X W tg iter ci)
    (hg : ∀ (s : Shared) (H : Hp) (C : Addr) (cl : List (Str × Addr)) (fp : List Addr), RG T (X.blk s H scope (compEnvC scope cl C X.env) fp) js tg ct) (ht : ∀ (s : Shared) (H : Hp) (C : Addr) (cl : List (Str × Addr)) (fp : List Addr), RTs T (X.blk s H scope (compEnvC scope cl C X.env) fp) WF ifs cb)
    (he : ∀ (s : Shared) (H : Hp) (C : Addr) (cl : List (Str × Addr)) (fp : List Addr), RE T false (X.blk s H scope (compEnvC scope cl C X.env) fp) WF elt ce) (hs : ∀ x, foldedSetIterable iter X.env x = pure x := by intro _; rfl) :
    RE T true X W (.ListComp elt [⟨tg, iter, ifs, 0⟩] scope pos) (cComp ci os ct cb ce) := by
  subst hos
  obtain ⟨wi, pi, fi⟩ := hi
  refine ⟨_, pe_lc (g := gE T X.K js ct) (tt := tTs T X.K X.mg WF cb) (te := tE T false X.K X.mg WF ce) hc hN pi ok (fun s H C cl fp => (hg s H C cl fp).pg) (fun s H C cl fp => (ht s H C cl fp).pts) (fun s H C cl fp => (he s H C cl fp).pe) hs, fun σ ρ F μ S H Q s hE g => ?_⟩
  exact comp_read (X' := X) hjs rfl fi (fun d v σ ρ F μ S H Q a b c g => ⟨d, ρ, F, μ, S, a, b, c, g⟩) (fun σ ρ F μ S H Q a b g => ⟨ρ, F, μ, S, a, b, g⟩) (fun σ ρ F μ S H Q a b g => ⟨ρ, F, μ, S, a, b, g⟩) s hE g
end

/-! ### statements -/
inductive Fl where
  | nx (ρ : PF.Env) | brk (ρ : PF.Env) | ct (ρ : PF.Env) | ret (d : D) | exc (x : XV) (ρ : PF.Env)
abbrev SX := PF.Env → Store → Out Fl
def RetR (K : PySem.W.Frag) (fr : Bool) (F : Hp) (μ : List Addr) (H : Hp) (d : D) (v : V) : Prop := match fr with
  | false => Rep K F μ d v
  | true => Fresh K F μ H d v ∨ ∃ n, d = .loc n ∧ Rep K F μ (.loc n) v
def OkF (K : PySem.W.Frag) (mg : Str → Option Value) (fr : Bool) (D : Ends) (W : WX) : Fl → Hp → List Addr → Hp → Store → Prop := fun fl F μ H _ => match fl with
  | .nx ρ => ∀ σ, EnvR K F μ ρ σ → D.nx σ H
  | .brk ρ => ∀ σ, EnvR K F μ ρ σ → D.bk σ H
  | .ct ρ => ∀ σ, EnvR K F μ ρ σ → D.ct σ H
  | .ret d => ∀ v, RetR K fr F μ H d v → D.rt v H
  | .exc x ρ => ∀ σ cls dd, EnvR K F μ ρ σ → XRep K mg F μ x cls dd → W cls dd σ H
def RS (T : List (Addr × Str)) (fr : Bool) (X : Cx) (W : WX) (st : Stmt) (c : SX) : Prop := ∃ t, PS X st t ∧
  ∀ σ ρ F μ S H D, SR X.K T F μ S H → EnvR X.K F μ ρ σ → GP X.K T F μ (c ρ S) (OkF X.K X.mg fr D W) NoEr → t D σ H
def RSs (T : List (Addr × Str)) (fr : Bool) (X : Cx) (W : WX) (st : List Stmt) (c : SX) : Prop := ∃ t, PSs X st t ∧
  ∀ σ ρ F μ S H D, SR X.K T F μ S H → EnvR X.K F μ ρ σ → GP X.K T F μ (c ρ S) (OkF X.K X.mg fr D W) NoEr → t D σ H
/-- an expression's outcome in a statement -/
def stm {α : Type} (ρ : PF.Env) (r : Out α) (k : α → Store → Out Fl) : Out Fl := match r with
  | none => none
  | some (.ok a, S) => k a S
  | some (.error x, S) => some (.ok (.exc x ρ), S)
@[simp] theorem stm_ok {α : Type} (ρ : PF.Env) (a : α) (S : Store) (k : α → Store → Out Fl) : stm ρ (some (.ok a, S)) k = k a S := rfl
@[simp] theorem stm_err {α : Type} (ρ : PF.Env) (x : XV) (S : Store) (k : α → Store → Out Fl) : stm ρ (some (.error x, S)) k = some (.ok (.exc x ρ), S) := rfl
@[simp] theorem stm_none {α : Type} (ρ : PF.Env) (k : α → Store → Out Fl) : stm ρ none k = none := rfl
section
variable {X : Cx} {T : List (Addr × Str)} {W : WX} {fr : Bool}
theorem GP.stm {α : Type} {r : Out α} {k : α → Store → Out Fl} {σ : L2.St} {ρ : PF.Env} {F : Hp} {μ : List Addr} {D : Ends} {ok2 : α → Hp → List Addr → Hp → Store → Prop} (h : GP X.K T F μ (PF.stm ρ r k) (OkF X.K X.mg fr D W) NoEr) (hE : EnvR X.K F μ ρ σ)
    (f : ∀ a F' μ' H' S', Ex F F' → μ <+: μ' → SR X.K T F' μ' S' H' → GP X.K T F' μ' (k a S') (OkF X.K X.mg fr D W) NoEr → ok2 a F' μ' H' S') : GP X.K T F μ r ok2 (ErW X.K X.mg fun cls dd H' => W cls dd σ H') := by
  match r, h with
  | some (.ok a, S), h => exact fun F' μ' H' e p s => f a F' μ' H' S e p s (GP.mono h e p)
  | some (.error x, S), h => exact fun F' μ' H' e p s cls dd hx => h F' μ' H' e p s σ cls dd (hE.mono e p) hx
def sNil : SX := fun ρ S => some (.ok (.nx ρ), S)
def sSeq (a b : SX) : SX := fun ρ S => bindO (a ρ S) fun fl S => match fl with
  | .nx ρ' => b ρ' S
  | fl => some (.ok fl, S)
theorem rss_nil : RSs T fr X W [] sNil := ⟨_, pss_nil, fun σ ρ F μ S H D s hE g => GP.here g s σ hE⟩
theorem rss_one {st : Stmt} {c : SX} (h : RS T fr X W st c) : RSs T fr X W [st] c := let ⟨t, p, f⟩ := h; ⟨t, pss_one p, f⟩
theorem rss_cons {st : Stmt} {rest : List Stmt} {a b : SX} (h : RS T fr X W st a) (hr : RSs T fr X W rest b) : RSs T fr X W (st :: rest) (sSeq a b) := by
  obtain ⟨t1, p1, f1⟩ := h
  obtain ⟨t2, p2, f2⟩ := hr
  refine ⟨_, pss_cons p1 p2, fun σ ρ F μ S H D s hE g => ?_⟩
  refine f1 σ ρ F μ S H _ s hE (GP.seq g fun fl F1 μ1 H1 S1 e1 q1 s1 g1 => ?_)
  cases fl with
  | nx ρ' => exact fun σ' hE' => f2 σ' ρ' F1 μ1 S1 H1 D s1 hE' g1
  | brk ρ' => exact GP.here (er := NoEr) g1 s1
  | ct ρ' => exact GP.here (er := NoEr) g1 s1
  | ret d => exact GP.here (er := NoEr) g1 s1
  | exc x ρ' => exact GP.here (er := NoEr) g1 s1
theorem rs_pass {pos : Pos} : RS T fr X W (.Pass pos) sNil := ⟨_, ps_pass, fun σ ρ F μ S H D s hE g => GP.here g s σ hE⟩
def sBrk : SX := fun ρ S => some (.ok (.brk ρ), S)
def sCt : SX := fun ρ S => some (.ok (.ct ρ), S)
theorem rs_break {pos : Pos} : RS T fr X W (.Break pos) sBrk := ⟨_, ps_break, fun σ ρ F μ S H D s hE g => GP.here g s σ hE⟩
theorem rs_continue {pos : Pos} : RS T fr X W (.Continue pos) sCt := ⟨_, ps_continue, fun σ ρ F μ S H D s hE g => GP.here g s σ hE⟩
def sRet (c : EX) : SX := fun ρ S => stm ρ (c ρ S) fun d S => some (.ok (.ret d), S)
theorem rs_ret {e : Expr} {c : EX} {pos : Pos} (h : RE T fr X W e c) : RS T fr X W (.Return (some e) pos) (sRet c) := by
  obtain ⟨t, p, f⟩ := h
  refine ⟨_, ps_ret p, fun σ ρ F μ S H D s hE g => f σ ρ F μ S H _ s hE (GP.stm g hE fun d F1 μ1 H1 S1 e1 q1 s1 g1 v r => ?_)⟩
  refine GP.here g1 s1 v ?_
  cases fr with
  | false => exact r
  | true => exact .inl r
/-- a list of the store is handed back: its content goes -/
def sRetL (c : EX) : SX := fun ρ S => stm ρ (c ρ S) fun d S => match d with
  | .loc n => some (.ok (.ret (.loc n)), S)
  | _ => none
theorem rs_retL {e : Expr} {c : EX} {pos : Pos} (h : RE T false X W e c) : RS T true X W (.Return (some e) pos) (sRetL c) := by
  obtain ⟨t, p, f⟩ := h
  refine ⟨_, ps_ret p, fun σ ρ F μ S H D s hE g => f σ ρ F μ S H _ s hE (GP.stm g hE fun d F1 μ1 H1 S1 e1 q1 s1 g1 v r => ?_)⟩
  cases d with
  | loc n => exact GP.here g1 s1 v (.inr ⟨n, rfl, r⟩)
  | _ => exact g1.elim
theorem rs_retN {pos : Pos} : RS T false X W (.Return none pos) (sRet (cK .non)) := ⟨_, ps_retN, fun σ ρ F μ S H D s hE g => GP.here g s .non .non⟩
def sIf (c : BX) (a b : SX) : SX := fun ρ S => stm ρ (c ρ S) fun x S => match x with
  | true => a ρ S
  | false => b ρ S
theorem rs_if {e : Expr} {as bs : List Stmt} {c : BX} {a b : SX} {pos : Pos} (h : RT T X W e c) (ha : RSs T fr X W as a) (hb : RSs T fr X W bs b) : RS T fr X W (.If e as bs pos) (sIf c a b) := by
  obtain ⟨t, p, f⟩ := h
  obtain ⟨t1, p1, f1⟩ := ha
  obtain ⟨t2, p2, f2⟩ := hb
  refine ⟨_, ps_if p p1 p2, fun σ ρ F μ S H D s hE g => f σ ρ F μ S H _ s hE (GP.stm g hE fun x F1 μ1 H1 S1 e1 q1 s1 g1 => ?_)⟩
  cases x with
  | true => rw [if_pos rfl]; exact f1 σ ρ F1 μ1 S1 H1 D s1 (hE.mono e1 q1) g1
  | false => rw [if_neg Bool.false_ne_true]; exact f2 σ ρ F1 μ1 S1 H1 D s1 (hE.mono e1 q1) g1
def sExpr (c : EX) : SX := fun ρ S => stm ρ (c ρ S) fun _ S => some (.ok (.nx ρ), S)
theorem rs_expr {e : Expr} {c : EX} {pos : Pos} (h : RE T false X W e c) (hs : swapsWith e none pos.line X.env = pure false := by rfl) : RS T fr X W (.Expr e pos) (sExpr c) := by
  obtain ⟨t, p, f⟩ := h
  exact ⟨_, ps_expr p hs, fun σ ρ F μ S H D s hE g => f σ ρ F μ S H _ s hE (GP.stm g hE fun d F1 μ1 H1 S1 e1 q1 s1 g1 v r => GP.here g1 s1 σ (hE.mono e1 q1))⟩
/-- x = e -/
def sSet (i : Nat) (c : EX) : SX := fun ρ S => stm ρ (c ρ S) fun d S => some (.ok (.nx (ρ.set i (some d))), S)
theorem rs_set {i : Nat} {x : Str} {e : Expr} {c : EX} {pos pos' : Pos} (hN : X.N.Nodup) (h : RE T false X W e c) (hi : X.N[i]? = some x := by rfl) (hx : Loc X.env.scope x := by first | exact Or.inl rfl | exact Or.inr rfl) (hs : swapsWith e (some (.Name x pos')) pos.line X.env = pure false := by rfl)
    (hf : X.fn x = true ∨ X.env.scope.names.lookup x = some .local := by first | exact .inl rfl | exact .inr rfl) : RS T fr X W (.Assign [.Name x pos'] e pos) (sSet i c) := by
  obtain ⟨t, p, f⟩ := h
  exact ⟨_, ps_set hN hi hx p hs hf, fun σ ρ F μ S H D s hE g => f σ ρ F μ S H _ s hE (GP.stm g hE fun d F1 μ1 H1 S1 e1 q1 s1 g1 v r => GP.here g1 s1 _ ((hE.mono e1 q1).set r))⟩
/-- x = [..], a comprehension on one line -/
theorem rs_setLc {os : List Nat} {i : Nat} {y : Str} {elt tg iter : Expr} {ifs : List Expr} {scope : Scope} {own : List (Str × Nat)} {js : List Nat} {pos spos py : Pos} {ci : IX} {ct : TX} {cb : BX} {ce : EX} (hc : X.calm = true) (hN : X.N.Nodup)
    (ok : BlkOk X.N X.env.scope scope own) (hos : own.map (·.2) = os) (hjs : ∀ j ∈ js, j ∈ os) (hi : RI T X W tg iter ci)
    (hg : ∀ (s : Shared) (H : Hp) (C : Addr) (cl : List (Str × Addr)) (fp : List Addr), RG T (X.blk s H scope (compEnvC scope cl C X.env) fp) js tg ct) (ht : ∀ (s : Shared) (H : Hp) (C : Addr) (cl : List (Str × Addr)) (fp : List Addr), RTs T (X.blk s H scope (compEnvC scope cl C X.env) fp) WF ifs cb)
    (he : ∀ (s : Shared) (H : Hp) (C : Addr) (cl : List (Str × Addr)) (fp : List Addr), RE T false (X.blk s H scope (compEnvC scope cl C X.env) fp) WF elt ce) (c2 : EX) (hc2 : ∀ (t : TE), (∀ σ ρ F μ S H Q, SR X.K T F μ S H → EnvR X.K F μ ρ σ → GP X.K T F μ (cComp ci os ct cb ce ρ S) (OkV X.K true Q) (ErW X.K X.mg fun cls dd H' => W cls dd σ H') → t σ H Q) →
      ∀ σ ρ F μ S H Q, SR X.K T F μ S H → EnvR X.K F μ ρ σ → GP X.K T F μ (c2 ρ S) (OkV X.K false Q) (ErW X.K X.mg fun cls dd H' => W cls dd σ H') → t σ H Q)
    (hsw : swapsWith (.ListComp elt [⟨tg, iter, ifs, 0⟩] scope pos) (some (.Name y py)) spos.line X.env = pure true) (hy : X.N[i]? = some y := by rfl) (hyl : X.env.scope.names.lookup y = some .local := by rfl) (hs : ∀ x, foldedSetIterable iter X.env x = pure x := by intro _; rfl) :
    RS T fr X W (.Assign [.Name y py] (.ListComp elt [⟨tg, iter, ifs, 0⟩] scope pos) spos) (sSet i c2) := by
  subst hos
  obtain ⟨wi, pi, fi⟩ := hi
  refine ⟨_, ps_setLc (g := gE T X.K js ct) (tt := tTs T X.K X.mg WF cb) (te := tE T false X.K X.mg WF ce) hc hN hy hyl hsw pi ok (fun s H C cl fp => (hg s H C cl fp).pg) (fun s H C cl fp => (ht s H C cl fp).pts) (fun s H C cl fp => (he s H C cl fp).pe) hs, fun σ ρ F μ S H D s hE g => ?_⟩
  refine hc2 _ (fun σ ρ F μ S H Q s hE g => comp_read (X' := X) hjs rfl fi (fun d v σ ρ F μ S H Q a b c g => ⟨d, ρ, F, μ, S, a, b, c, g⟩) (fun σ ρ F μ S H Q a b g => ⟨ρ, F, μ, S, a, b, g⟩) (fun σ ρ F μ S H Q a b g => ⟨ρ, F, μ, S, a, b, g⟩) s hE g) σ ρ F μ S H _ s hE ?_
  exact GP.stm g hE fun d F1 μ1 H1 S1 e1 q1 s1 g1 v r => GP.here g1 s1 _ ((hE.mono e1 q1).set r)
/-- how the new list is held: as a value, or in the store -/
theorem hold_val {c : EX} : ∀ (t : TE), (∀ σ ρ F μ S H Q, SR X.K T F μ S H → EnvR X.K F μ ρ σ → GP X.K T F μ (c ρ S) (OkV X.K true Q) (ErW X.K X.mg fun cls dd H' => W cls dd σ H') → t σ H Q) →
      ∀ σ ρ F μ S H Q, SR X.K T F μ S H → EnvR X.K F μ ρ σ → GP X.K T F μ (c ρ S) (OkV X.K false Q) (ErW X.K X.mg fun cls dd H' => W cls dd σ H') → t σ H Q :=
  fun t f σ ρ F μ S H Q s hE g => f σ ρ F μ S H Q s hE (gp_freeze g)
theorem hold_loc {c : EX} : ∀ (t : TE), (∀ σ ρ F μ S H Q, SR X.K T F μ S H → EnvR X.K F μ ρ σ → GP X.K T F μ (c ρ S) (OkV X.K true Q) (ErW X.K X.mg fun cls dd H' => W cls dd σ H') → t σ H Q) →
      ∀ σ ρ F μ S H Q, SR X.K T F μ S H → EnvR X.K F μ ρ σ → GP X.K T F μ (cAlloc c ρ S) (OkV X.K false Q) (ErW X.K X.mg fun cls dd H' => W cls dd σ H') → t σ H Q := by
  refine fun t f σ ρ F μ S H Q s hE g => f σ ρ F μ S H Q s hE (GP.seq g fun d F' μ' H' S' e p s' q v hf => ?_)
  obtain ⟨ds, a, vs, rfl, rfl, hF, hm, hH, r⟩ := hf
  dsimp only at q
  split at q
  · rename_i hp
    exact q F' (μ' ++ [a]) H' (Ex.refl _) (List.prefix_append _ _) (s'.alloc hF hm hH r hp) _ (.loc (by rw [← s'.len, List.getElem?_append_right (Nat.le_refl _)]; simp))
  · exact q.elim
/-- a, b = x, y -/
def sPar (i j : Nat) (r : AX) : SX := fun ρ S => stm ρ (r ρ S) fun ds S => match ds with
  | [x, y] => some (.ok (.nx ((ρ.set i (some x)).set j (some y))), S)
  | _ => none
theorem rs_par {i j : Nat} {x y : Str} {a b : Expr} {c : AX} {px py pt : Pos} {kt k2 pt2} {pos : Pos} (hc : X.calm = true) (hN : X.N.Nodup) (ha : RA T X W [a, b] c) (hi : X.N[i]? = some x := by rfl) (hj : X.N[j]? = some y := by rfl) (hij : i ≠ j := by decide)
    (hx : X.env.scope.names.lookup x = some .local := by rfl) (hy : X.env.scope.names.lookup y = some .local := by rfl)
    (hw : swappedStores [.Tuple [.Name x px, .Name y py] kt pt] (.Tuple [a, b] k2 pt2) X.env = pure (some [x, y]) := by rfl)
    (hs : swapsWithSole [.Tuple [.Name x px, .Name y py] kt pt] (.Tuple [a, b] k2 pt2) pos.line X.env = pure false := by rfl) :
    RS T fr X W (.Assign [.Tuple [.Name x px, .Name y py] kt pt] (.Tuple [a, b] k2 pt2) pos) (sPar i j c) := by
  obtain ⟨t, p, f⟩ := ha
  refine ⟨_, ps_par hc hN hi hj hij hx hy p hw hs, fun σ ρ F μ S H D s hE g => f σ ρ F μ S H _ s hE (GP.stm g hE fun ds F1 μ1 H1 S1 e1 q1 s1 g1 vs r => ?_)⟩
  split at g1
  · obtain ⟨v, u, rfl, r1, r2⟩ := r.inv2
    exact ⟨v, u, rfl, GP.here g1 s1 _ (((hE.mono e1 q1).set r1).set r2)⟩
  · exact g1.elim
/-- target = e -/
def sAsg (t : TX) (c : EX) : SX := fun ρ S => stm ρ (c ρ S) fun d S => bindO (noX (t d ρ S)) fun ρ' S => some (.ok (.nx ρ'), S)
theorem rs_asg {js : List Nat} {tg e : Expr} {c : EX} {ct : TX} {pos : Pos} (h : RE T false X W e c) (hg : RG T X js tg ct) (hs : swapsWithSole [tg] e pos.line X.env = pure false := by rfl) (hw : swappedStores [tg] e X.env = pure none := by rfl)
    (h1 : (assignEach [tg] X.env).map (·.2) = [assign tg X.env] := by rfl) : RS T fr X W (.Assign [tg] e pos) (sAsg ct c) := by
  obtain ⟨t, p, f⟩ := h
  obtain ⟨g1, p1, f1⟩ := hg
  refine ⟨_, ps_asg p p1 hs hw h1, fun σ ρ F μ S H D s hE g => f σ ρ F μ S H _ s hE (GP.stm g hE fun d F1 μ1 H1 S1 e1 q1 s1 g1 v r => ?_)⟩
  exact f1 d v σ ρ F1 μ1 S1 H1 _ s1 (hE.mono e1 q1) r (GP.noX (GP.seq g1 fun ρ' F2 μ2 H2 S2 e2 q2 s2 g2 σ' hE' _ => GP.here g2 s2 σ' hE'))
/-- x op= e -/
def sAug (i : Nat) (o : Op2) (c : EX) : SX := fun ρ S => match ρ[i]? with
  | some (some x) => stm ρ (c ρ S) fun y S => bindO (o x y S) fun z S => some (.ok (.nx (ρ.set i (some z))), S)
  | _ => none
theorem rs_aug {i : Nat} {x : Str} {e : Expr} {c : EX} {op : Operator} {r : R2} {o : Op2} {pos pos' : Pos} (hN : X.N.Nodup) (h : RE T false X W e c) (hr : OpR X (inplaceOp op) r) (ho : OpOk X T false r o) (hne : ∀ x y S z S', o x y S ≠ some (.error z, S')) (hi : X.N[i]? = some x := by rfl) (hx : Loc X.env.scope x := by first | exact Or.inl rfl | exact Or.inr rfl)
    (hf : X.fn x = true ∨ X.env.scope.names.lookup x = some .local := by first | exact .inl rfl | exact .inr rfl) : RS T fr X W (.AugAssign (.Name x pos') op e pos) (sAug i o c) := by
  obtain ⟨t, p, f⟩ := h
  refine ⟨_, ps_aug (ti := r) hN hi hx p hr hf, fun σ ρ F μ S H D s hE g => ?_⟩
  unfold sAug at g
  split at g
  · rename_i d hd
    obtain ⟨v, h1, h2⟩ := hE.2 i d hd
    refine ⟨v, h1, f σ ρ F μ S H _ s hE (GP.stm g hE fun y F1 μ1 H1 S1 e1 q1 s1 g1 u ru => ?_)⟩
    refine ho F1 μ1 S1 H1 d y v u _ NoEr s1 (h2.mono e1 q1) ru (GP.seq g1 fun z F2 μ2 H2 S2 e2 q2 s2 g2 w rw => ?_)
    exact GP.here g2 s2 _ (((hE.mono e1 q1).mono e2 q2).set rw)
  · exact g.elim
/-! ### loops -/
def forGo (src : Src) (t : TX) (b : SX) : Nat → Nat → PF.Env → Store → Out Fl
  | 0, i, ρ, S => match srcAt src S with
    | some ds => if ds.length ≤ i then some (.ok (.nx ρ), S) else none
    | none => none
  | k + 1, i, ρ, S => match srcAt src S with
    | some ds => (match ds[i]? with
      | some d => bindO (noX (t d ρ S)) fun ρ1 S => bindO (b ρ1 S) fun fl S => match fl with
        | .nx ρ' => forGo src t b k (i + 1) ρ' S
        | .ct ρ' => forGo src t b k (i + 1) ρ' S
        | .brk ρ' => some (.ok (.nx ρ'), S)
        | fl => some (.ok fl, S)
      | none => none)
    | none => none
def sFor (src : IX) (t : TX) (b : SX) : SX := fun ρ S => stm ρ (src ρ S) fun src S => match srcAt src S with
  | some ds => forGo src t b ds.length 0 ρ S
  | none => none
theorem rs_for {js : List Nat} {tg iter : Expr} {body : List Stmt} {ci : IX} {ct : TX} {cb : SX} {pos : Pos} (hp : PassesOwn (model X.prog X.w) X.A X.env X.xe) (hc : X.calm = true) (hi : RI T X W tg iter ci) (hg : RG T X js tg ct) (hb : RSs T fr X W body cb)
    (hs : ∀ x, foldedSetIterable iter X.env x = pure x := by intro _; rfl) : RS T fr X W (.For tg iter body [] pos) (sFor ci ct cb) := by
  obtain ⟨wi, pi, fi⟩ := hi
  obtain ⟨g, pg, fg⟩ := hg
  obtain ⟨tb, pb, fb⟩ := hb
  refine ⟨_, ps_for hp hc pi pg pb hs, fun σ ρ F μ S H D s hE gg => fi σ ρ F μ S H _ s hE (GP.stm gg hE fun src F1 μ1 H1 S1 e1 p1 s1 g1 J hJ => ?_)⟩
  split at g1
  case h_2 => exact g1.elim
  rename_i ds hds
  refine ⟨fun i m σ' H' => ∃ ρ' F' μ' S', Ex F1 F' ∧ μ1 <+: μ' ∧ SR X.K T F' μ' S' H' ∧ EnvR X.K F' μ' ρ' σ' ∧ GP X.K T F' μ' (forGo src ct cb m i ρ' S') (OkF X.K X.mg fr D W) NoEr,
    ⟨ds.length, ρ, F1, μ1, S1, Ex.refl _, List.prefix_refl _, s1, hE.mono e1 p1, g1⟩, ?_⟩
  rintro i m σ2 H2 ⟨ρ2, F2, μ2, S2, e2, p2, s2, hE2, g2⟩
  cases m with
  | zero =>
    left
    unfold forGo at g2
    split at g2
    case h_2 => exact g2.elim
    rename_i es hes
    split at g2
    case isFalse => exact g2.elim
    rename_i hl
    exact ⟨(hJ F2 μ2 S2 H2 es i e2 p2 s2 hes).2 hl, GP.here g2 s2 σ2 hE2⟩
  | succ m =>
    right
    unfold forGo at g2
    split at g2
    case h_2 => exact g2.elim
    rename_i es hes
    split at g2
    case h_2 => exact g2.elim
    rename_i d hd
    obtain ⟨hgo, hy⟩ := (hJ F2 μ2 S2 H2 es i e2 p2 s2 hes).1 d hd
    refine ⟨hgo, fun σ' H' => ∃ ρ' F' μ' S', Ex F1 F' ∧ μ1 <+: μ' ∧ SR X.K T F' μ' S' H' ∧ EnvR X.K F' μ' ρ' σ' ∧ GP X.K T F' μ' (forGo src ct cb m (i + 1) ρ' S') (OkF X.K X.mg fr D W) NoEr, fun σ' H' h => ⟨m, Nat.lt_succ_self _, h⟩, fun x H3 yl => ?_⟩
    obtain ⟨F3, e3, s3, rx⟩ := hy x H3 yl
    refine fg d x σ2 ρ2 F3 μ2 S2 H3 _ s3 (hE2.mono e3 (List.prefix_refl _)) rx (GP.noX (GP.seq (GP.mono g2 e3 (List.prefix_refl _)) fun ρ4 F4 μ4 H4 S4 e4 p4 s4 g4 σ4 hE4 _ => ?_))
    refine fb σ4 ρ4 F4 μ4 S4 H4 _ s4 hE4 (GP.seq g4 fun fl F5 μ5 H5 S5 e5 p5 s5 g5 => ?_)
    have ee := ((e2.trans e3).trans e4).trans e5
    have pp := (p2.trans p4).trans p5
    cases fl with
    | nx ρ' => exact fun σ' hE' => ⟨ρ', F5, μ5, S5, ee, pp, s5, hE', g5⟩
    | ct ρ' => exact fun σ' hE' => ⟨ρ', F5, μ5, S5, ee, pp, s5, hE', g5⟩
    | brk ρ' => exact fun σ' hE' => GP.here (er := NoEr) g5 s5 σ' hE'
    | ret d => exact GP.here (er := NoEr) g5 s5
    | exc x ρ' => exact GP.here (er := NoEr) g5 s5
def whileGo (c : BX) (b : SX) : Nat → PF.Env → Store → Out Fl
  | 0, _, _ => none
  | m + 1, ρ, S => stm ρ (c ρ S) fun x S => match x with
    | true => bindO (b ρ S) fun fl S => match fl with
      | .nx ρ' => whileGo c b m ρ' S
      | .ct ρ' => whileGo c b m ρ' S
      | .brk ρ' => some (.ok (.nx ρ'), S)
      | fl => some (.ok fl, S)
    | false => some (.ok (.nx ρ), S)
def sWhile (fuel : Nat) (c : BX) (b : SX) : SX := whileGo c b fuel
theorem rs_while {e : Expr} {body : List Stmt} {c : BX} {b : SX} {pos : Pos} (fuel : Nat) (hp : PassesOwn (model X.prog X.w) X.A X.env X.xe) (h : RT T X W e c) (hb : RSs T fr X W body b) : RS T fr X W (.While e body [] pos) (sWhile fuel c b) := by
  obtain ⟨t, p, f⟩ := h
  obtain ⟨tb, pb, fb⟩ := hb
  refine ⟨_, ps_while hp p pb, fun σ ρ F μ S H D s hE g => ?_⟩
  refine ⟨fun m σ' H' => ∃ ρ' F' μ' S', SR X.K T F' μ' S' H' ∧ EnvR X.K F' μ' ρ' σ' ∧ GP X.K T F' μ' (whileGo c b m ρ' S') (OkF X.K X.mg fr D W) NoEr, ⟨fuel, ρ, F, μ, S, s, hE, g⟩, ?_⟩
  rintro m σ2 H2 ⟨ρ2, F2, μ2, S2, s2, hE2, g2⟩
  cases m with
  | zero => exact g2.elim
  | succ m =>
    unfold whileGo at g2
    refine f σ2 ρ2 F2 μ2 S2 H2 _ s2 hE2 (GP.stm g2 hE2 fun x F3 μ3 H3 S3 e3 p3 s3 g3 => ?_)
    have hE3 := hE2.mono e3 p3
    cases x with
    | false => rw [if_neg Bool.false_ne_true]; exact GP.here g3 s3 σ2 hE3
    | true =>
      rw [if_pos rfl]
      refine ⟨fun σ' H' => ∃ ρ' F' μ' S', SR X.K T F' μ' S' H' ∧ EnvR X.K F' μ' ρ' σ' ∧ GP X.K T F' μ' (whileGo c b m ρ' S') (OkF X.K X.mg fr D W) NoEr, fun σ' H' h => ⟨m, Nat.lt_succ_self _, h⟩, ?_⟩
      refine fb σ2 ρ2 F3 μ3 S3 H3 _ s3 hE3 (GP.seq g3 fun fl F5 μ5 H5 S5 e5 p5 s5 g5 => ?_)
      cases fl with
      | nx ρ' => exact fun σ' hE' => ⟨ρ', F5, μ5, S5, s5, hE', g5⟩
      | ct ρ' => exact fun σ' hE' => ⟨ρ', F5, μ5, S5, s5, hE', g5⟩
      | brk ρ' => exact fun σ' hE' => GP.here (er := NoEr) g5 s5 σ' hE'
      | ret d => exact GP.here (er := NoEr) g5 s5
      | exc x ρ' => exact GP.here (er := NoEr) g5 s5
/-- code that is not come to -/
def sStuck : SX := fun _ _ => none
theorem rs_never {st : Stmt} : RS T fr X W st sStuck := ⟨_, ps_never, fun σ ρ F μ S H D s hE g => g.elim⟩

/-! ### the store's lists, by their methods -/
abbrev OpM := D → List D → Store → Out D
def MtOk (X : Cx) (T : List (Addr × Str)) (r : V → List V → Hp → VK → Prop) (o : OpM) : Prop := ∀ F μ S H d v ds vs Q er, SR X.K T F μ S H → Rep X.K F μ d v → Reps X.K F μ ds vs → GP X.K T F μ (o d ds S) (OkV X.K false Q) er → r v vs H Q
def cMt (o : OpM) (a : EX) (r : AX) : EX := fun ρ S => bindO (a ρ S) fun d S => match d with
  | .loc n => bindO (r ρ S) fun ds S => o (.loc n) ds S
  | _ => none
theorem re_bm {o e : Expr} {es : List Expr} {name : Str} {apos cpos : Pos} {id : String} {r : V → List V → Hp → VK → Prop} {om : OpM} {a : EX} {ca : AX} (slot : Slot "list" name id) (hty : typeOf (.builtin id) = pure (.type "method_descriptor")) (hm : MtR X id r) (hom : MtOk X T r om) (ho : RE T false X W o a) (ha : RA T X W (e :: es) ca)
    (hbase : attributeBase o name X.env (eval o X.env) = eval o X.env := by rfl)
    (hfew : ((backTo cpos (starEach (e :: es) X.env)).all (fun x => !x.1) && (backToKw cpos (keywordEach [] X.env)).all (fun x => x.1.isSome)
      && decide ((e :: es).length + ([] : List Keyword).length + (if ([] : List Keyword).isEmpty then 0 else 1) < 30)) = true := by rfl)
    (hline : (apos.endLine == cpos.line) = true := by rfl) (hs : starEach (e :: es) X.env = (false, eval e X.env) :: starEach es X.env := by rfl) (hplain : (backTo cpos (starEach es X.env)).any (·.1) = false := by rfl) :
    RE T false X W (.Call (.Attribute o name apos) (e :: es) [] cpos) (cMt om a ca) := by
  obtain ⟨t, p, f⟩ := ho
  obtain ⟨t2, p2, f2⟩ := ha
  refine ⟨_, pe_bm PySem.F.plainAttrs_list slot hty hm p p2 hbase hfew hline hs hplain, fun σ ρ F μ S H Q s hE g => f σ ρ F μ S H _ s hE (GP.seq g fun d F1 μ1 H1 S1 e1 q1 s1 g1 v rv => ?_)⟩
  cases rv with
  | @loc n A hm =>
    obtain ⟨ds, vs, h1, h2, _⟩ := s1.get hm
    refine ⟨.inl ⟨rfl, _, sq_of h2⟩, f2 σ ρ F1 μ1 S1 H1 _ s1 (hE.mono e1 q1) (GP.seq g1 fun ds F2 μ2 H2 S2 e2 q2 s2 g2 vs rs => ?_)⟩
    exact hom F2 μ2 S2 H2 _ _ ds vs Q _ s2 (.loc (pre_get q2 hm)) rs g2
  | _ => exact g1.elim
theorem re_bm0 {o : Expr} {name : Str} {apos cpos : Pos} {id : String} {r : V → List V → Hp → VK → Prop} {om : OpM} {a : EX} (slot : Slot "list" name id) (hty : typeOf (.builtin id) = pure (.type "method_descriptor")) (hm : MtR X id r) (hom : MtOk X T r om) (ho : RE T false X W o a)
    (hbase : attributeBase o name X.env (eval o X.env) = eval o X.env := by rfl) (hline : (apos.endLine == cpos.line) = true := by rfl) : RE T false X W (.Call (.Attribute o name apos) [] [] cpos) (cMt om a aNil) := by
  obtain ⟨t, p, f⟩ := ho
  refine ⟨_, pe_bm0 PySem.F.plainAttrs_list slot hty hm p hbase hline, fun σ ρ F μ S H Q s hE g => f σ ρ F μ S H _ s hE (GP.seq g fun d F1 μ1 H1 S1 e1 q1 s1 g1 v rv => ?_)⟩
  cases rv with
  | @loc n A hm =>
    obtain ⟨ds, vs, h1, h2, _⟩ := s1.get hm
    exact ⟨.inl ⟨rfl, _, sq_of h2⟩, hom F1 μ1 S1 H1 _ _ [] [] Q _ s1 (.loc hm) .nil g1⟩
  | _ => exact g1.elim
def mAppend : OpM := fun d ds S => match d, ds with
  | .loc n, [x] => (match S[n]? with
    | some xs => if x.pure = true ∧ xs.length < lim then some (.ok .non, S.set n (xs ++ [x])) else none
    | none => none)
  | _, _ => none
theorem mAppend_ok : MtOk X T rAppend mAppend := by
  intro F μ S H d v ds vs Q er s rv rs h
  unfold mAppend at h
  split at h
  · rename_i n x
    obtain ⟨u, rfl, ru⟩ := rs.inv1
    cases rv with
    | @loc n A hm =>
      obtain ⟨es, ws, h1, h2, h3, h4, h5⟩ := s.get hm
      rw [h1] at h
      dsimp only at h
      split at h
      · rename_i hc
        refine ⟨A, ws, u, rfl, rfl, h2, by rw [← h3.length]; exact Nat.lt_of_lt_of_le hc.2 (by decide), ?_⟩
        have s2 := s.put hm (h3.append (Reps.one ru)) (by rw [D.pures_append, h5, Bool.true_and]; simp [D.pures, hc.1])
        exact gp_val h s2 .non
      · exact h.elim
  · exact h.elim
def mPop : OpM := fun d ds S => match d, ds with
  | .loc n, [] => (match S[n]? with
    | some xs => (match xs[xs.length - 1]? with
      | some x => some (.ok x, S.set n xs.dropLast)
      | none => none)
    | none => none)
  | _, _ => none
theorem reps_dropLast {K : PySem.W.Frag} {F : Hp} {μ : List Addr} {ds : List D} {vs : List V} (r : Reps K F μ ds vs) : Reps K F μ ds.dropLast vs.dropLast := by
  rw [List.dropLast_eq_take, List.dropLast_eq_take, r.length]
  exact r.take _
theorem pures_sub {ds es : List D} (h : D.pures ds = true) (hs : ∀ x ∈ es, x ∈ ds) : D.pures es = true := by
  rw [D.pures_iff] at h ⊢
  exact fun x hx => h x (hs x hx)
theorem mPop_ok : MtOk X T rPop mPop := by
  intro F μ S H d v ds vs Q er s rv rs h
  unfold mPop at h
  split at h
  · rename_i n
    cases rs
    cases rv with
    | @loc n A hm =>
      obtain ⟨es, ws, h1, h2, h3, h4, h5⟩ := s.get hm
      rw [h1] at h
      dsimp only at h
      split at h
      · rename_i x hx
        obtain ⟨w, k1, k2⟩ := h3.get hx
        refine ⟨A, ws, w, rfl, rfl, h2, by rw [← h3.length]; exact k1, ?_⟩
        have s2 := s.put hm (reps_dropLast h3) (pures_sub h5 fun x hx => List.dropLast_subset _ hx)
        exact gp_val h s2 k2
      · exact h.elim
  · exact h.elim
def mPopAt : OpM := fun d ds S => match d, ds with
  | .loc n, [.int i] => (match S[n]? with
    | some xs => if i < 1000000000 ∧ -1000000000 < i then (match ixN xs.length i with
      | some k => (match xs[k]? with
        | some x => some (.ok x, S.set n (xs.eraseIdx k))
        | none => none)
      | none => none) else none
    | none => none)
  | _, _ => none
theorem mPopAt_ok : MtOk X T rPopAt mPopAt := by
  intro F μ S H d v ds vs Q er s rv rs h
  unfold mPopAt at h
  split at h
  · rename_i n i
    obtain ⟨u, rfl, ru⟩ := rs.inv1
    cases ru
    cases rv with
    | @loc n A hm =>
      obtain ⟨es, ws, h1, h2, h3, h4, h5⟩ := s.get hm
      rw [h1] at h
      dsimp only at h
      split at h
      · rename_i hi
        split at h
        · rename_i k hk
          split at h
          · rename_i x hx
            obtain ⟨w, k1, k2⟩ := h3.get hx
            refine ⟨A, ws, i, k, w, rfl, rfl, h2, by omega, by omega, by rw [← h3.length]; exact (ixN_seq hk).1, k1, ?_⟩
            have s2 := s.put hm (h3.eraseIdx k) (pures_sub h5 fun x hx => List.mem_of_mem_eraseIdx hx)
            exact gp_val h s2 k2
          · exact h.elim
        · exact h.elim
      · exact h.elim
  · exact h.elim
end

/-! ### a def -/
def startE (n : Nat) (args : List D) : PF.Env := args.map some ++ List.replicate (n - args.length) none
def exitD (fr : Bool) (n0 : Nat) (d : D) (S : Store) : Out D := match d with
  | .loc n => if n < n0 then (if fr = true then none else some (.ok (.loc n), S.take n0)) else (match S[n]? with
    | some ds => some (.ok (.lst ds), S.take n0)
    | none => none)
  | d => if d.pure = true then some (.ok d, S.take n0) else none
def exitF (fr : Bool) (n0 : Nat) (r : Out Fl) : Out D := match r with
  | some (.ok (.ret d), S) => exitD fr n0 d S
  | some (.ok (.nx _), S) => if fr = true then none else some (.ok .non, S.take n0)
  | some (.ok (.exc x _), S) => if D.pures (x.fields.map (·.2)) = true then some (.error x, S.take n0) else none
  | _ => none
/-- what a def of n names does -/
def callF (fr : Bool) (n : Nat) (b : SX) : OpB := fun ds S => exitF fr S.length (b (startE n ds) S)
theorem start_env {K : PySem.W.Frag} {F : Hp} {μ : List Addr} {N : List Str} {ds : List D} {vs : List V} (r : Reps K F μ ds vs) : EnvR K F μ (startE N.length ds) (L2.start N vs) := by
  unfold startE L2.start
  refine ⟨by simp [r.length], fun i d h => ?_⟩
  by_cases hi : i < ds.length
  · rw [List.getElem?_append_left (by simpa using hi), List.getElem?_map] at h
    rw [List.getElem?_append_left (by simpa [← r.length] using hi), List.getElem?_map]
    cases e : ds[i]? with
    | none => rw [e] at h; cases h
    | some d' =>
      rw [e] at h; cases h
      obtain ⟨v, h1, h2⟩ := r.get e
      exact ⟨v, by rw [h1]; rfl, h2⟩
  · rw [List.getElem?_append_right (by simpa using hi), List.getElem?_replicate] at h
    split at h <;> cases h
theorem def_g {P : Program} {w : World} {K : PySem.W.Frag} {mg : Str → Option Value} {base : Heap} {T : List (Addr × Str)} {x qual : Str} {params : Arguments} {body : List Stmt} {scope : Scope} {dvs : List V} {kws : List (Str × V)} {f : Addr} {fd : FuncData} {N ps : List Str} {k : Nat} {fr : Bool} {b : SX}
    (FD : FunD K x qual params body scope dvs kws f fd) (sc : FnScope N ps scope)
    (hb : ∀ (cdv : Value) (A : Around) (outer : List PySem.Env) (s : Shared) (H : Hp) (E : XK), Room k (A.deeper (envOfC qual scope s.heap.objs.size f cdv)) → A.guards = some [] →
      RSs T fr (cxOf (L2.CX P w) P w K mg base N qual scope f cdv A outer s H E) (fun cls d _ H' => E cls d H') body b) :
    FnG P w K mg base (k + 1) f fd ps (spOf K mg T fr ps.length (callF fr N.length b)) := by
  refine fn_g FD sc (fun vs H Q E h => ?_) fun cdv A outer s H vs Q E room gu h => ?_
  · obtain ⟨_, _, _, _, _, _, hl, _⟩ := h
    exact hl
  · obtain ⟨F, μ, S, ds, s0, rs, hl, g⟩ := h
    obtain ⟨t, p, rd⟩ := hb cdv A outer s H E room gu
    refine ⟨t, p, rd _ (startE N.length ds) F μ S H _ s0 (start_env rs) ?_⟩
    unfold callF at g
    match hbody : b (startE N.length ds) S with
    | none => rw [hbody] at g; exact g.elim
    | some (.error x, S') => rw [hbody] at g; exact g.elim
    | some (.ok fl, S') =>
      rw [hbody] at g
      intro F' μ' H' e q s'
      have cut : SR K T F' μ (S'.take S.length) H' := by
        have := s'.cut S.length
        rwa [take_pre s0 q] at this
      match fl, g with
      | .nx ρ', g =>
        intro σ' _
        simp only [exitF] at g
        cases fr with
        | true => exact g.elim
        | false => exact g F' μ H' e (List.prefix_refl _) cut .non .non
      | .exc x ρ', g =>
        intro σ' cls dd _ hx
        simp only [exitF] at g
        split at g
        · rename_i hp
          obtain ⟨C, h1, h2, h3⟩ := hx
          exact g F' μ H' e (List.prefix_refl _) cut cls dd ⟨C, h1, h2, h3.imp id fun ⟨d, vs, a1, a2, a3⟩ => ⟨d, vs, a1, a2.free hp, a3⟩⟩
        · exact g.elim
      | .brk ρ', g => exact (show False from g).elim
      | .ct ρ', g => exact (show False from g).elim
      | .ret d, g =>
        intro v rv
        have g : GP K T F μ (exitD fr S.length d S') (OkV K fr Q) (ErW K mg E) := g
        -- a list of the store, made within
        have local_ : ∀ n a, d = .loc n → ¬ n < S.length → μ'[n]? = some a → v = .ref a → Q v H' := by
          intro n a hd hn hm hv
          subst hd; subst hv
          obtain ⟨es, vs, h1, h2, h3, h4, h5⟩ := s'.get hm
          simp only [exitD, if_neg hn, h1] at g
          have na : a ∉ μ := fun z => by
            obtain ⟨t, rfl⟩ := q
            rw [List.getElem?_append_right (by rw [s0.len]; omega)] at hm
            have := (List.nodup_append.mp s'.nd).2.2 a z a (List.mem_of_getElem? hm)
            exact this rfl
          cases fr with
          | true => exact g F' μ H' e (List.prefix_refl _) cut _ ⟨es, a, vs, rfl, rfl, h4, na, h2, h3.free h5⟩
          | false =>
            exact g (upd F' a (.lst vs)) μ H' (e.trans (Ex.new h4)) (List.prefix_refl _) (cut.freeze h4 na h2) _ (.lst upd_same ((h3.free h5).mono (Ex.new h4) (List.prefix_refl _)))
        cases fr with
        | false =>
          have rv : Rep K F' μ' d v := rv
          cases rv with
          | @loc n a hm =>
            by_cases hn : n < S.length
            · simp only [exitD, if_pos hn] at g
              refine g F' μ H' e (List.prefix_refl _) cut _ (.loc ?_)
              obtain ⟨t, rfl⟩ := q
              rwa [List.getElem?_append_left (by rw [s0.len]; exact hn)] at hm
            · exact local_ n a rfl hn hm rfl
          | non => exact g F' μ H' e (List.prefix_refl _) cut _ .non
          | bl b => exact g F' μ H' e (List.prefix_refl _) cut _ (.bl b)
          | int i => exact g F' μ H' e (List.prefix_refl _) cut _ (.int i)
          | str z => exact g F' μ H' e (List.prefix_refl _) cut _ (.str z)
          | tup h1 h2 =>
            simp only [exitD] at g
            split at g
            · rename_i hp
              exact g F' μ H' e (List.prefix_refl _) cut _ (Rep.free (.tup h1 h2) hp)
            · exact g.elim
          | lst h1 h2 =>
            simp only [exitD] at g
            split at g
            · rename_i hp
              exact g F' μ H' e (List.prefix_refl _) cut _ (Rep.free (.lst h1 h2) hp)
            · exact g.elim
          | fz h1 h2 =>
            simp only [exitD] at g
            split at g
            · rename_i hp
              exact g F' μ H' e (List.prefix_refl _) cut _ (Rep.free (.fz h1 h2) hp)
            · exact g.elim
        | true =>
          rcases rv with ⟨es, a, vs, hd, hv, h1, h2, h3, h4⟩ | ⟨n, hd, hr⟩
          · subst hd; subst hv
            simp only [exitD] at g
            split at g
            · rename_i hp
              have hp : D.pures es = true := by simpa [D.pure] using hp
              refine g F' μ H' e (List.prefix_refl _) cut _ ⟨es, a, vs, rfl, rfl, h1, fun z => h2 ?_, h3, h4.free hp⟩
              obtain ⟨t, rfl⟩ := q
              exact List.mem_append_left _ z
            · exact g.elim
          · subst hd
            cases hr with
            | @loc n a hm =>
              by_cases hn : n < S.length
              · simp only [exitD, if_pos hn] at g
                exact g.elim
              · exact local_ n a rfl hn hm rfl
end PF
set_option Elab.async false
set_option linter.all false
set_option maxRecDepth 100000
set_option maxHeartbeats 4000000
/-! PF7: a law's end. -/
namespace PF
open PySem L2 Evl PySem.Spec PyProof.Rows
/-- the script as it lies ahead of the law: read alone, if it is none of the module's own objects -/
def scriptH (K : PySem.W.Frag) (a : Addr) (o : Obj) (ns : List Int) : Hp := fun b => if b = a ∧ (K.lookup a).isNone = true then some (.frz o (.lst (ns.map V.int))) else none
section
variable {P : Program} {w : World} {K : PySem.W.Frag} {mg mb : Str → Option Value} {k : Nat} {fa a : Addr} {fd : FuncData} {x : Str} {s₁ : Shared} {vs : List Value} {ns : List Int}
theorem scriptH_some {o : Obj} {b : Addr} {u : HO} (h : scriptH K a o ns b = some u) : b = a ∧ K.lookup a = none ∧ u = .frz o (.lst (ns.map V.int)) := by
  unfold scriptH at h
  split at h
  · rename_i c
    obtain ⟨h1, h2⟩ := c
    injection h with h
    exact ⟨h1, by simpa using h2, h.symm⟩
  · cases h
theorem law_run {o : OpB} (inK : K.In s₁.heap) (glob : s₁.heap.Ns mainGlobals mg) (blt : s₁.heap.Ns builtinsNs mb) (bltv : ∀ x : Str, x ≠ "__name__" → mb x = bootBuiltins x) (nolim : s₁.heap.NoLimit) (nogen : s₁.gens = #[])
    (at_ : s₁.heap.get? a = some { cls := .type "list", data := .seq vs.toArray }) (iav : IntsAre vs ns) (len : ns.length ≤ 63) (room : Room k callerA)
    (FG : ∀ base : Heap, K.In base → base.Ns mainGlobals mg → FnG P w K mg base k fa fd [x] (spOf K mg [] false 1 o)) (bnd : ∀ (s : Shared) (u : Value), BindsTo s fd ⟨[u], []⟩ [(x, u)])
    (end_ : o [.fz (ns.map D.int)] [] = some (.ok (.bl true), [])) :
    codeAny (model P w) callerA (.call (.ref fa) ⟨[.ref a], []⟩) (fun r s' => r = .ok (.ret (.bool true)) ∧ OldK s₁.heap s'.heap ∧ s'.os = s₁.os ∧ AllBare s'.gens) s₁ := by
  let ob : Obj := { cls := .type "list", data := .seq vs.toArray }
  let H := scriptH K a ob ns
  have rel : Vals (ns.map V.int) vs := vals_ints iav
  have small : (ns.map V.int).length ≤ sizeLine := by rw [List.length_map]; exact Nat.le_trans len (by decide)
  have hH : ∀ b u, H b = some u → b = a ∧ K.lookup a = none ∧ u = .frz ob (.lst (ns.map V.int)) := fun b u e => scriptH_some e
  -- what is no list is not tracked
  have out : ∀ b (q : Obj), s₁.heap.get? b = some q → (∀ n, q.data ≠ .seq vs.toArray n) → H b = none := by
    intro b q e nd
    match z : H b with
    | none => rfl
    | some u =>
      obtain ⟨rfl, _, _⟩ := hH b u z
      rw [at_] at e
      injection e with e
      subst e
      exact absurd rfl (nd _)
  have names : ∀ (L : Addr) (m : Str → Option Value), s₁.heap.Ns L m → (hidT s₁.heap H).Ns L m := by
    rintro L m ⟨q, es, ep, e, dd, rest⟩
    exact ⟨q, es, ep, hidT_get e (out L q e fun n z => by rw [dd] at z; cases z), dd, rest⟩
  have inB : K.In (hidT s₁.heap H) := by
    intro b q e
    refine hidT_get (inK b q e) ?_
    match z : H b with
    | none => rfl
    | some u =>
      obtain ⟨rfl, nk, _⟩ := hH b u z
      rw [nk] at e; cases e
  have mod : Mod K mg (hidT s₁.heap H) := { kin := inB, glob := names _ _ glob, blt := ⟨mb, names _ _ blt, bltv⟩, nolimit := by obtain ⟨mc, n1, n2⟩ := nolim; exact ⟨mc, names _ _ n1, n2⟩ }
  have held : HOk P w H s₁.heap := by
    intro b u e
    obtain ⟨rfl, _, rfl⟩ := hH b u e
    exact ⟨at_, small, vs, _, rel, at_⟩
  have env : Env0 P w K mg (hidT s₁.heap H) callerA [] s₁ H := { frames := rfl, mod := mod, bs := fun b q e => of_hidT e, bsz := by rw [hidT_size]; exact Nat.le_refl _, funs := trivial, frf := fun b hb => (nomatch hb), hok := held, bare := .of_eq nogen }
  have script : SqL K H a (ns.map V.int) := by
    match z : K.lookup a with
    | none => exact .inl (.inr ⟨ob, if_pos ⟨rfl, by rw [z]; rfl⟩⟩)
    | some q =>
      have e := inK a q z
      rw [at_] at e
      injection e with e
      subst e
      exact .inr ⟨_, vs.toArray, _, z, rfl, rfl, rfl, by rw [List.size_toArray, ← rel.length]; exact small, by simpa using rel⟩
  have want : spOf K mg [] false 1 o [.ref a] H (fun v _ => v = .bl true) fun _ _ _ => False := by
    refine ⟨H, [], [], [.fz (ns.map D.int)], ⟨Ex.refl _, rfl, List.nodup_nil, fun n b ds e => by simp at e, fun p hp => (nomatch hp), fun p hp => (nomatch hp)⟩, .cons (.fz script (reps_ints ns)) .nil, rfl, ?_⟩
    rw [end_]
    intro F' μ' H' _ _ _ v r
    have r : Rep K F' μ' (.bl true) v := r
    cases r
    rfl
  refine codeAny_mono ((FG _ inB (names _ _ glob)).run callerA [] s₁ H ⟨[.ref a], []⟩ [.ref a] [.ref a] _ _ room rfl env (bnd s₁ (.ref a)) (.cons rfl .nil) want) ?_
  intro r s' h
  match r, h with
  | .error e, h =>
    obtain ⟨_, _, _, _, _, _, _, _, _, _, _, _, z⟩ := h
    exact z.elim
  | .ok .next, h => exact h.elim
  | .ok .brk, h => exact h.elim
  | .ok .cont, h => exact h.elim
  | .ok (.ret u), ⟨v, H', os, bare, un, hok', rv, hv⟩ =>
    have hv : v = .bl true := hv
    subst hv
    have hu : u = Value.bool true := rv
    subst hu
    refine ⟨rfl, OldK.of_keep fun b q e => ?_, os, bare⟩
    match z : H b with
    | none => exact un.keep b q e z (fun z => nomatch z) (fun z => nomatch z)
    | some u =>
      obtain ⟨rfl, _, rfl⟩ := hH b u z
      have k1 := hok' b _ (un.frzs b _ _ z)
      rw [at_] at e
      injection e with e
      subst e
      exact k1.1
end
/-- the law's end over a head by facts -/
theorem walk_pf {l : PySem.W.OpenLaw} {k : Nat} {q : Program} {loose : List Str} {XP : (Str → Option Value) → Heap → Prop} {YP : World → Heap → Prop} {d : DefRec} {x : Str} {o : OpB}
    (hn : l.most = some 63) (hdf : d.params.defaults = []) (hr : Room k callerA) (end_ : ∀ ns : List Int, ns.length ≤ 63 → o [.fz (ns.map D.int)] [] = some (.ok (.bl true), []))
    (F : ∀ (w : World) (mg : Str → Option Value) (fa : Addr) (h : Heap), YP w h → h.Ns mainGlobals mg → mg d.name = some (.ref fa) →
      ∃ (K : PySem.W.Frag) (fd : FuncData), K.In h ∧ (∀ (s : Shared) (u : Value), BindsTo s fd ⟨[u], []⟩ [(x, u)]) ∧ ∀ base : Heap, K.In base → base.Ns mainGlobals mg → FnG l.prog w K mg base k fa fd [x] (spOf K mg [] false 1 o)) :
    PySem.W.WalkO q loose XP YP l.row.toRowW d [] (fun f vs => PySem.call f vs) := by
  refine Att.attach_call hn hdf ?_
  intro w s₀ s₁ mg mb fa ob pm cd doc a vs ns G Y ho hd hcd hmg hobj hints hlen hg
  obtain ⟨K, fd, KX, hb, hF⟩ := F w mg fa _ Y G.T.g hmg
  exact law_run KX G.T.g G.T.b G.T.builtins G.T.nolimit hg hobj hints hlen hr hF hb (end_ ns hlen)
end PF
set_option Elab.async false
set_option linter.all false
set_option maxRecDepth 100000
set_option maxHeartbeats 4000000
/-! PF8: what the printed derivations call. -/
namespace PF
open PySem L2 Evl PySem.Spec PyProof.Rows
section
variable {X : Cx} {T : List (Addr × Str)} {W : WX}
theorem OpOk.freeze {r : R2} {o : Op2} (h : OpOk X T true r o) : OpOk X T false r o := fun F μ S H x y v u Q er s rx ry g => h F μ S H x y v u Q er s rx ry (gp_freeze g)
/-- + of ints, texts, tuples, lists -/
def oAddA : Op2 := fun x y S => match oAdd x y S with
  | some r => some r
  | none => oCat x y S
def rAddA (K : PySem.W.Frag) : R2 := fun x y H Q => rAdd3 K x y H Q ∨ rCat x y H Q
theorem op_add4 : OpR X (binaryOp .Add) (rAddA X.K) := op_add3.or op_cat
theorem oAddA_ok : OpOk X T false (rAddA X.K) oAddA := OpOk.or oAdd_ok oCat_ok.freeze fun x y S => by
  unfold oAddA
  cases h : oAdd x y S with
  | some r => exact .inl rfl
  | none => exact .inr rfl
theorem oAdd_nerr : ∀ x y S z S', oAdd x y S ≠ some (.error z, S') := by
  intro x y S z S' h
  unfold oAdd at h
  split at h
  · cases h
  · split at h <;> cases h
  · split at h <;> cases h
  · cases h
theorem oCat_nerr : ∀ x y S z S', oCat x y S ≠ some (.error z, S') := by
  intro x y S z S' h
  unfold oCat at h
  split at h
  · split at h
    · split at h <;> cases h
    · cases h
  · cases h
theorem oAddA_ne : ∀ x y S z S', oAddA x y S ≠ some (.error z, S') := by
  intro x y S z S' h
  unfold oAddA at h
  split at h
  · rename_i r hr
    rw [h] at hr
    exact oAdd_nerr _ _ _ _ _ hr
  · exact oCat_nerr _ _ _ _ _ h
theorem oI_ne {C : Int → Int → Bool} {g : Int → Int → D} : ∀ x y S z S', oI C g x y S ≠ some (.error z, S') := by
  intro x y S z S' h
  unfold oI at h
  split at h
  · split at h <;> cases h
  · cases h
theorem oSub_ne : ∀ x y S z S', oSub x y S ≠ some (.error z, S') := oI_ne
theorem oMul_ne : ∀ x y S z S', oMul x y S ≠ some (.error z, S') := oI_ne
def rIadd3 (K : PySem.W.Frag) : R2 := fun x y H Q => (∃ i j, x = .int i ∧ y = .int j ∧ Q (.int (i + j)) H) ∨ (∃ i j, x = .str i ∧ y = .str j ∧ i.length + j.length ≤ sizeLine ∧ Q (.str (i ++ j)) H)
/-- < of ints, texts, tuples of ints -/
def oLtA : Op2 := fun x y S => match x, y with
  | .int i, .int j => some (.ok (.bl (decide (i < j))), S)
  | .str i, .str j => some (.ok (.bl (decide (i.cps.toList < j.cps.toList))), S)
  | .tup a, .tup b => (match intsOf a, intsOf b with
    | some ns, some ms => some (.ok (.bl (HT.lexLt ns ms)), S)
    | _, _ => none)
  | _, _ => none
def rLtA (K : PySem.W.Frag) : R2 := fun x y H Q => (∃ i j, x = .int i ∧ y = .int j ∧ Q (.bl (decide (i < j))) H) ∨ (∃ i j, x = .str i ∧ y = .str j ∧ Q (.bl (decide (i.cps.toList < j.cps.toList))) H) ∨ rLtT K x y H Q
theorem op_ltA (hu : X.A.units < cLine) : OpR X (compareOp .Lt) (rLtA X.K) := op_lt.or (op_lt_str.or (op_ltT hu))
theorem oLtA_ok : OpOk X T false (rLtA X.K) oLtA := by
  intro F μ S H x y v u Q er s rx ry h
  unfold oLtA at h
  cases rx with
  | int i =>
    cases ry with
    | int j => exact .inl ⟨i, j, rfl, rfl, gp_val h s (.bl _)⟩
    | _ => exact h.elim
  | str i =>
    cases ry with
    | str j => exact .inr (.inl ⟨i, j, rfl, rfl, gp_val h s (.bl _)⟩)
    | _ => exact h.elim
  | @tup a xs ds hq rs =>
    cases ry with
    | @tup b ys es hq2 rs2 =>
      dsimp only at h
      split at h
      · rename_i ns ms h1 h2
        have e1 := ints_rep rs h1
        have e2 := ints_rep rs2 h2
        subst e1; subst e2
        exact .inr (.inr ⟨a, b, ns, ms, rfl, rfl, s.sqT hq, s.sqT hq2, gp_val h s (.bl _)⟩)
      · exact h.elim
    | _ => exact h.elim
  | _ => exact h.elim
/-- in: a thing in a list or tuple, a text in a text -/
def oInA (neg : Bool) : Op2 := fun x y S => match y with
  | .str _ => oInS neg x y S
  | _ => oIn neg x y S
theorem oInS_ok : OpOk X T false (fun x y H Q => ∃ i j, x = .str i ∧ y = .str j ∧ Q (.bl (!(Builtin.Str.occurrences j i 0 j.length 1).isEmpty)) H) (oInS false) := by
  intro F μ S H x y v u Q er s rx ry h
  unfold oInS at h
  cases rx with
  | str i =>
    cases ry with
    | str j => exact ⟨i, j, rfl, rfl, gp_val h s (.bl _)⟩
    | _ => exact h.elim
  | _ => exact h.elim
theorem oNinS_ok : OpOk X T false (fun x y H Q => ∃ i j, x = .str i ∧ y = .str j ∧ Q (.bl (!(!(Builtin.Str.occurrences j i 0 j.length 1).isEmpty))) H) (oInS true) := by
  intro F μ S H x y v u Q er s rx ry h
  unfold oInS at h
  cases rx with
  | str i =>
    cases ry with
    | str j => exact ⟨i, j, rfl, rfl, gp_val h s (.bl _)⟩
    | _ => exact h.elim
  | _ => exact h.elim
theorem op_inA : OpR X (compareOp .In) (fun x y H Q => rIn X.K false x y H Q ∨ ∃ i j, x = .str i ∧ y = .str j ∧ Q (.bl (!(Builtin.Str.occurrences j i 0 j.length 1).isEmpty)) H) := op_in_seq.or op_in_str
theorem op_ninA : OpR X (compareOp .NotIn) (fun x y H Q => rIn X.K true x y H Q ∨ ∃ i j, x = .str i ∧ y = .str j ∧ Q (.bl (!(!(Builtin.Str.occurrences j i 0 j.length 1).isEmpty))) H) := op_notIn_seq.or op_notin_str
theorem oInA_ok : OpOk X T false (fun x y H Q => rIn X.K false x y H Q ∨ ∃ i j, x = .str i ∧ y = .str j ∧ Q (.bl (!(Builtin.Str.occurrences j i 0 j.length 1).isEmpty)) H) (oInA false) := OpOk.or oIn_ok oInS_ok fun x y S => by
  cases y <;> first | exact .inr rfl | exact .inl rfl
theorem oNinA_ok : OpOk X T false (fun x y H Q => rIn X.K true x y H Q ∨ ∃ i j, x = .str i ∧ y = .str j ∧ Q (.bl (!(!(Builtin.Str.occurrences j i 0 j.length 1).isEmpty))) H) (oInA true) := OpOk.or oIn_ok oNinS_ok fun x y S => by
  cases y <;> first | exact .inr rfl | exact .inl rfl
/-- a[lo:hi], whatever a is: a list goes as a value -/
def cSliceA (a : EX) (lo hi : OX) : EX := fun ρ S => bindO (a ρ S) fun x S => bindO (lo ρ S) fun l S => bindO (hi ρ S) fun h S => match x with
  | .tup xs => some (.ok (.tup (cutL xs l h)), S)
  | .str z => if z.length ≤ lim then some (.ok (.str (cutS z l h)), S) else none
  | d => (match asL d S with
    | some xs => some (.ok (.lst (cutL xs l h)), S)
    | none => none)
theorem re_sliceA {e : Expr} {lo hi : Option Expr} {a : EX} {cl ch : OX} {pos p2 : Pos} (ha : RE T false X W e a) (hl : RO T X W lo cl) (hh : RO T X W hi ch) : RE T false X W (.Subscript e (.Slice lo hi none p2) pos) (cSliceA a cl ch) := by
  obtain ⟨ta, pa, fa⟩ := ha
  obtain ⟨tl, pl, fl⟩ := hl
  obtain ⟨th, ph, fh⟩ := hh
  refine ⟨_, pe_slice (sl_tupA.or (sl_str.or sl_list)) pa pl ph, fun σ ρ F μ S H Q s hE g => ?_⟩
  refine fa σ ρ F μ S H _ s hE (GP.seq g fun x F1 μ1 H1 S1 e1 p1 s1 g1 v rx => ?_)
  refine fl σ ρ F1 μ1 S1 H1 _ s1 (hE.mono e1 p1) (GP.seq g1 fun l F2 μ2 H2 S2 e2 p2 s2 g2 => ?_)
  refine fh σ ρ F2 μ2 S2 H2 _ s2 ((hE.mono e1 p1).mono e2 p2) (GP.seq g2 fun h F3 μ3 H3 S3 e3 p3 s3 g3 => ?_)
  have rx := Rep.mono e3 p3 (Rep.mono e2 p2 rx)
  have aslist : ∀ ds, asL x S3 = some ds → GP X.K T F3 μ3 (some (.ok (.lst (cutL ds l h)), S3)) (OkV X.K false Q) (ErW X.K X.mg fun cls dd H' => W cls dd σ H') → rSlL X.K v l h H3 Q := by
    intro ds hq g
    obtain ⟨a, vs, rfl, h1, h2⟩ := asL_ok s3 rx hq
    exact ⟨a, vs, rfl, h1, gp_lst (gp_freeze g) s3 (h2.cut _ _)⟩
  cases rx with
  | @tup a xs ds hq rs =>
    refine .inl ⟨a, xs, rfl, s3.sqT hq, fun hw => ?_, fun _ => gp_tup g3 s3 (rs.cut _ _)⟩
    dsimp only at g3
    rw [sIx_all hw rs.length] at g3
    exact gp_val g3 s3 (.tup hq rs)
  | str z =>
    dsimp only at g3
    split at g3
    · rename_i hz
      exact .inr (.inl ⟨z, rfl, lim_ok hz, gp_val g3 s3 (.str _)⟩)
    · exact g3.elim
  | lst hq rs =>
    dsimp only at g3
    split at g3
    · rename_i ds hd
      exact .inr (.inr (aslist ds hd g3))
    · exact g3.elim
  | fz hq rs =>
    dsimp only at g3
    split at g3
    · rename_i ds hd
      exact .inr (.inr (aslist ds hd g3))
    · exact g3.elim
  | loc hq =>
    dsimp only at g3
    split at g3
    · rename_i ds hd
      exact .inr (.inr (aslist ds hd g3))
    · exact g3.elim
  | _ => simp only [asL] at g3; exact g3.elim
/-- what is walked: a list, a tuple, a text -/
def srcOfA : D → Option Src
  | .str z => some (.items (z.cps.toList.map fun c => .str ⟨#[c]⟩))
  | d => srcOf d
def cSeqA (c : EX) : IX := fun ρ S => bindO (c ρ S) fun d S => match srcOfA d with
  | some src => some (.ok src, S)
  | none => none
theorem walks_s {K : PySem.W.Frag} {F : Hp} {μ : List Addr} {z : Str} : Walks K T F μ (.items (z.cps.toList.map fun c => .str ⟨#[c]⟩)) (Its z) := by
  intro F' μ' S H ds i e p s q
  cases q
  refine ⟨fun d hd => ?_, fun hl => ?_⟩
  · rw [List.getElem?_map, Option.map_eq_some_iff] at hd
    obtain ⟨c, hc, rfl⟩ := hd
    have hc' : z.cps[i]? = some c := by simpa using hc
    have hi : i < z.cps.size := by
      rcases Nat.lt_or_ge i z.cps.size with q | q
      · exact q
      · rw [Array.getElem?_eq_none q] at hc'; cases hc'
    refine ⟨hi, fun x H' y => ?_⟩
    obtain ⟨rfl, c', h1, rfl⟩ := y
    rw [hc'] at h1; cases h1
    exact ⟨F', Ex.refl _, s, .str _⟩
  · show z.cps.size ≤ i
    simpa using hl
theorem ri_seqA {tg e : Expr} {c : EX} (h : RE T false X W e c) : RI T X W tg e (cSeqA c) := by
  obtain ⟨t, pe, f⟩ := h
  refine ⟨fun σ H R => t σ H fun x H1 => (∃ a, x = .ref a ∧ (((∃ vs, SqL X.K H1 a vs) ∧ R (Itl X.K a) H1) ∨ ((∃ vs, SqT X.K H1 a vs) ∧ R (Itt X.K a) H1))) ∨ ∃ z, x = .str z ∧ R (Its z) H1, ⟨fun pins s σ H R I h => ?_⟩, fun σ ρ F μ S H R s hE g => ?_⟩
  · refine thn (pe.run pins s σ H _ I h) ?_
    rintro v s1 ⟨x, H1, I1, r1, q1⟩
    have newest : ∀ (ob : Obj), Inv X pins σ H1 { s1 with heap := s1.heap.push ob } := fun ob => Inv.kept (t' := s1.toks) I1 fun b o q => Heap.get?_push_of_some _ q
    have foot : ∀ b ∈ [s1.heap.objs.size], FpOk X pins H1 b := fun b hb => by
      rw [List.mem_singleton] at hb
      subst hb
      exact Inv.fpOk I1 (Nat.le_refl _) (HOk.fresh I1.hok (Nat.le_refl _))
    rcases q1 with ⟨a, rfl, q1⟩ | ⟨z, rfl, q⟩
    · cases r1
      rcases q1 with ⟨⟨vs, hq⟩, q⟩ | ⟨⟨vs, hq⟩, q⟩
      · obtain ⟨its, _, pl, _⟩ := Inv.list I1 hq
        exact wpAny_pyIter_list pl.isList ⟨_, _, _, _, H1, rfl, newest _, turn_list a _, ⟨_, Heap.get?_push_size _ rfl, rfl, rfl⟩, foot, q⟩
      · obtain ⟨its, _, pt, _⟩ := Inv.tuple I1 hq
        exact wpAny_pyIter_tuple (items := its.toArray) pt ⟨_, _, _, _, H1, rfl, newest _, turn_tuple a _, ⟨_, Heap.get?_push_size _ rfl, rfl, rfl⟩, foot, q⟩
    · obtain ⟨tk, rfl⟩ := r1
      by_cases ha : z.cps.all (· < 128) = true
      · exact wpAny_pyIter_ascii ha ⟨_, _, _, _, H1, rfl, newest _, turn_str _ z tk "str_ascii_iterator" (.inl rfl), ⟨_, Heap.get?_push_size _ rfl, rfl, rfl⟩, foot, q⟩
      · exact wpAny_pyIter_wide (by simpa using ha) ⟨_, _, _, _, H1, rfl, newest _, turn_str _ z tk "str_iterator" (.inr rfl), ⟨_, Heap.get?_push_size _ rfl, rfl, rfl⟩, foot, q⟩
  · refine f σ ρ F μ S H _ s hE (GP.seq g fun d F1 μ1 H1 S1 e1 p1 s1 g1 v rv => ?_)
    split at g1
    · rename_i src hs
      have fin := GP.here g1 s1
      have other : srcOf d = some src → (∃ a, v = .ref a ∧ (((∃ vs, SqL X.K H1 a vs) ∧ R (Itl X.K a) H1) ∨ ((∃ vs, SqT X.K H1 a vs) ∧ R (Itt X.K a) H1))) := by
        intro hs
        obtain ⟨a, rfl, hh⟩ := stand s1 rv hs
        refine ⟨a, rfl, ?_⟩
        rcases hh with ⟨h1, h2⟩ | ⟨h1, h2⟩
        · exact .inl ⟨h1, fin _ (walks_l h2)⟩
        · exact .inr ⟨h1, fin _ (walks_t h2)⟩
      cases d with
      | str z =>
        cases rv
        simp only [srcOfA] at hs
        cases hs
        exact .inr ⟨z, rfl, fin _ walks_s⟩
      | _ => exact .inl (other hs)
    · exact g1.elim
abbrev cEnum : AX → IX := cEnumL
theorem ri_enum {e : Expr} {ca : AX} {p pos : Pos} {elts : List Expr} {kk : Nat} {tpos : Pos} (ha : RA T X W [e] ca) (hm : X.mg "enumerate" = none) (hg : Gl X "enumerate" := by rfl) (hs : starEach [e] X.env = [(false, eval e X.env)] := by rfl) : RI T X W (.Tuple elts kk tpos) (.Call (.Name "enumerate" p) [e] [] pos) (cEnum ca) := ri_enumL ha hm hg hs
/-! ### what is let out -/
theorem pass_blk {s : Shared} {H : Hp} {scope : Scope} {env : PySem.Env} {fp : List Addr} : ∀ σ, PassesAt (L2.CX X.prog X.w) (X.blk s H scope env fp) σ fun cls d H => WF cls d σ H := fun σ pins H s e s' I h => by
  obtain ⟨_, _, _, _, _, _, _, _, _, _, _, _, z⟩ := h
  exact z.elim
end
section
variable {P : Program} {w : World} {K : PySem.W.Frag} {mg : Str → Option Value} {base : Heap} {N : List Str} {qual : Str} {scope : Scope} {f : Addr} {cd : Value} {A : Around} {outer : List PySem.Env} {s : Shared} {H : Hp} {E : XK}
theorem pass_cx : ∀ σ, PassesAt (L2.CX P w) (cxOf (L2.CX P w) P w K mg base N qual scope f cd A outer s H E) σ fun cls d H' => E cls d H' := fun σ =>
  passAt (X := cxOf (L2.CX P w) P w K mg base N qual scope f cd A outer s H E) (W := fun cls d _ H' => E cls d H') (takes_of rfl rfl rfl rfl) σ
theorem own_cx : PassesOwn (model P w) (cxOf (L2.CX P w) P w K mg base N qual scope f cd A outer s H E).A (cxOf (L2.CX P w) P w K mg base N qual scope f cd A outer s H E).env (cxOf (L2.CX P w) P w K mg base N qual scope f cd A outer s H E).xe := passes_of rfl
theorem globInt {x : Str} {i : Int} (h : ∃ t, mg x = some (.int i t)) : GlobK K mg x (.int i) := by
  obtain ⟨t, h⟩ := h
  exact ⟨_, .int i, h, ⟨t, rfl⟩, fun F μ => .int i⟩
theorem globStr {x z : Str} (h : ∃ t, mg x = some (.str z t)) : GlobK K mg x (.str z) := by
  obtain ⟨t, h⟩ := h
  exact ⟨_, .str z, h, ⟨t, rfl⟩, fun F μ => .str z⟩
end
/-! ### == with texts of any kind -/
section
variable {X : Cx} {T : List (Addr × Str)}
def oEqS : Op2 := fun x y S => match x, y with
  | .str a, .str b => some (.ok (.bl (a == b)), S)
  | _, _ => none
def oNeS : Op2 := fun x y S => match x, y with
  | .str a, .str b => some (.ok (.bl (!(a == b))), S)
  | _, _ => none
theorem oEqS_ok : OpOk X T false rEq oEqS := by
  intro F μ S H x y v u Q er s rx ry h
  unfold oEqS at h
  split at h
  · cases rx; cases ry
    exact ⟨rfl, by rw [dec_str]; exact gp_val h s (.bl _)⟩
  · exact h.elim
theorem oNeS_ok : OpOk X T false rNe oNeS := by
  intro F μ S H x y v u Q er s rx ry h
  unfold oNeS at h
  split at h
  · cases rx; cases ry
    exact ⟨rfl, by rw [dec_str]; exact gp_val h s (.bl _)⟩
  · exact h.elim
def oEqA : Op2 := fun x y S => match oEqS x y S with
  | some r => some r
  | none => oEq x y S
def oNeA : Op2 := fun x y S => match oNeS x y S with
  | some r => some r
  | none => oNe x y S
theorem op_eqA (hu : X.A.units + 64 < cLine) : OpR X (compareOp .Eq) (fun x y H Q => rEq x y H Q ∨ rEqD X.K x y H Q) := op_eq.or (op_eqD hu)
theorem op_neA (hu : X.A.units + 64 < cLine) : OpR X (compareOp .NotEq) (fun x y H Q => rNe x y H Q ∨ rNeD X.K x y H Q) := op_ne.or (op_neD hu)
theorem oEqA_ok : OpOk X T false (fun x y H Q => rEq x y H Q ∨ rEqD X.K x y H Q) oEqA := OpOk.or oEqS_ok oEq_ok fun x y S => by
  unfold oEqA
  cases h : oEqS x y S with
  | none => exact .inr rfl
  | some r => exact .inl rfl
theorem oNeA_ok : OpOk X T false (fun x y H Q => rNe x y H Q ∨ rNeD X.K x y H Q) oNeA := OpOk.or oNeS_ok oNe_ok fun x y S => by
  unfold oNeA
  cases h : oNeS x y S with
  | none => exact .inr rfl
  | some r => exact .inl rfl
end
end PF
set_option Elab.async false
set_option linter.all false
set_option maxRecDepth 100000
set_option maxHeartbeats 4000000
/-! PF9: the plain reckoning of outcomes. -/
namespace PF
open PySem L2 Evl PySem.Spec PyProof.Rows
/-- an outcome: a value with Q, or an exception with E -/
def Pst {α : Type} (r : Out α) (Q : α → Store → Prop) (E : XV → Store → Prop) : Prop := match r with
  | none => False
  | some (.ok a, S) => Q a S
  | some (.error x, S) => E x S
abbrev NoE : XV → Store → Prop := fun _ _ => False
section
variable {α β : Type} {Q : α → Store → Prop} {E : XV → Store → Prop} {S : Store}
theorem Pst_congr {r r' : Out α} (h : r = r') : Pst r Q E = Pst r' Q E := by rw [h]
@[simp] theorem Pst_ok {a : α} : Pst (some (.ok a, S)) Q E = Q a S := rfl
@[simp] theorem Pst_err {x : XV} : Pst (some (.error x, S)) Q E = E x S := rfl
@[simp] theorem Pst_none : Pst none Q E = False := rfl
@[simp] theorem Pst_bind {r : Out β} {k : β → Store → Out α} : Pst (bindO r k) Q E = Pst r (fun a S => Pst (k a S) Q E) E := by
  unfold bindO
  split <;> rfl
@[simp] theorem Pst_stm {r : Out β} {k : β → Store → Out Fl} {ρ : PF.Env} {Q : Fl → Store → Prop} : Pst (stm ρ r k) Q E = Pst r (fun a S => Pst (k a S) Q E) (fun x S => Q (.exc x ρ) S) := by
  unfold stm
  split <;> rfl
@[simp] theorem Pst_noX {r : Out α} : Pst (noX r) Q E = Pst r Q NoE := by
  unfold noX
  split
  · rfl
  · rename_i h
    match r with
    | none => rfl
    | some (.ok a, S) => rfl
    | some (.error x, S) => exact absurd rfl (h x S)
@[simp] theorem Pst_exit {fr : Bool} {n : Nat} {r : Out Fl} {Q : D → Store → Prop} : Pst (exitF fr n r) Q E = Pst r (fun fl S => Pst (exitF fr n (some (.ok fl, S))) Q E) NoE := by
  match r with
  | none => rfl
  | some (.ok a, S) => rfl
  | some (.error x, S) => rfl
@[simp] theorem Pst_ite {c : Prop} [Decidable c] {r : Out α} : Pst (if c then r else none) Q E = (c ∧ Pst r Q E) := by
  split <;> simp_all
theorem Pst.mono {r : Out α} {Q0 : α → Store → Prop} {E0 : XV → Store → Prop} (h : Pst r Q0 E0) (hq : ∀ a S, Q0 a S → Q a S) (he : ∀ x S, E0 x S → E x S) : Pst r Q E := by
  match r, h with
  | some (.ok a, S), h => exact hq _ _ h
  | some (.error x, S), h => exact he _ _ h
theorem Pst.imp {r : Out α} {Q0 : α → Store → Prop} (h : Pst r Q0 NoE) (hq : ∀ a S, Q0 a S → Q a S) : Pst r Q E := h.mono hq fun _ _ h => h.elim
theorem Pst.eq {r : Out α} {a : α} : Pst r (fun x S' => x = a ∧ S' = S) NoE ↔ r = some (.ok a, S) := by
  match r with
  | none => exact ⟨fun h => h.elim, fun h => by cases h⟩
  | some (.ok a, S) => exact ⟨fun h => by obtain ⟨rfl, rfl⟩ := h; rfl, fun h => by cases h; exact ⟨rfl, rfl⟩⟩
  | some (.error x, S) => exact ⟨fun h => h.elim, fun h => by cases h⟩
end
theorem bindO_congr {α β : Type} {r r' : Out α} {k : α → Store → Out β} (h : r = r') : bindO r k = bindO r' k := by rw [h]
theorem stm_congr {α : Type} {ρ : PF.Env} {r r' : Out α} {k : α → Store → Out Fl} (h : r = r') : stm ρ r k = stm ρ r' k := by rw [h]
@[simp] theorem noX_ok {α : Type} {a : α} {S : Store} : noX (some (.ok a, S)) = some (.ok a, S) := rfl
/-! ### by letters -/
section
variable {ρ : PF.Env} {S : Store}
@[simp] theorem ap_var {i : Nat} : cVar i ρ S = (match ρ[i]? with | some (some d) => some (.ok d, S) | _ => none) := rfl
@[simp] theorem ap_k {d : D} : cK d ρ S = some (.ok d, S) := rfl
@[simp] theorem ap_bin {o : Op2} {a b : EX} : cBin o a b ρ S = bindO (a ρ S) fun x S => bindO (b ρ S) fun y S => o x y S := rfl
@[simp] theorem ap_un {o : D → Store → Out D} {a : EX} : cUn o a ρ S = bindO (a ρ S) fun x S => o x S := rfl
@[simp] theorem ap_nil : aNil ρ S = some (.ok [], S) := rfl
@[simp] theorem ap_cons {a : EX} {r : AX} : aCons a r ρ S = bindO (a ρ S) fun x S => bindO (r ρ S) fun xs S => some (.ok (x :: xs), S) := rfl
@[simp] theorem ap_tup {r : AX} : cTup r ρ S = bindO (r ρ S) fun xs S => if xs.length ≤ lim then some (.ok (.tup xs), S) else none := rfl
@[simp] theorem ap_lst {r : AX} : cLst r ρ S = bindO (r ρ S) fun xs S => if xs.length ≤ lim then some (.ok (.lst xs), S) else none := rfl
@[simp] theorem ap_blt {o : OpB} {r : AX} : cBlt o r ρ S = bindO (r ρ S) fun ds S => o ds S := rfl
@[simp] theorem ap_call {n : Nat} {o : OpB} {r : AX} : cCall n o r ρ S = bindO (r ρ S) fun ds S => if ds.length = n then o ds S else none := rfl
@[simp] theorem ap_callK {n m : Nat} {g : List D → List D → List D} {o : OpB} {r rk : AX} : cCallK n m g o r rk ρ S = bindO (r ρ S) fun ds S => bindO (rk ρ S) fun es S => if ds.length = n ∧ es.length = m then o (g ds es) S else none := rfl
@[simp] theorem ap_mt {o : OpM} {a : EX} {r : AX} : cMt o a r ρ S = bindO (a ρ S) fun d S => match d with
  | .loc n => bindO (r ρ S) fun ds S => o (.loc n) ds S
  | _ => none := rfl
@[simp] theorem ap_isi {t : Ty} {a : EX} : cIsi t a ρ S = bindO (a ρ S) fun x S => some (.ok (.bl (isTy x t)), S) := rfl
@[simp] theorem ap_slice {a : EX} {lo hi : OX} : cSliceA a lo hi ρ S = bindO (a ρ S) fun x S => bindO (lo ρ S) fun l S => bindO (hi ρ S) fun h S => match x with
  | .tup xs => some (.ok (.tup (cutL xs l h)), S)
  | .str z => if z.length ≤ lim then some (.ok (.str (cutS z l h)), S) else none
  | d => (match asL d S with
    | some xs => some (.ok (.lst (cutL xs l h)), S)
    | none => none) := rfl
@[simp] theorem ap_sliceL {a : EX} {lo hi : OX} : cSliceL a lo hi ρ S = bindO (a ρ S) fun x S => bindO (lo ρ S) fun l S => bindO (hi ρ S) fun h S => match asL x S with
  | some xs => some (.ok (.lst (cutL xs l h)), S)
  | none => none := rfl
@[simp] theorem ap_no : cNo ρ S = some (.ok none, S) := rfl
@[simp] theorem ap_part {c : EX} : cPart c ρ S = bindO (c ρ S) fun d S => match d with
  | .int i => some (.ok (some i), S)
  | _ => none := rfl
@[simp] theorem ap_alloc {c : EX} : cAlloc c ρ S = bindO (c ρ S) fun d S => match d with
  | .lst ds => if D.pures ds = true then some (.ok (.loc S.length), S ++ [ds]) else none
  | _ => none := rfl
variable {Q : D → Store → Prop} {E : XV → Store → Prop} {QB : Bool → Store → Prop} {QF : Fl → Store → Prop}
@[simp] theorem ap_test {c : EX} : Pst (cTest c ρ S) QB E = Pst (c ρ S) (fun d S => match d with
  | .bl b => QB b S
  | _ => False) E := by
  unfold cTest
  rw [Pst_bind]
  congr 1
  funext d S
  cases d <;> rfl
@[simp] theorem ap_band {a b : BX} : Pst (bAnd a b ρ S) QB E = Pst (a ρ S) (fun x S => (x = true → Pst (b ρ S) QB E) ∧ (x = false → QB false S)) E := by
  unfold bAnd
  rw [Pst_bind]
  congr 1
  funext d S
  cases d <;> simp
@[simp] theorem ap_bor {a b : BX} : Pst (bOr a b ρ S) QB E = Pst (a ρ S) (fun x S => (x = false → Pst (b ρ S) QB E) ∧ (x = true → QB true S)) E := by
  unfold bOr
  rw [Pst_bind]
  congr 1
  funext d S
  cases d <;> simp
@[simp] theorem ap_bnot {a : BX} : Pst (bNot a ρ S) QB E = Pst (a ρ S) (fun x S => QB (!x) S) E := by
  unfold bNot
  rw [Pst_bind]
  rfl
@[simp] theorem ap_byes : bYes ρ S = some (.ok true, S) := rfl
@[simp] theorem ap_and {a b : EX} : Pst (cAnd a b ρ S) Q E = Pst (a ρ S) (fun x S => match x with
  | .bl x => (x = true → Pst (b ρ S) Q E) ∧ (x = false → Q (.bl false) S)
  | _ => False) E := by
  unfold cAnd
  rw [Pst_bind]
  congr 1
  funext d S
  cases d <;> try rfl
  rename_i b
  cases b <;> simp
@[simp] theorem ap_or {a b : EX} : Pst (cOr a b ρ S) Q E = Pst (a ρ S) (fun x S => match x with
  | .bl x => (x = false → Pst (b ρ S) Q E) ∧ (x = true → Q (.bl true) S)
  | _ => False) E := by
  unfold cOr
  rw [Pst_bind]
  congr 1
  funext d S
  cases d <;> try rfl
  rename_i b
  cases b <;> simp
@[simp] theorem ap_not {a : EX} : Pst (cNot a ρ S) Q E = Pst (a ρ S) (fun x S => match x with
  | .bl x => Q (.bl (!x)) S
  | _ => False) E := by
  unfold cNot
  rw [Pst_bind]
  congr 1
  funext d S
  cases d <;> rfl
@[simp] theorem ap_ife {c : BX} {a b : EX} : Pst (cIfE c a b ρ S) Q E = Pst (c ρ S) (fun x S => (x = true → Pst (a ρ S) Q E) ∧ (x = false → Pst (b ρ S) Q E)) E := by
  unfold cIfE
  rw [Pst_bind]
  congr 1
  funext d S
  cases d <;> simp
@[simp] theorem ap_chain {o o' : Op2} {a b c : EX} : Pst (cChain o o' a b c ρ S) Q E = Pst (a ρ S) (fun x S => Pst (b ρ S) (fun y S => Pst (o x y S) (fun z S => match z with
  | .bl z => (z = true → Pst (c ρ S) (fun w S => Pst (o' y w S) Q E) E) ∧ (z = false → Q (.bl false) S)
  | _ => False) E) E) E := by
  unfold cChain
  simp only [Pst_bind]
  congr 1
  funext x S
  congr 1
  funext y S
  congr 1
  funext z S
  cases z <;> try rfl
  rename_i b
  cases b <;> simp
/-! statements -/
@[simp] theorem st_nil : sNil ρ S = some (.ok (.nx ρ), S) := rfl
@[simp] theorem st_brk : sBrk ρ S = some (.ok (.brk ρ), S) := rfl
@[simp] theorem st_ct : sCt ρ S = some (.ok (.ct ρ), S) := rfl
@[simp] theorem st_ret {c : EX} : sRet c ρ S = stm ρ (c ρ S) fun d S => some (.ok (.ret d), S) := rfl
@[simp] theorem st_retL {c : EX} : sRetL c ρ S = stm ρ (c ρ S) fun d S => match d with
  | .loc n => some (.ok (.ret (.loc n)), S)
  | _ => none := rfl
@[simp] theorem st_expr {c : EX} : sExpr c ρ S = stm ρ (c ρ S) fun _ S => some (.ok (.nx ρ), S) := rfl
@[simp] theorem st_set {i : Nat} {c : EX} : sSet i c ρ S = stm ρ (c ρ S) fun d S => some (.ok (.nx (ρ.set i (some d))), S) := rfl
@[simp] theorem st_par {i j : Nat} {r : AX} : sPar i j r ρ S = stm ρ (r ρ S) fun ds S => match ds with
  | [x, y] => some (.ok (.nx ((ρ.set i (some x)).set j (some y))), S)
  | _ => none := rfl
@[simp] theorem st_asg {t : TX} {c : EX} : sAsg t c ρ S = stm ρ (c ρ S) fun d S => bindO (noX (t d ρ S)) fun ρ' S => some (.ok (.nx ρ'), S) := rfl
@[simp] theorem st_stuck : sStuck ρ S = none := rfl
@[simp] theorem tg_name {i : Nat} {d : D} : tName i d ρ S = some (.ok (ρ.set i (some d)), S) := rfl
@[simp] theorem tg_tup {n : Nat} {c : TXs} {ds : List D} : tTup n c (.tup ds) ρ S = if ds.length = n then c ds ρ S else none := rfl
@[simp] theorem tg_nil : tsNil [] ρ S = some (.ok ρ, S) := rfl
@[simp] theorem tg_cons {t : TX} {r : TXs} {d : D} {ds : List D} : tsCons t r (d :: ds) ρ S = bindO (t d ρ S) fun ρ1 S => r ds ρ1 S := rfl
@[simp] theorem tg_sub {a b : EX} {d : D} : tSub a b d ρ S = bindO (noX (a ρ S)) fun o S => bindO (noX (b ρ S)) fun i S => match o, i with
  | .loc n, .int k => (match S[n]? with
    | some ds => (match ixN ds.length k with
      | some j => if d.pure = true then some (.ok ρ, S.set n (ds.set j d)) else none
      | none => none)
    | none => none)
  | _, _ => none := rfl
@[simp] theorem st_seq {a b : SX} : Pst (sSeq a b ρ S) QF E = Pst (a ρ S) (fun fl S => match fl with
  | .nx ρ' => Pst (b ρ' S) QF E
  | fl => QF fl S) E := by
  unfold sSeq
  rw [Pst_bind]
  congr 1
  funext d S
  cases d <;> rfl
@[simp] theorem st_if {c : BX} {a b : SX} : Pst (sIf c a b ρ S) QF E = Pst (c ρ S) (fun x S => (x = true → Pst (a ρ S) QF E) ∧ (x = false → Pst (b ρ S) QF E)) (fun x S => QF (.exc x ρ) S) := by
  unfold sIf
  rw [Pst_stm]
  congr 1
  funext d S
  cases d <;> simp
end
/-! ### operators on letters -/
section
variable {S : Store}
@[simp] theorem o_sub {i j : Int} : oSub (.int i) (.int j) S = some (.ok (.int (i - j)), S) := rfl
@[simp] theorem o_add {i j : Int} : oAddA (.int i) (.int j) S = some (.ok (.int (i + j)), S) := rfl
@[simp] theorem o_mul {i j : Int} : oMul (.int i) (.int j) S = if i.natAbs < 18446744073709551616 ∨ j.natAbs < 18446744073709551616 then some (.ok (.int (i * j)), S) else none := by
  simp [oMul, oI]
@[simp] theorem o_div {i j : Int} : oDiv (.int i) (.int j) S = if j ≠ 0 ∧ j.natAbs < 1073741824 then some (.ok (.int (i.fdiv j)), S) else none := by
  simp [oDiv, oI]
@[simp] theorem o_mod {i j : Int} : oMod (.int i) (.int j) S = if j ≠ 0 then some (.ok (.int (i.fmod j)), S) else none := by
  simp [oMod, oI]
@[simp] theorem o_pow {i j : Int} : oPow (.int i) (.int j) S = if 0 ≤ j ∧ j ≤ 1000 ∧ i.natAbs < 18446744073709551616 then some (.ok (.int (i ^ j.toNat)), S) else none := by
  simp [oPow, oI]
@[simp] theorem o_lt {i j : Int} : oLtA (.int i) (.int j) S = some (.ok (.bl (decide (i < j))), S) := rfl
@[simp] theorem o_le {i j : Int} : oLe (.int i) (.int j) S = some (.ok (.bl (decide (i ≤ j))), S) := rfl
@[simp] theorem o_gt {i j : Int} : oGt (.int i) (.int j) S = some (.ok (.bl (decide (j < i))), S) := rfl
@[simp] theorem o_ge {i j : Int} : oGe (.int i) (.int j) S = some (.ok (.bl (decide (j ≤ i))), S) := rfl
@[simp] theorem o_neg {i : Int} : oNeg (.int i) S = some (.ok (.int (-i)), S) := rfl
@[simp] theorem o_eq {i j : Int} : oEq (.int i) (.int j) S = some (.ok (.bl (i == j)), S) := by
  simp [oEq, told, eqOk, D.pure, D.eqv, D.py, SeqAt.shaped, PyData.canLay0, PyData.depth]
@[simp] theorem o_ne {i j : Int} : oNe (.int i) (.int j) S = some (.ok (.bl (!(i == j))), S) := by
  simp [oNe, told, eqOk, D.pure, D.eqv, D.py, SeqAt.shaped, PyData.canLay0, PyData.depth]
@[simp] theorem o_addT {xs ys : List D} : oAddA (.tup xs) (.tup ys) S = if xs.length + ys.length ≤ lim then some (.ok (.tup (xs ++ ys)), S) else none := by
  simp only [oAddA, oAdd]
  split
  · rename_i h
    split at h
    · cases h; simp [*]
    · cases h
  · rename_i h
    split at h
    · cases h
    · simp [oCat, asM, *]
@[simp] theorem o_addL {xs ys : List D} : oAddA (.lst xs) (.lst ys) S = if xs.length + ys.length ≤ lim then some (.ok (.lst (xs ++ ys)), S) else none := rfl
@[simp] theorem o_ixT {xs : List D} {i : Int} : oIx (.tup xs) (.int i) S = (match atI xs i with
  | some d => some (.ok d, S)
  | none => none) := rfl
@[simp] theorem o_ixL {xs : List D} {i : Int} : oIx (.lst xs) (.int i) S = (match atI xs i with
  | some d => some (.ok d, S)
  | none => none) := rfl
@[simp] theorem o_ixF {xs : List D} {i : Int} : oIx (.fz xs) (.int i) S = (match atI xs i with
  | some d => some (.ok d, S)
  | none => none) := rfl
@[simp] theorem o_ixC {n : Nat} {i : Int} : oIx (.loc n) (.int i) S = (match S[n]? with
  | some ds => (match atI ds i with
    | some d => some (.ok d, S)
    | none => none)
  | none => none) := by
  first | (simp only [oIx, asS, asL]; done) | (simp only [oIx, asS, asL]; rfl)
end
/-! ### built-ins on letters -/
section
variable {S : Store}
@[simp] theorem b_lenT {xs : List D} : bLen [.tup xs] S = some (.ok (.int xs.length), S) := rfl
@[simp] theorem b_lenL {xs : List D} : bLen [.lst xs] S = some (.ok (.int xs.length), S) := rfl
@[simp] theorem b_lenF {xs : List D} : bLen [.fz xs] S = some (.ok (.int xs.length), S) := rfl
@[simp] theorem b_lenC {n : Nat} : bLen [.loc n] S = (match S[n]? with
    | some xs => some (.ok (.int xs.length), S)
    | none => none) := rfl
@[simp] theorem b_abs {i : Int} : bAbs [.int i] S = some (.ok (.int (if i < 0 then -i else i)), S) := rfl
@[simp] theorem b_int {i : Int} : bInt [.int i] S = some (.ok (.int i), S) := rfl
@[simp] theorem b_min2 {i j : Int} : bMin2 [.int i, .int j] S = some (.ok (.int (if j < i then j else i)), S) := rfl
@[simp] theorem b_max2 {i j : Int} : bMax2 [.int i, .int j] S = some (.ok (.int (if i < j then j else i)), S) := rfl
@[simp] theorem b_tupleL {xs : List D} : bTuple [.lst xs] S = some (.ok (.tup xs), S) := rfl
@[simp] theorem b_tupleT {xs : List D} : bTuple [.tup xs] S = some (.ok (.tup xs), S) := rfl
@[simp] theorem b_tupleC {n : Nat} : bTuple [.loc n] S = (match S[n]? with
    | some xs => some (.ok (.tup xs), S)
    | none => none) := rfl
@[simp] theorem b_listT {xs : List D} : bList [.tup xs] S = some (.ok (.lst xs), S) := rfl
theorem intsOf_map {ns : List Int} : intsOf (ns.map D.int) = some ns := by
  induction ns with
  | nil => rfl
  | cons n ns ih => simp [intsOf, ih]
theorem blsOf_map {ns : List Bool} : blsOf (ns.map D.bl) = some ns := by
  induction ns with
  | nil => rfl
  | cons n ns ih => simp [blsOf, ih]
theorem b_all {ns : List Bool} : bAll [.lst (ns.map D.bl)] S = some (.ok (.bl (ns.all id)), S) := by
  simp [bAll, bL1, asL, blsOf_map]
theorem b_any {ns : List Bool} : bAny [.lst (ns.map D.bl)] S = some (.ok (.bl (ns.any id)), S) := by
  simp [bAny, bL1, asL, blsOf_map]
theorem b_sorted {ns : List Int} : bSorted [.lst (ns.map D.int)] S = some (.ok (.lst ((sortI ns).map D.int)), S) := by
  simp [bSorted, bL1, asL, intsOf_map]
theorem b_sum {ns : List Int} : bSum [.lst (ns.map D.int)] S = some (.ok (.int ns.sum), S) := by
  simp [bSum, bL1, asL, intsOf_map]
@[simp] theorem b_divmod {i j : Int} : bDivmod [.int i, .int j] S = if 0 < j ∧ j < 1073741824 then some (.ok (.tup [.int (i / j), .int (i % j)]), S) else none := rfl
@[simp] theorem m_append {n : Nat} {x : D} : mAppend (.loc n) [x] S = (match S[n]? with
    | some xs => if x.pure = true ∧ xs.length < lim then some (.ok .non, S.set n (xs ++ [x])) else none
    | none => none) := rfl
@[simp] theorem is_nonN {S : Store} : oIsN .non .non S = some (.ok (.bl true), S) := rfl
@[simp] theorem is_nonI {i : Int} : oIsN (.int i) .non S = some (.ok (.bl false), S) := rfl
@[simp] theorem not_nonN {S : Store} : oNotN .non .non S = some (.ok (.bl false), S) := rfl
@[simp] theorem not_nonI {i : Int} : oNotN (.int i) .non S = some (.ok (.bl true), S) := rfl
@[simp] theorem is_nonT {xs : List D} : oIsN (.tup xs) .non S = some (.ok (.bl false), S) := rfl
@[simp] theorem not_nonT {xs : List D} : oNotN (.tup xs) .non S = some (.ok (.bl true), S) := rfl
end
/-! ### a call's end -/
section
variable {fr : Bool} {n0 : Nat} {S : Store} {ρ : PF.Env}
theorem call_pst {n : Nat} {b : SX} {ds : List D} {Q : D → Store → Prop} {E : XV → Store → Prop} : Pst (callF fr n b ds S) Q E = Pst (b (startE n ds) S) (fun fl S1 => Pst (exitF fr S.length (some (.ok fl, S1))) Q E) NoE := by
  unfold callF
  rw [Pst_exit]
@[simp] theorem exit_nx : exitF false n0 (some (.ok (.nx ρ), S)) = some (.ok .non, S.take n0) := rfl
@[simp] theorem exit_int {i : Int} : exitF fr n0 (some (.ok (.ret (.int i)), S)) = some (.ok (.int i), S.take n0) := rfl
@[simp] theorem exit_bl {i : Bool} : exitF fr n0 (some (.ok (.ret (.bl i)), S)) = some (.ok (.bl i), S.take n0) := rfl
@[simp] theorem exit_non : exitF fr n0 (some (.ok (.ret .non), S)) = some (.ok .non, S.take n0) := rfl
@[simp] theorem exit_str {i : Str} : exitF fr n0 (some (.ok (.ret (.str i)), S)) = some (.ok (.str i), S.take n0) := rfl
@[simp] theorem exit_tup {ds : List D} : exitF fr n0 (some (.ok (.ret (.tup ds)), S)) = if D.pures ds = true then some (.ok (.tup ds), S.take n0) else none := rfl
@[simp] theorem exit_lst {ds : List D} : exitF fr n0 (some (.ok (.ret (.lst ds)), S)) = if D.pures ds = true then some (.ok (.lst ds), S.take n0) else none := rfl
theorem exit_pure {d : D} (h : d.pure = true) : exitF fr n0 (some (.ok (.ret d), S)) = some (.ok d, S.take n0) := by
  cases d <;> simp_all [D.pure] <;> first | rfl | skip
theorem exit_loc {n : Nat} {ds : List D} (h : n0 ≤ n) (e : S[n]? = some ds) : exitF fr n0 (some (.ok (.ret (.loc n)), S)) = some (.ok (.lst ds), S.take n0) := by
  simp only [exitF, exitD, if_neg (Nat.not_lt.mpr h), e]
end
/-! ### loops -/
section
variable {QF : Fl → Store → Prop} {E : XV → Store → Prop} {Q : D → Store → Prop} {ρ : PF.Env} {S : Store}
@[simp] theorem st_for {src : IX} {t : TX} {b : SX} : Pst (sFor src t b ρ S) QF E = Pst (src ρ S) (fun src S => match srcAt src S with
  | some ds => Pst (forGo src t b ds.length 0 ρ S) QF E
  | none => False) (fun x S => QF (.exc x ρ) S) := by
  unfold sFor
  rw [Pst_stm]
  congr 1
  funext src S
  cases srcAt src S <;> rfl
theorem for_inv {src : Src} {t : TX} {b : SX} {ds : List D} (I : Nat → PF.Env → Store → Prop) (hs : ∀ i ρ S, I i ρ S → srcAt src S = some ds)
    (step : ∀ i d ρ S, ds[i]? = some d → I i ρ S → Pst (t d ρ S) (fun ρ1 S => Pst (b ρ1 S) (fun fl S => match fl with
      | .nx ρ' => I (i + 1) ρ' S
      | .ct ρ' => I (i + 1) ρ' S
      | .brk ρ' => QF (.nx ρ') S
      | fl => QF fl S) E) NoE) (fin : ∀ ρ S, I ds.length ρ S → QF (.nx ρ) S) :
    ∀ (k i : Nat) (ρ : PF.Env) (S : Store), k + i = ds.length → I i ρ S → Pst (forGo src t b k i ρ S) QF E
  | 0, i, ρ, S, hk, hi => by
    have hi' : i = ds.length := by omega
    subst hi'
    simp only [forGo, hs _ _ _ hi, Nat.le_refl, if_true]
    exact fin _ _ hi
  | k + 1, i, ρ, S, hk, hi => by
    have h1 : i < ds.length := by omega
    have h2 : ds[i]? = some ds[i] := List.getElem?_eq_getElem h1
    simp only [forGo, hs _ _ _ hi, h2, Pst_bind, Pst_noX]
    refine (step i _ ρ S h2 hi).mono (fun ρ1 S1 h => h.mono (fun fl S2 h => ?_) fun _ _ h => h) fun _ _ h => h
    match fl, h with
    | .nx ρ', h => exact for_inv I hs step fin k (i + 1) ρ' S2 (by omega) h
    | .ct ρ', h => exact for_inv I hs step fin k (i + 1) ρ' S2 (by omega) h
    | .brk ρ', h => exact h
    | .ret d, h => exact h
    | .exc x ρ', h => exact h
theorem for_of {src : Src} {t : TX} {b : SX} {ds : List D} (I : Nat → PF.Env → Store → Prop) (h0 : I 0 ρ S) (hs : ∀ i ρ S, I i ρ S → srcAt src S = some ds)
    (step : ∀ i d ρ S, ds[i]? = some d → I i ρ S → Pst (t d ρ S) (fun ρ1 S => Pst (b ρ1 S) (fun fl S => match fl with
      | .nx ρ' => I (i + 1) ρ' S
      | .ct ρ' => I (i + 1) ρ' S
      | .brk ρ' => QF (.nx ρ') S
      | fl => QF fl S) E) NoE) (fin : ∀ ρ S, I ds.length ρ S → QF (.nx ρ) S) : Pst (forGo src t b ds.length 0 ρ S) QF E :=
  for_inv I hs step fin ds.length 0 ρ S rfl h0
@[simp] theorem src_items {ds : List D} : srcAt (.items ds) S = some ds := rfl
@[simp] theorem src_cell {n : Nat} : srcAt (.cell n) S = S[n]? := rfl
@[simp] theorem sq_tup {c : EX} : cSeqA c ρ S = bindO (c ρ S) fun d S => match srcOfA d with
  | some src => some (.ok src, S)
  | none => none := rfl
@[simp] theorem sq_range {c : AX} : cRange1 c ρ S = bindO (c ρ S) fun ds S => match ds with
  | [.int n] => if n < 1000000000 ∧ -1000000000 < n then some (.ok (.items (ranged 0 n.toNat)), S) else none
  | _ => none := rfl
@[simp] theorem sq_range2 {c : AX} : cRange2 c ρ S = bindO (c ρ S) fun ds S => match ds with
  | [.int m, .int n] => if (n < 1000000000 ∧ -1000000000 < n) ∧ (m < 1000000000 ∧ -1000000000 < m) then some (.ok (.items (ranged m (n - m).toNat)), S) else none
  | _ => none := rfl
@[simp] theorem sq_ofT {ds : List D} : srcOfA (.tup ds) = some (.items ds) := rfl
@[simp] theorem sq_ofL {ds : List D} : srcOfA (.lst ds) = some (.items ds) := rfl
@[simp] theorem sq_ofF {ds : List D} : srcOfA (.fz ds) = some (.items ds) := rfl
@[simp] theorem sq_ofC {n : Nat} : srcOfA (.loc n) = some (.cell n) := rfl
/-- a list that is made: I after i of the source's items, with what is made -/
theorem comp_inv {src : IX} {js : List Nat} {tgt : TX} {test : BX} {elt : EX} {so : Src} {S0 : Store} {ds : List D} (I : Nat → List D → Store → Prop)
    (hsrc : src ρ S = some (.ok so, S0)) (hs : ∀ i acc S1, I i acc S1 → S1.length = S0.length ∧ srcAt so (S1 ++ [acc]) = some ds) (hs0 : srcAt so S0 = some ds) (hl : ds.length ≤ lim) (h0 : I 0 [] S0)
    (step : ∀ i d acc S1, ds[i]? = some d → I i acc S1 → Pst (tgt d (wipeE ρ js) (S1 ++ [acc])) (fun ρ1 S2 => Pst (test ρ1 S2) (fun b S2 =>
      (b = true → Pst (elt ρ1 S2) (fun y S2 => ∃ S3, S2 = S3 ++ [acc] ∧ y.pure = true ∧ I (i + 1) (acc ++ [y]) S3) NoE) ∧ (b = false → ∃ S3, S2 = S3 ++ [acc] ∧ I (i + 1) acc S3)) NoE) NoE)
    (fin : ∀ acc S1, I ds.length acc S1 → Q (.lst acc) S1) : Pst (cComp src js tgt test elt ρ S) Q E := by
  unfold cComp
  rw [hsrc, bindO_ok]
  simp only [hs0, Pst_bind]
  have go : ∀ (k i : Nat) (acc : List D) (S1 : Store), k + i = ds.length → acc.length ≤ i → I i acc S1 →
      Pst (compGo so S0.length (fun d S => bindO (tgt d (wipeE ρ js) S) fun ρ1 S => bindO (test ρ1 S) fun b S => match b with
      | true => bindO (elt ρ1 S) fun y S => some (.ok (some y), S)
      | false => some (.ok none, S)) k i (S1 ++ [acc])) (fun _ S' => ∃ acc S1, S' = S1 ++ [acc] ∧ I ds.length acc S1) E := by
    intro k
    induction k with
    | zero =>
      intro i acc S1 hk ha hi
      have hi' : i = ds.length := by omega
      subst hi'
      simp only [compGo, (hs _ _ _ hi).2, Nat.le_refl, if_true, Pst_ok]
      exact ⟨acc, S1, rfl, hi⟩
    | succ k ih =>
      intro i acc S1 hk ha hi
      have h1 : i < ds.length := by omega
      have h2 : ds[i]? = some ds[i] := List.getElem?_eq_getElem h1
      simp only [compGo, (hs _ _ _ hi).2, h2, Pst_bind, Pst_noX]
      refine (step i _ acc S1 h2 hi).mono (fun ρ1 S2 h => h.mono (fun b S2 h => ?_) fun _ _ h => h) fun _ _ h => h
      match b, h with
      | false, h =>
        obtain ⟨S3, rfl, hi3⟩ := h.2 rfl
        exact ih (i + 1) acc S3 (by omega) (by omega) hi3
      | true, h =>
        rw [Pst_bind]
        refine (h.1 rfl).mono (fun y S2 h => ?_) fun _ _ h => h
        obtain ⟨S3, rfl, hp, hi3⟩ := h
        have l3 := (hs _ _ _ hi3).1
        have e1 : (S3 ++ [acc])[S0.length]? = some acc := by rw [← l3]; simp
        have e2 : (S3 ++ [acc]).set S0.length (acc ++ [y]) = S3 ++ [acc ++ [y]] := by rw [← l3]; simp
        have e3 : acc.length < lim := by omega
        simp only [Pst_ok, e1, e2, hp, e3, and_self, if_true]
        exact ih (i + 1) (acc ++ [y]) S3 (by omega) (by simp; omega) hi3
  refine (go ds.length 0 [] S0 rfl (Nat.le_refl _) h0).mono (fun _ S' h => ?_) fun _ _ h => h
  obtain ⟨acc, S1, rfl, hi⟩ := h
  have l3 := (hs _ _ _ hi).1
  have e1 : (S1 ++ [acc])[S0.length]? = some acc := by rw [← l3]; simp
  have e2 : (S1 ++ [acc]).take S0.length = S1 := by rw [← l3]; simp
  simp only [e1, e2, Pst_ok]
  exact fin acc S1 hi
/-- a list that is made of a source by a function, with nothing written -/
theorem comp_pure {src : IX} {js : List Nat} {tgt : TX} {test : BX} {elt : EX} {so : Src} {ds : List D} (g : D → Option D)
    (hsrc : src ρ S = some (.ok so, S)) (hs : srcAt so S = some ds) (hs1 : ∀ acc, srcAt so (S ++ [acc]) = some ds) (hl : ds.length ≤ lim)
    (hg : ∀ d ∈ ds, ∀ acc, Pst (tgt d (wipeE ρ js) (S ++ [acc])) (fun ρ1 S2 => Pst (test ρ1 S2) (fun b S2 =>
      (b = true → Pst (elt ρ1 S2) (fun y S2 => S2 = S ++ [acc] ∧ y.pure = true ∧ g d = some y) NoE) ∧ (b = false → S2 = S ++ [acc] ∧ g d = none)) NoE) NoE) :
    cComp src js tgt test elt ρ S = some (.ok (.lst (ds.filterMap g)), S) := by
  refine Pst.eq.mp (comp_inv (so := so) (ds := ds) (fun i acc S1 => S1 = S ∧ acc = (ds.take i).filterMap g) hsrc ?_ hs hl ⟨rfl, rfl⟩ ?_ ?_)
  · rintro i acc S1 ⟨rfl, rfl⟩
    exact ⟨rfl, hs1 _⟩
  · rintro i d acc S1 hd ⟨rfl, ha⟩
    have hm : d ∈ ds := List.mem_of_getElem? hd
    have ht : ds.take (i + 1) = ds.take i ++ [d] := by
      have h1 : i < ds.length := by
        rcases Nat.lt_or_ge i ds.length with h | h
        · exact h
        · rw [List.getElem?_eq_none h] at hd; cases hd
      rw [List.getElem?_eq_getElem h1] at hd
      cases hd
      exact List.take_succ_eq_append_getElem h1
    refine (hg d hm acc).mono (fun ρ1 S2 h => h.mono (fun b S2 h => ⟨fun hb => (h.1 hb).mono (fun y S2 h => ?_) fun _ _ h => h, fun hb => ?_⟩) fun _ _ h => h) fun _ _ h => h
    · exact ⟨S1, h.1, h.2.1, rfl, by rw [ht, List.filterMap_append, ← ha]; simp [h.2.2]⟩
    · exact ⟨S1, (h.2 hb).1, rfl, by rw [ht, List.filterMap_append, ← ha]; simp [(h.2 hb).2]⟩
  · rintro acc S1 ⟨rfl, rfl⟩
    rw [List.take_length]
    exact ⟨rfl, rfl⟩
end
end PF
set_option Elab.async false
set_option linter.all false
set_option maxRecDepth 100000
set_option maxHeartbeats 4000000
/-! PF10: one rule for each letter (printed by mk10.py). -/
namespace PF
open PySem L2 Evl PySem.Spec PyProof.Rows
theorem set_get {S : Store} {n : Nat} {x : List D} (y : List D) (h : S[n]? = some x) : (S.set n y)[n]? = some y := by
  have : n < S.length := by
    rcases Nat.lt_or_ge n S.length with h1 | h1
    · exact h1
    · rw [List.getElem?_eq_none h1] at h; cases h
  simp [this]
/-- two ways -/
def Cs (b : Bool) (A B : Prop) : Prop := (b = true → A) ∧ (b = false → B)
def slL (x : D) (l r : Option Int) (S : Store) : Out D := match asL x S with
  | some xs => some (.ok (.lst (cutL xs l r)), S)
  | none => none
def slA (x : D) (l r : Option Int) (S : Store) : Out D := match x with
  | .tup xs => some (.ok (.tup (cutL xs l r)), S)
  | .str z => if z.length ≤ lim then some (.ok (.str (cutS z l r)), S) else none
  | d => slL d l r S
def Bl (d : D) (k : Bool → Prop) : Prop := match d with
  | .bl b => k b
  | _ => False
theorem cs_dec {p : Prop} [Decidable p] {A B : Prop} (h1 : p → A) (h2 : ¬ p → B) : Cs (decide p) A B := ⟨fun h => h1 (of_decide_eq_true h), fun h => h2 (of_decide_eq_false h)⟩
theorem cs_beq {i j : Int} {A B : Prop} (h1 : i = j → A) (h2 : i ≠ j → B) : Cs (i == j) A B := ⟨fun h => h1 (eq_of_beq h), fun h => h2 (fun e => by rw [e, beq_self_eq_true] at h; cases h)⟩
theorem cs_t {A B : Prop} (h1 : A) : Cs true A B := ⟨fun _ => h1, fun h => by cases h⟩
theorem cs_f {A B : Prop} (h1 : B) : Cs false A B := ⟨fun h => (by cases h), fun _ => h1⟩
theorem cs_te {b : Bool} {A B : Prop} (e : b = true) (h1 : A) : Cs b A B := by rw [e]; exact cs_t h1
theorem cs_fe {b : Bool} {A B : Prop} (e : b = false) (h1 : B) : Cs b A B := by rw [e]; exact cs_f h1
theorem cs_not {b : Bool} {A B : Prop} (h : Cs b B A) : Cs (!b) A B := by
  cases b with
  | true => exact cs_f (h.1 rfl)
  | false => exact cs_t (h.2 rfl)
theorem bl_bl {b : Bool} {k : Bool → Prop} (h : k b) : Bl (.bl b) k := h
section
variable {α β : Type} {Q : α → Store → Prop} {E : XV → Store → Prop} {S : Store} {ρ : PF.Env}
theorem r_ok {a : α} (h : Q a S) : Pst (some (.ok a, S)) Q E := h
theorem r_eq {r : Out α} {a : α} {S1 : Store} (e : r = some (.ok a, S1)) (h : Q a S1) : Pst r Q E := by rw [e]; exact h
theorem r_ite {c : Prop} [Decidable c] {r : Out α} (hc : c) (h : Pst r Q E) : Pst (if c then r else none) Q E := by rw [if_pos hc]; exact h
theorem r_bind {r : Out β} {k : β → Store → Out α} (h : Pst r (fun a S => Pst (k a S) Q E) E) : Pst (bindO r k) Q E := by rw [Pst_bind]; exact h
theorem r_nox {r : Out α} (h : Pst r Q NoE) : Pst (noX r) Q E := by rw [Pst_noX]; exact h
theorem r_nil {Q : List D → Store → Prop} (h : Q [] S) : Pst (aNil ρ S) Q E := h
theorem r_cons {Q : List D → Store → Prop} {a : EX} {r : AX} (h : Pst (a ρ S) (fun x S => Pst (r ρ S) (fun xs S => Q (x :: xs) S) E) E) : Pst (aCons a r ρ S) Q E := by
  rw [ap_cons, Pst_bind]
  simpa only [Pst_bind, Pst_ok] using h
theorem bool_t {QB : Bool → Store → Prop} {c : EX} (h : Pst (c ρ S) (fun d S => Bl d fun b => QB b S) E) : Pst (cTest c ρ S) QB E := by
  rw [ap_test]
  exact h
theorem bool_and {QB : Bool → Store → Prop} {a b : BX} (h : Pst (a ρ S) (fun x S => Cs x (Pst (b ρ S) QB E) (QB false S)) E) : Pst (bAnd a b ρ S) QB E := by rw [ap_band]; exact h
theorem bool_or {QB : Bool → Store → Prop} {a b : BX} (h : Pst (a ρ S) (fun x S => Cs x (QB true S) (Pst (b ρ S) QB E)) E) : Pst (bOr a b ρ S) QB E := by rw [ap_bor]; exact h.mono (fun _ _ h => ⟨h.2, h.1⟩) fun _ _ h => h
theorem bool_not {QB : Bool → Store → Prop} {a : BX} (h : Pst (a ρ S) (fun x S => QB (!x) S) E) : Pst (bNot a ρ S) QB E := by rw [ap_bnot]; exact h
theorem bool_yes {QB : Bool → Store → Prop} (h : QB true S) : Pst (bYes ρ S) QB E := h
end
section
variable {Q : D → Store → Prop} {E : XV → Store → Prop} {S : Store} {ρ : PF.Env}
theorem r_k {d : D} (h : Q d S) : Pst (cK d ρ S) Q E := h
theorem r_bin {o : Op2} {a b : EX} (h : Pst (a ρ S) (fun x S => Pst (b ρ S) (fun y S => Pst (o x y S) Q E) E) E) : Pst (cBin o a b ρ S) Q E := by
  rw [ap_bin, Pst_bind]
  simpa only [Pst_bind] using h
theorem r_un {o : D → Store → Out D} {a : EX} (h : Pst (a ρ S) (fun x S => Pst (o x S) Q E) E) : Pst (cUn o a ρ S) Q E := by rw [ap_un, Pst_bind]; exact h
theorem r_tup {r : AX} (h : Pst (r ρ S) (fun xs S => xs.length ≤ lim ∧ Q (.tup xs) S) E) : Pst (cTup r ρ S) Q E := by
  rw [ap_tup, Pst_bind]
  simpa only [Pst_ite, Pst_ok] using h
theorem r_lst {r : AX} (h : Pst (r ρ S) (fun xs S => xs.length ≤ lim ∧ Q (.lst xs) S) E) : Pst (cLst r ρ S) Q E := by
  rw [ap_lst, Pst_bind]
  simpa only [Pst_ite, Pst_ok] using h
theorem r_blt {o : OpB} {r : AX} (h : Pst (r ρ S) (fun ds S => Pst (o ds S) Q E) E) : Pst (cBlt o r ρ S) Q E := by rw [ap_blt, Pst_bind]; exact h
theorem r_call {n : Nat} {o : OpB} {r : AX} (h : Pst (r ρ S) (fun ds S => ds.length = n ∧ Pst (o ds S) Q E) E) : Pst (cCall n o r ρ S) Q E := by
  rw [ap_call, Pst_bind]
  simpa only [Pst_ite] using h
theorem r_callK {n m : Nat} {g : List D → List D → List D} {o : OpB} {r rk : AX} (h : Pst (r ρ S) (fun ds S => Pst (rk ρ S) (fun es S => (ds.length = n ∧ es.length = m) ∧ Pst (o (g ds es) S) Q E) E) E) : Pst (cCallK n m g o r rk ρ S) Q E := by
  rw [ap_callK, Pst_bind]
  simpa only [Pst_bind, Pst_ite] using h
theorem r_isi {t : Ty} {a : EX} (h : Pst (a ρ S) (fun x S => Q (.bl (isTy x t)) S) E) : Pst (cIsi t a ρ S) Q E := by
  rw [ap_isi, Pst_bind]
  exact h
theorem r_mt {o : OpM} {a : EX} {r : AX} (h : Pst (a ρ S) (fun d S => ∃ n, d = .loc n ∧ Pst (r ρ S) (fun ds S => Pst (o (.loc n) ds S) Q E) E) E) : Pst (cMt o a r ρ S) Q E := by
  rw [ap_mt, Pst_bind]
  refine h.mono (fun d S h => ?_) fun _ _ h => h
  obtain ⟨n, rfl, h⟩ := h
  simpa only [Pst_bind] using h
theorem r_and {a b : EX} (h : Pst (a ρ S) (fun x S => Bl x fun x => Cs x (Pst (b ρ S) Q E) (Q (.bl false) S)) E) : Pst (cAnd a b ρ S) Q E := by
  rw [ap_and]
  exact h
theorem r_or {a b : EX} (h : Pst (a ρ S) (fun x S => Bl x fun x => Cs x (Q (.bl true) S) (Pst (b ρ S) Q E)) E) : Pst (cOr a b ρ S) Q E := by
  rw [ap_or]
  refine h.mono (fun d S h => ?_) fun _ _ h => h
  cases d <;> first | exact h.elim | exact ⟨h.2, h.1⟩
theorem r_not {a : EX} (h : Pst (a ρ S) (fun x S => Bl x fun x => Q (.bl (!x)) S) E) : Pst (cNot a ρ S) Q E := by
  rw [ap_not]
  exact h
theorem r_ife {c : BX} {a b : EX} (h : Pst (c ρ S) (fun x S => Cs x (Pst (a ρ S) Q E) (Pst (b ρ S) Q E)) E) : Pst (cIfE c a b ρ S) Q E := by rw [ap_ife]; exact h
theorem r_chain {o o' : Op2} {a b c : EX} (h : Pst (a ρ S) (fun x S => Pst (b ρ S) (fun y S => Pst (o x y S) (fun z S => Bl z fun z => Cs z (Pst (c ρ S) (fun w S => Pst (o' y w S) Q E) E) (Q (.bl false) S)) E) E) E) : Pst (cChain o o' a b c ρ S) Q E := by
  rw [ap_chain]
  exact h
theorem r_alloc {c : EX} (h : Pst (c ρ S) (fun d S => ∃ ds, d = .lst ds ∧ D.pures ds = true ∧ ∀ m S', m = S.length → S' = S ++ [ds] → S'[m]? = some ds → Q (.loc m) S') E) : Pst (cAlloc c ρ S) Q E := by
  rw [ap_alloc, Pst_bind]
  refine h.mono (fun d S h => ?_) fun _ _ h => h
  obtain ⟨ds, rfl, hp, h⟩ := h
  simp only [hp, if_true, Pst_ok]
  exact h _ _ rfl rfl (by simp)
theorem r_sliceA {a : EX} {lo hi : OX} (h : Pst (a ρ S) (fun x S => Pst (lo ρ S) (fun l S => Pst (hi ρ S) (fun r S => Pst (slA x l r S) Q E) E) E) E) : Pst (cSliceA a lo hi ρ S) Q E := by
  have e : cSliceA a lo hi ρ S = bindO (a ρ S) fun x S => bindO (lo ρ S) fun l S => bindO (hi ρ S) fun r S => slA x l r S := rfl
  rw [e]
  simpa only [Pst_bind] using h
theorem r_sliceL {a : EX} {lo hi : OX} (h : Pst (a ρ S) (fun x S => Pst (lo ρ S) (fun l S => Pst (hi ρ S) (fun r S => Pst (slL x l r S) Q E) E) E) E) : Pst (cSliceL a lo hi ρ S) Q E := by
  have e : cSliceL a lo hi ρ S = bindO (a ρ S) fun x S => bindO (lo ρ S) fun l S => bindO (hi ρ S) fun r S => slL x l r S := rfl
  rw [e]
  simpa only [Pst_bind] using h
theorem r_no {Q : Option Int → Store → Prop} (h : Q none S) : Pst (cNo ρ S) Q E := h
theorem r_part {Q : Option Int → Store → Prop} {c : EX} (h : Pst (c ρ S) (fun d S => ∃ i, d = .int i ∧ Q (some i) S) E) : Pst (cPart c ρ S) Q E := by
  rw [ap_part, Pst_bind]
  refine h.mono (fun d S h => ?_) fun _ _ h => h
  obtain ⟨i, rfl, h⟩ := h
  exact h
theorem r_scope {c : EX} (h : Pst (c ρ S) (fun d S1 => d.pure = true ∧ Q d (S1.take S.length)) NoE) : Pst (cScope c ρ S) Q E := by
  unfold cScope
  match hc : c ρ S with
  | none => rw [hc] at h; exact h.elim
  | some (.error x, S1) => rw [hc] at h; exact h.elim
  | some (.ok d, S1) =>
    rw [hc] at h
    simp only [Pst_ok] at h
    simp only [h.1, if_true, Pst_ok]
    exact h.2
end
theorem cs_pick {b : Bool} {x y : D} {c1 c2 : EX} {ρ : PF.Env} {S : Store} {Q : D → Store → Prop} {E : XV → Store → Prop} (P : D → Prop) (e1 : c1 ρ S = some (.ok x, S)) (e2 : c2 ρ S = some (.ok y, S)) (hp : P (if b = true then x else y)) (k : ∀ z, P z → Q z S) : Cs b (Pst (c1 ρ S) Q E) (Pst (c2 ρ S) Q E) := by
  rw [e1, e2]
  cases b with
  | true => exact cs_t (k _ hp)
  | false => exact cs_f (k _ hp)
/-! ### statements -/
section
variable {Q : Fl → Store → Prop} {E : XV → Store → Prop} {S : Store} {ρ : PF.Env}
def Nx (fl : Fl) (S : Store) (Q : Fl → Store → Prop) (k : PF.Env → Prop) : Prop := match fl with
  | .nx ρ => k ρ
  | fl => Q fl S
theorem nx_nx {k : PF.Env → Prop} (h : k ρ) : Nx (.nx ρ) S Q k := h
theorem nx_ret {k : PF.Env → Prop} {d : D} (h : Q (.ret d) S) : Nx (.ret d) S Q k := h
theorem nx_exc {k : PF.Env → Prop} {x : XV} (h : Q (.exc x ρ) S) : Nx (.exc x ρ) S Q k := h
theorem nx_brk {k : PF.Env → Prop} (h : Q (.brk ρ) S) : Nx (.brk ρ) S Q k := h
theorem nx_ct {k : PF.Env → Prop} (h : Q (.ct ρ) S) : Nx (.ct ρ) S Q k := h
theorem s_nil (h : Q (.nx ρ) S) : Pst (sNil ρ S) Q E := h
theorem s_brk (h : Q (.brk ρ) S) : Pst (sBrk ρ S) Q E := h
theorem s_ct (h : Q (.ct ρ) S) : Pst (sCt ρ S) Q E := h
theorem s_seq {a b : SX} (h : Pst (a ρ S) (fun fl S => Nx fl S Q fun ρ' => Pst (b ρ' S) Q E) E) : Pst (sSeq a b ρ S) Q E := by rw [st_seq]; exact h
theorem s_if {c : BX} {a b : SX} (h : Pst (c ρ S) (fun x S => Cs x (Pst (a ρ S) Q E) (Pst (b ρ S) Q E)) (fun x S => Q (.exc x ρ) S)) : Pst (sIf c a b ρ S) Q E := by rw [st_if]; exact h
theorem s_ret {c : EX} (h : Pst (c ρ S) (fun d S => Q (.ret d) S) (fun x S => Q (.exc x ρ) S)) : Pst (sRet c ρ S) Q E := by rw [st_ret, Pst_stm]; exact h
theorem s_retL {c : EX} (h : Pst (c ρ S) (fun d S => ∃ n, d = .loc n ∧ Q (.ret (.loc n)) S) (fun x S => Q (.exc x ρ) S)) : Pst (sRetL c ρ S) Q E := by
  rw [st_retL, Pst_stm]
  refine h.mono (fun d S h => ?_) fun _ _ h => h
  obtain ⟨n, rfl, h⟩ := h
  exact h
theorem s_expr {c : EX} (h : Pst (c ρ S) (fun _ S => Q (.nx ρ) S) (fun x S => Q (.exc x ρ) S)) : Pst (sExpr c ρ S) Q E := by rw [st_expr, Pst_stm]; exact h
theorem s_set {i : Nat} {c : EX} (h : Pst (c ρ S) (fun d S => Q (.nx (ρ.set i (some d))) S) (fun x S => Q (.exc x ρ) S)) : Pst (sSet i c ρ S) Q E := by rw [st_set, Pst_stm]; exact h
theorem s_asg {t : TX} {c : EX} (h : Pst (c ρ S) (fun d S => Pst (t d ρ S) (fun ρ' S => Q (.nx ρ') S) NoE) (fun x S => Q (.exc x ρ) S)) : Pst (sAsg t c ρ S) Q E := by
  rw [st_asg, Pst_stm]
  simpa only [Pst_bind, Pst_noX, Pst_ok] using h
theorem s_par {i j : Nat} {r : AX} (h : Pst (r ρ S) (fun ds S => ∃ x y, ds = [x, y] ∧ Pst (tName i x ρ S) (fun ρ1 S => Pst (tName j y ρ1 S) (fun ρ2 S => Q (.nx ρ2) S) NoE) NoE) (fun x S => Q (.exc x ρ) S)) : Pst (sPar i j r ρ S) Q E := by
  rw [st_par, Pst_stm]
  refine h.mono (fun d S h => ?_) fun _ _ h => h
  obtain ⟨x, y, rfl, h⟩ := h
  exact h
theorem s_for {src : IX} {t : TX} {b : SX} (h : Pst (src ρ S) (fun src S => ∃ ds, srcAt src S = some ds ∧ Pst (forGo src t b ds.length 0 ρ S) Q E) (fun x S => Q (.exc x ρ) S)) : Pst (sFor src t b ρ S) Q E := by
  rw [st_for]
  refine h.mono (fun d S h => ?_) fun _ _ h => h
  obtain ⟨ds, e, h⟩ := h
  rw [e]
  exact h
theorem t_name {Q : PF.Env → Store → Prop} {i : Nat} {d : D} (h : Q (ρ.set i (some d)) S) : Pst (tName i d ρ S) Q E := h
theorem t_tup {Q : PF.Env → Store → Prop} {n : Nat} {c : TXs} {ds : List D} (e : ds.length = n) (h : Pst (c ds ρ S) Q E) : Pst (tTup n c (.tup ds) ρ S) Q E := by rw [tg_tup, if_pos e]; exact h
theorem t_nil {Q : PF.Env → Store → Prop} (h : Q ρ S) : Pst (tsNil [] ρ S) Q E := h
theorem t_cons {Q : PF.Env → Store → Prop} {t : TX} {r : TXs} {d : D} {ds : List D} (h : Pst (t d ρ S) (fun ρ1 S => Pst (r ds ρ1 S) Q E) E) : Pst (tsCons t r (d :: ds) ρ S) Q E := by rw [tg_cons, Pst_bind]; exact h
/-- a place of a list of the store is written -/
def Put (S : Store) (n : Nat) (k : Int) (d : D) (Q : Store → Prop) : Prop := ∃ ds j, S[n]? = some ds ∧ ixN ds.length k = some j ∧ d.pure = true ∧ Q (S.set n (ds.set j d))
theorem t_sub {Q : PF.Env → Store → Prop} {a b : EX} {d : D} (h : Pst (a ρ S) (fun o S => Pst (b ρ S) (fun i S => ∃ n k, o = .loc n ∧ i = .int k ∧ Put S n k d fun S' => Q ρ S') NoE) NoE) : Pst (tSub a b d ρ S) Q E := by
  rw [tg_sub, Pst_bind, Pst_noX]
  refine h.mono (fun o S h => ?_) fun _ _ h => h.elim
  rw [Pst_bind, Pst_noX]
  refine h.mono (fun i S h => ?_) fun _ _ h => h.elim
  obtain ⟨n, k, rfl, rfl, ds, j, e1, e2, e3, h⟩ := h
  simp only [e1, e2, e3, if_true, Pst_ok]
  exact h
theorem put0 {n : Nat} {d a b c : D} {Q : Store → Prop} (e : S[n]? = some [a, b, c]) (p : d.pure = true) (h : (S.set n [d, b, c])[n]? = some [d, b, c] → Q (S.set n [d, b, c])) : Put S n 0 d Q := ⟨_, 0, e, rfl, p, h (set_get _ e)⟩
theorem put1 {n : Nat} {d a b c : D} {Q : Store → Prop} (e : S[n]? = some [a, b, c]) (p : d.pure = true) (h : (S.set n [a, d, c])[n]? = some [a, d, c] → Q (S.set n [a, d, c])) : Put S n 1 d Q := ⟨_, 1, e, rfl, p, h (set_get _ e)⟩
theorem put2 {n : Nat} {d a b c : D} {Q : Store → Prop} (e : S[n]? = some [a, b, c]) (p : d.pure = true) (h : (S.set n [a, b, d])[n]? = some [a, b, d] → Q (S.set n [a, b, d])) : Put S n 2 d Q := ⟨_, 2, e, rfl, p, h (set_get _ e)⟩
theorem q_seq {Q : Src → Store → Prop} {c : EX} (h : Pst (c ρ S) (fun d S => ∃ src, srcOfA d = some src ∧ Q src S) E) : Pst (cSeqA c ρ S) Q E := by
  rw [sq_tup, Pst_bind]
  refine h.mono (fun d S h => ?_) fun _ _ h => h
  obtain ⟨src, e, h⟩ := h
  rw [e]
  exact h
theorem q_range {Q : Src → Store → Prop} {c : AX} (h : Pst (c ρ S) (fun ds S => ∃ n, ds = [.int n] ∧ (n < 1000000000 ∧ -1000000000 < n) ∧ Q (.items (ranged 0 n.toNat)) S) E) : Pst (cRange1 c ρ S) Q E := by
  rw [sq_range, Pst_bind]
  refine h.mono (fun d S h => ?_) fun _ _ h => h
  obtain ⟨n, rfl, e, h⟩ := h
  simp only [e, and_self, if_true, Pst_ok]
  exact h
theorem q_range2 {Q : Src → Store → Prop} {c : AX} (h : Pst (c ρ S) (fun ds S => ∃ m n, ds = [.int m, .int n] ∧ ((n < 1000000000 ∧ -1000000000 < n) ∧ (m < 1000000000 ∧ -1000000000 < m)) ∧ Q (.items (ranged m (n - m).toNat)) S) E) : Pst (cRange2 c ρ S) Q E := by
  rw [sq_range2, Pst_bind]
  refine h.mono (fun d S h => ?_) fun _ _ h => h
  obtain ⟨m, n, rfl, e, h⟩ := h
  simp only [e, and_self, if_true, Pst_ok]
  exact h
end
/-! ### operators -/
section
variable {Q : D → Store → Prop} {E : XV → Store → Prop} {S : Store} {i j : Int}
theorem o1_sub (h : Q (.int (i - j)) S) : Pst (oSub (.int i) (.int j) S) Q E := h
theorem o1_add (h : Q (.int (i + j)) S) : Pst (oAddA (.int i) (.int j) S) Q E := h
theorem o1_mul (c : (-18446744073709551616 < i ∧ i < 18446744073709551616) ∨ (-18446744073709551616 < j ∧ j < 18446744073709551616)) (h : Q (.int (i * j)) S) : Pst (oMul (.int i) (.int j) S) Q E := by
  rw [o_mul, Pst_ite]
  exact ⟨by omega, h⟩
theorem o1_div (c : 0 < j ∧ j < 1073741824) (h : Q (.int (i / j)) S) : Pst (oDiv (.int i) (.int j) S) Q E := by
  rw [o_div, Pst_ite]
  exact ⟨by omega, by rw [Int.fdiv_eq_ediv_of_nonneg _ (by omega)]; exact h⟩
theorem o1_mod (c : 0 < j) (h : Q (.int (i % j)) S) : Pst (oMod (.int i) (.int j) S) Q E := by
  rw [o_mod, Pst_ite]
  exact ⟨by omega, by rw [Int.fmod_eq_emod_of_nonneg _ (by omega)]; exact h⟩
theorem o1_lt (h : Q (.bl (decide (i < j))) S) : Pst (oLtA (.int i) (.int j) S) Q E := h
theorem o1_le (h : Q (.bl (decide (i ≤ j))) S) : Pst (oLe (.int i) (.int j) S) Q E := h
theorem o1_gt (h : Q (.bl (decide (j < i))) S) : Pst (oGt (.int i) (.int j) S) Q E := h
theorem o1_ge (h : Q (.bl (decide (j ≤ i))) S) : Pst (oGe (.int i) (.int j) S) Q E := h
theorem o1_neg (h : Q (.int (-i)) S) : Pst (oNeg (.int i) S) Q E := h
theorem o1_eq (h : Q (.bl (i == j)) S) : Pst (oEq (.int i) (.int j) S) Q E := by rw [o_eq]; exact h
theorem o1_ne (h : Q (.bl (!(i == j))) S) : Pst (oNe (.int i) (.int j) S) Q E := by rw [o_ne]; exact h
def D.isN : D → Bool
  | .non => true
  | _ => false
theorem o1_eqA (h : Q (.bl (i == j)) S) : Pst (oEqA (.int i) (.int j) S) Q E := by unfold oEqA oEqS; rw [o_eq]; exact h
theorem o1_neA (h : Q (.bl (!(i == j))) S) : Pst (oNeA (.int i) (.int j) S) Q E := by unfold oNeA oNeS; rw [o_ne]; exact h
theorem o1_eqS {a b : Str} (h : Q (.bl (a == b)) S) : Pst (oEqA (.str a) (.str b) S) Q E := h
theorem o1_isN {x : D} (h : Q (.bl x.isN) S) : Pst (oIsN x .non S) Q E := by cases x <;> exact h
theorem o1_notN {x : D} (h : Q (.bl (!x.isN)) S) : Pst (oNotN x .non S) Q E := by cases x <;> exact h
theorem o1_addT {xs ys : List D} (h : xs.length + ys.length ≤ lim ∧ Q (.tup (xs ++ ys)) S) : Pst (oAddA (.tup xs) (.tup ys) S) Q E := by
  rw [o_addT, Pst_ite]
  exact h
theorem o1_addL {xs ys : List D} (h : xs.length + ys.length ≤ lim ∧ Q (.lst (xs ++ ys)) S) : Pst (oAddA (.lst xs) (.lst ys) S) Q E := by
  rw [o_addL, Pst_ite]
  exact h
theorem o1_ix {x : D} (h : ∃ ds d, asS x S = some ds ∧ atI ds i = some d ∧ Q d S) : Pst (oIx x (.int i) S) Q E := by
  obtain ⟨ds, d, e, e2, h⟩ := h
  unfold oIx
  cases x <;> first | (cases e; done) | skip
  all_goals simp only [e, e2]
  all_goals exact h
theorem b1_len {x : D} (h : ∃ ds, asS x S = some ds ∧ Q (.int ds.length) S) : Pst (bLen [x] S) Q E := by
  obtain ⟨ds, e, h⟩ := h
  unfold bLen
  cases x <;> first | (cases e; done) | skip
  all_goals simp only [e]
  all_goals exact h
theorem o1_cat {x y : D} (h : ∃ xs ys, asM x S = some xs ∧ asM y S = some ys ∧ xs.length + ys.length ≤ lim ∧ Q (.lst (xs ++ ys)) S) : Pst (oCat x y S) Q E := by
  obtain ⟨xs, ys, e1, e2, c, h⟩ := h
  simp only [oCat, e1, e2, c, if_true]; exact h
theorem b1_abs (h : Q (.int (if i < 0 then -i else i)) S) : Pst (bAbs [.int i] S) Q E := h
theorem b1_int (h : Q (.int i) S) : Pst (bInt [.int i] S) Q E := h
theorem b1_min2 (h : Q (.int (min i j)) S) : Pst (bMin2 [.int i, .int j] S) Q E := by
  rw [b_min2]
  have e : (if j < i then j else i) = min i j := by split <;> omega
  rw [e]; exact h
theorem b1_max2 (h : Q (.int (max i j)) S) : Pst (bMax2 [.int i, .int j] S) Q E := by
  rw [b_max2]
  have e : (if i < j then j else i) = max i j := by split <;> omega
  rw [e]; exact h
theorem b1_divmod (c : 0 < j ∧ j < 1073741824) (h : Q (.tup [.int (i / j), .int (i % j)]) S) : Pst (bDivmod [.int i, .int j] S) Q E := by
  rw [b_divmod, Pst_ite]
  exact ⟨c, h⟩
theorem b1_tuple {x : D} (h : ∃ ds, asS x S = some ds ∧ Q (.tup ds) S) : Pst (bTuple [x] S) Q E := by
  obtain ⟨ds, e, h⟩ := h
  simp only [bTuple, e]; exact h
theorem b1_list {x : D} (h : ∃ ds, asS x S = some ds ∧ Q (.lst ds) S) : Pst (bList [x] S) Q E := by
  obtain ⟨ds, e, h⟩ := h
  simp only [bList, e]; exact h
theorem b1_sorted {ns : List Int} (h : Q (.lst ((sortI ns).map D.int)) S) : Pst (bSorted [.lst (ns.map D.int)] S) Q E := by rw [b_sorted]; exact h
theorem b1_sum {ns : List Int} (h : Q (.int ns.sum) S) : Pst (bSum [.lst (ns.map D.int)] S) Q E := by rw [b_sum]; exact h
theorem m1_append {n : Nat} {x : D} (h : ∃ xs, S[n]? = some xs ∧ (x.pure = true ∧ xs.length < lim) ∧ ((S.set n (xs ++ [x]))[n]? = some (xs ++ [x]) → Q .non (S.set n (xs ++ [x])))) : Pst (mAppend (.loc n) [x] S) Q E := by
  obtain ⟨xs, e, c, h⟩ := h
  rw [m_append]
  simp only [e, c, and_self, if_true]; exact h (set_get _ e)
end
section
variable {Q : D → Store → Prop} {E : XV → Store → Prop} {S : Store} {ρ : PF.Env}
theorem x_bl {fr : Bool} {n : Nat} {b : Bool} (h : Q (.bl b) (S.take n)) : Pst (exitF fr n (some (.ok (.ret (.bl b)), S))) Q E := h
theorem x_int {fr : Bool} {n : Nat} {b : Int} (h : Q (.int b) (S.take n)) : Pst (exitF fr n (some (.ok (.ret (.int b)), S))) Q E := h
theorem x_str {fr : Bool} {n : Nat} {b : Str} (h : Q (.str b) (S.take n)) : Pst (exitF fr n (some (.ok (.ret (.str b)), S))) Q E := h
theorem x_non {fr : Bool} {n : Nat} (h : Q .non (S.take n)) : Pst (exitF fr n (some (.ok (.ret .non), S))) Q E := h
theorem x_nx {n : Nat} (h : Q .non (S.take n)) : Pst (exitF false n (some (.ok (.nx ρ), S))) Q E := h
theorem x_tup {fr : Bool} {n : Nat} {ds : List D} (h : D.pures ds = true ∧ Q (.tup ds) (S.take n)) : Pst (exitF fr n (some (.ok (.ret (.tup ds)), S))) Q E := by
  rw [exit_tup, Pst_ite]; exact h
theorem x_lst {fr : Bool} {n : Nat} {ds : List D} (h : D.pures ds = true ∧ Q (.lst ds) (S.take n)) : Pst (exitF fr n (some (.ok (.ret (.lst ds)), S))) Q E := by
  rw [exit_lst, Pst_ite]; exact h
theorem sl_tup {xs : List D} {l r : Option Int} (h : Q (.tup (cutL xs l r)) S) : Pst (slA (.tup xs) l r S) Q E := h
theorem sl_lst {xs : List D} {l r : Option Int} (h : Q (.lst (cutL xs l r)) S) : Pst (slA (.lst xs) l r S) Q E := h
theorem sl_fz {xs : List D} {l r : Option Int} (h : Q (.lst (cutL xs l r)) S) : Pst (slA (.fz xs) l r S) Q E := h
theorem sL_lst {xs : List D} {l r : Option Int} (h : Q (.lst (cutL xs l r)) S) : Pst (slL (.lst xs) l r S) Q E := h
theorem sL_fz {xs : List D} {l r : Option Int} (h : Q (.lst (cutL xs l r)) S) : Pst (slL (.fz xs) l r S) Q E := h

theorem o_pow10_1 (h : Q (.int 10) S) : Pst (oPow (.int 10) (.int 1) S) Q E := by rw [o_pow, Pst_ite]; exact ⟨by decide, h⟩
theorem o_pow10_2 (h : Q (.int 100) S) : Pst (oPow (.int 10) (.int 2) S) Q E := by rw [o_pow, Pst_ite]; exact ⟨by decide, h⟩
theorem o_pow10_3 (h : Q (.int 1000) S) : Pst (oPow (.int 10) (.int 3) S) Q E := by rw [o_pow, Pst_ite]; exact ⟨by decide, h⟩
theorem o_pow10_4 (h : Q (.int 10000) S) : Pst (oPow (.int 10) (.int 4) S) Q E := by rw [o_pow, Pst_ite]; exact ⟨by decide, h⟩
theorem o_pow10_5 (h : Q (.int 100000) S) : Pst (oPow (.int 10) (.int 5) S) Q E := by rw [o_pow, Pst_ite]; exact ⟨by decide, h⟩
theorem o_pow10_6 (h : Q (.int 1000000) S) : Pst (oPow (.int 10) (.int 6) S) Q E := by rw [o_pow, Pst_ite]; exact ⟨by decide, h⟩
theorem o_pow10_7 (h : Q (.int 10000000) S) : Pst (oPow (.int 10) (.int 7) S) Q E := by rw [o_pow, Pst_ite]; exact ⟨by decide, h⟩
theorem o_pow10_8 (h : Q (.int 100000000) S) : Pst (oPow (.int 10) (.int 8) S) Q E := by rw [o_pow, Pst_ite]; exact ⟨by decide, h⟩
theorem o_pow10_9 (h : Q (.int 1000000000) S) : Pst (oPow (.int 10) (.int 9) S) Q E := by rw [o_pow, Pst_ite]; exact ⟨by decide, h⟩
theorem o_pow10_10 (h : Q (.int 10000000000) S) : Pst (oPow (.int 10) (.int 10) S) Q E := by rw [o_pow, Pst_ite]; exact ⟨by decide, h⟩
theorem o_pow10_11 (h : Q (.int 100000000000) S) : Pst (oPow (.int 10) (.int 11) S) Q E := by rw [o_pow, Pst_ite]; exact ⟨by decide, h⟩
theorem o_pow10_12 (h : Q (.int 1000000000000) S) : Pst (oPow (.int 10) (.int 12) S) Q E := by rw [o_pow, Pst_ite]; exact ⟨by decide, h⟩
theorem o_pow10_13 (h : Q (.int 10000000000000) S) : Pst (oPow (.int 10) (.int 13) S) Q E := by rw [o_pow, Pst_ite]; exact ⟨by decide, h⟩
theorem o_pow10_14 (h : Q (.int 100000000000000) S) : Pst (oPow (.int 10) (.int 14) S) Q E := by rw [o_pow, Pst_ite]; exact ⟨by decide, h⟩
theorem o_pow10_15 (h : Q (.int 1000000000000000) S) : Pst (oPow (.int 10) (.int 15) S) Q E := by rw [o_pow, Pst_ite]; exact ⟨by decide, h⟩
theorem o_pow10_16 (h : Q (.int 10000000000000000) S) : Pst (oPow (.int 10) (.int 16) S) Q E := by rw [o_pow, Pst_ite]; exact ⟨by decide, h⟩
theorem o_pow10_17 (h : Q (.int 100000000000000000) S) : Pst (oPow (.int 10) (.int 17) S) Q E := by rw [o_pow, Pst_ite]; exact ⟨by decide, h⟩
theorem o_pow10_18 (h : Q (.int 1000000000000000000) S) : Pst (oPow (.int 10) (.int 18) S) Q E := by rw [o_pow, Pst_ite]; exact ⟨by decide, h⟩
theorem o_pow10_20 (h : Q (.int 100000000000000000000) S) : Pst (oPow (.int 10) (.int 20) S) Q E := by rw [o_pow, Pst_ite]; exact ⟨by decide, h⟩
theorem o_pow10_30 (h : Q (.int 1000000000000000000000000000000) S) : Pst (oPow (.int 10) (.int 30) S) Q E := by rw [o_pow, Pst_ite]; exact ⟨by decide, h⟩
theorem v0  {d : D} (h : Q d S) : Pst (cVar 0 (some d :: ρ) S) Q E := h
theorem v1 {x0 : Option D} {d : D} (h : Q d S) : Pst (cVar 1 (x0 :: some d :: ρ) S) Q E := h
theorem v2 {x0 : Option D} {x1 : Option D} {d : D} (h : Q d S) : Pst (cVar 2 (x0 :: x1 :: some d :: ρ) S) Q E := h
theorem v3 {x0 : Option D} {x1 : Option D} {x2 : Option D} {d : D} (h : Q d S) : Pst (cVar 3 (x0 :: x1 :: x2 :: some d :: ρ) S) Q E := h
theorem v4 {x0 : Option D} {x1 : Option D} {x2 : Option D} {x3 : Option D} {d : D} (h : Q d S) : Pst (cVar 4 (x0 :: x1 :: x2 :: x3 :: some d :: ρ) S) Q E := h
theorem v5 {x0 : Option D} {x1 : Option D} {x2 : Option D} {x3 : Option D} {x4 : Option D} {d : D} (h : Q d S) : Pst (cVar 5 (x0 :: x1 :: x2 :: x3 :: x4 :: some d :: ρ) S) Q E := h
theorem v6 {x0 : Option D} {x1 : Option D} {x2 : Option D} {x3 : Option D} {x4 : Option D} {x5 : Option D} {d : D} (h : Q d S) : Pst (cVar 6 (x0 :: x1 :: x2 :: x3 :: x4 :: x5 :: some d :: ρ) S) Q E := h
theorem v7 {x0 : Option D} {x1 : Option D} {x2 : Option D} {x3 : Option D} {x4 : Option D} {x5 : Option D} {x6 : Option D} {d : D} (h : Q d S) : Pst (cVar 7 (x0 :: x1 :: x2 :: x3 :: x4 :: x5 :: x6 :: some d :: ρ) S) Q E := h
theorem v8 {x0 : Option D} {x1 : Option D} {x2 : Option D} {x3 : Option D} {x4 : Option D} {x5 : Option D} {x6 : Option D} {x7 : Option D} {d : D} (h : Q d S) : Pst (cVar 8 (x0 :: x1 :: x2 :: x3 :: x4 :: x5 :: x6 :: x7 :: some d :: ρ) S) Q E := h
theorem v9 {x0 : Option D} {x1 : Option D} {x2 : Option D} {x3 : Option D} {x4 : Option D} {x5 : Option D} {x6 : Option D} {x7 : Option D} {x8 : Option D} {d : D} (h : Q d S) : Pst (cVar 9 (x0 :: x1 :: x2 :: x3 :: x4 :: x5 :: x6 :: x7 :: x8 :: some d :: ρ) S) Q E := h
theorem v10 {x0 : Option D} {x1 : Option D} {x2 : Option D} {x3 : Option D} {x4 : Option D} {x5 : Option D} {x6 : Option D} {x7 : Option D} {x8 : Option D} {x9 : Option D} {d : D} (h : Q d S) : Pst (cVar 10 (x0 :: x1 :: x2 :: x3 :: x4 :: x5 :: x6 :: x7 :: x8 :: x9 :: some d :: ρ) S) Q E := h
theorem v11 {x0 : Option D} {x1 : Option D} {x2 : Option D} {x3 : Option D} {x4 : Option D} {x5 : Option D} {x6 : Option D} {x7 : Option D} {x8 : Option D} {x9 : Option D} {x10 : Option D} {d : D} (h : Q d S) : Pst (cVar 11 (x0 :: x1 :: x2 :: x3 :: x4 :: x5 :: x6 :: x7 :: x8 :: x9 :: x10 :: some d :: ρ) S) Q E := h
theorem v12 {x0 : Option D} {x1 : Option D} {x2 : Option D} {x3 : Option D} {x4 : Option D} {x5 : Option D} {x6 : Option D} {x7 : Option D} {x8 : Option D} {x9 : Option D} {x10 : Option D} {x11 : Option D} {d : D} (h : Q d S) : Pst (cVar 12 (x0 :: x1 :: x2 :: x3 :: x4 :: x5 :: x6 :: x7 :: x8 :: x9 :: x10 :: x11 :: some d :: ρ) S) Q E := h
theorem v13 {x0 : Option D} {x1 : Option D} {x2 : Option D} {x3 : Option D} {x4 : Option D} {x5 : Option D} {x6 : Option D} {x7 : Option D} {x8 : Option D} {x9 : Option D} {x10 : Option D} {x11 : Option D} {x12 : Option D} {d : D} (h : Q d S) : Pst (cVar 13 (x0 :: x1 :: x2 :: x3 :: x4 :: x5 :: x6 :: x7 :: x8 :: x9 :: x10 :: x11 :: x12 :: some d :: ρ) S) Q E := h
theorem tn0 {Q : PF.Env → Store → Prop} {x0 : Option D} {d : D} (h : Q (some d :: ρ) S) : Pst (tName 0 d (x0 :: ρ) S) Q E := h
theorem ss0 {Q : Fl → Store → Prop} {x0 : Option D} {c : EX} (h : Pst (c (x0 :: ρ) S) (fun d S => Q (.nx (some d :: ρ)) S) (fun x S => Q (.exc x (x0 :: ρ)) S)) : Pst (sSet 0 c (x0 :: ρ) S) Q E := s_set h
theorem tn1 {Q : PF.Env → Store → Prop} {x0 : Option D} {x1 : Option D} {d : D} (h : Q (x0 :: some d :: ρ) S) : Pst (tName 1 d (x0 :: x1 :: ρ) S) Q E := h
theorem ss1 {Q : Fl → Store → Prop} {x0 : Option D} {x1 : Option D} {c : EX} (h : Pst (c (x0 :: x1 :: ρ) S) (fun d S => Q (.nx (x0 :: some d :: ρ)) S) (fun x S => Q (.exc x (x0 :: x1 :: ρ)) S)) : Pst (sSet 1 c (x0 :: x1 :: ρ) S) Q E := s_set h
theorem tn2 {Q : PF.Env → Store → Prop} {x0 : Option D} {x1 : Option D} {x2 : Option D} {d : D} (h : Q (x0 :: x1 :: some d :: ρ) S) : Pst (tName 2 d (x0 :: x1 :: x2 :: ρ) S) Q E := h
theorem ss2 {Q : Fl → Store → Prop} {x0 : Option D} {x1 : Option D} {x2 : Option D} {c : EX} (h : Pst (c (x0 :: x1 :: x2 :: ρ) S) (fun d S => Q (.nx (x0 :: x1 :: some d :: ρ)) S) (fun x S => Q (.exc x (x0 :: x1 :: x2 :: ρ)) S)) : Pst (sSet 2 c (x0 :: x1 :: x2 :: ρ) S) Q E := s_set h
theorem tn3 {Q : PF.Env → Store → Prop} {x0 : Option D} {x1 : Option D} {x2 : Option D} {x3 : Option D} {d : D} (h : Q (x0 :: x1 :: x2 :: some d :: ρ) S) : Pst (tName 3 d (x0 :: x1 :: x2 :: x3 :: ρ) S) Q E := h
theorem ss3 {Q : Fl → Store → Prop} {x0 : Option D} {x1 : Option D} {x2 : Option D} {x3 : Option D} {c : EX} (h : Pst (c (x0 :: x1 :: x2 :: x3 :: ρ) S) (fun d S => Q (.nx (x0 :: x1 :: x2 :: some d :: ρ)) S) (fun x S => Q (.exc x (x0 :: x1 :: x2 :: x3 :: ρ)) S)) : Pst (sSet 3 c (x0 :: x1 :: x2 :: x3 :: ρ) S) Q E := s_set h
theorem tn4 {Q : PF.Env → Store → Prop} {x0 : Option D} {x1 : Option D} {x2 : Option D} {x3 : Option D} {x4 : Option D} {d : D} (h : Q (x0 :: x1 :: x2 :: x3 :: some d :: ρ) S) : Pst (tName 4 d (x0 :: x1 :: x2 :: x3 :: x4 :: ρ) S) Q E := h
theorem ss4 {Q : Fl → Store → Prop} {x0 : Option D} {x1 : Option D} {x2 : Option D} {x3 : Option D} {x4 : Option D} {c : EX} (h : Pst (c (x0 :: x1 :: x2 :: x3 :: x4 :: ρ) S) (fun d S => Q (.nx (x0 :: x1 :: x2 :: x3 :: some d :: ρ)) S) (fun x S => Q (.exc x (x0 :: x1 :: x2 :: x3 :: x4 :: ρ)) S)) : Pst (sSet 4 c (x0 :: x1 :: x2 :: x3 :: x4 :: ρ) S) Q E := s_set h
theorem tn5 {Q : PF.Env → Store → Prop} {x0 : Option D} {x1 : Option D} {x2 : Option D} {x3 : Option D} {x4 : Option D} {x5 : Option D} {d : D} (h : Q (x0 :: x1 :: x2 :: x3 :: x4 :: some d :: ρ) S) : Pst (tName 5 d (x0 :: x1 :: x2 :: x3 :: x4 :: x5 :: ρ) S) Q E := h
theorem ss5 {Q : Fl → Store → Prop} {x0 : Option D} {x1 : Option D} {x2 : Option D} {x3 : Option D} {x4 : Option D} {x5 : Option D} {c : EX} (h : Pst (c (x0 :: x1 :: x2 :: x3 :: x4 :: x5 :: ρ) S) (fun d S => Q (.nx (x0 :: x1 :: x2 :: x3 :: x4 :: some d :: ρ)) S) (fun x S => Q (.exc x (x0 :: x1 :: x2 :: x3 :: x4 :: x5 :: ρ)) S)) : Pst (sSet 5 c (x0 :: x1 :: x2 :: x3 :: x4 :: x5 :: ρ) S) Q E := s_set h
theorem tn6 {Q : PF.Env → Store → Prop} {x0 : Option D} {x1 : Option D} {x2 : Option D} {x3 : Option D} {x4 : Option D} {x5 : Option D} {x6 : Option D} {d : D} (h : Q (x0 :: x1 :: x2 :: x3 :: x4 :: x5 :: some d :: ρ) S) : Pst (tName 6 d (x0 :: x1 :: x2 :: x3 :: x4 :: x5 :: x6 :: ρ) S) Q E := h
theorem ss6 {Q : Fl → Store → Prop} {x0 : Option D} {x1 : Option D} {x2 : Option D} {x3 : Option D} {x4 : Option D} {x5 : Option D} {x6 : Option D} {c : EX} (h : Pst (c (x0 :: x1 :: x2 :: x3 :: x4 :: x5 :: x6 :: ρ) S) (fun d S => Q (.nx (x0 :: x1 :: x2 :: x3 :: x4 :: x5 :: some d :: ρ)) S) (fun x S => Q (.exc x (x0 :: x1 :: x2 :: x3 :: x4 :: x5 :: x6 :: ρ)) S)) : Pst (sSet 6 c (x0 :: x1 :: x2 :: x3 :: x4 :: x5 :: x6 :: ρ) S) Q E := s_set h
theorem tn7 {Q : PF.Env → Store → Prop} {x0 : Option D} {x1 : Option D} {x2 : Option D} {x3 : Option D} {x4 : Option D} {x5 : Option D} {x6 : Option D} {x7 : Option D} {d : D} (h : Q (x0 :: x1 :: x2 :: x3 :: x4 :: x5 :: x6 :: some d :: ρ) S) : Pst (tName 7 d (x0 :: x1 :: x2 :: x3 :: x4 :: x5 :: x6 :: x7 :: ρ) S) Q E := h
theorem ss7 {Q : Fl → Store → Prop} {x0 : Option D} {x1 : Option D} {x2 : Option D} {x3 : Option D} {x4 : Option D} {x5 : Option D} {x6 : Option D} {x7 : Option D} {c : EX} (h : Pst (c (x0 :: x1 :: x2 :: x3 :: x4 :: x5 :: x6 :: x7 :: ρ) S) (fun d S => Q (.nx (x0 :: x1 :: x2 :: x3 :: x4 :: x5 :: x6 :: some d :: ρ)) S) (fun x S => Q (.exc x (x0 :: x1 :: x2 :: x3 :: x4 :: x5 :: x6 :: x7 :: ρ)) S)) : Pst (sSet 7 c (x0 :: x1 :: x2 :: x3 :: x4 :: x5 :: x6 :: x7 :: ρ) S) Q E := s_set h
theorem tn8 {Q : PF.Env → Store → Prop} {x0 : Option D} {x1 : Option D} {x2 : Option D} {x3 : Option D} {x4 : Option D} {x5 : Option D} {x6 : Option D} {x7 : Option D} {x8 : Option D} {d : D} (h : Q (x0 :: x1 :: x2 :: x3 :: x4 :: x5 :: x6 :: x7 :: some d :: ρ) S) : Pst (tName 8 d (x0 :: x1 :: x2 :: x3 :: x4 :: x5 :: x6 :: x7 :: x8 :: ρ) S) Q E := h
theorem ss8 {Q : Fl → Store → Prop} {x0 : Option D} {x1 : Option D} {x2 : Option D} {x3 : Option D} {x4 : Option D} {x5 : Option D} {x6 : Option D} {x7 : Option D} {x8 : Option D} {c : EX} (h : Pst (c (x0 :: x1 :: x2 :: x3 :: x4 :: x5 :: x6 :: x7 :: x8 :: ρ) S) (fun d S => Q (.nx (x0 :: x1 :: x2 :: x3 :: x4 :: x5 :: x6 :: x7 :: some d :: ρ)) S) (fun x S => Q (.exc x (x0 :: x1 :: x2 :: x3 :: x4 :: x5 :: x6 :: x7 :: x8 :: ρ)) S)) : Pst (sSet 8 c (x0 :: x1 :: x2 :: x3 :: x4 :: x5 :: x6 :: x7 :: x8 :: ρ) S) Q E := s_set h
theorem tn9 {Q : PF.Env → Store → Prop} {x0 : Option D} {x1 : Option D} {x2 : Option D} {x3 : Option D} {x4 : Option D} {x5 : Option D} {x6 : Option D} {x7 : Option D} {x8 : Option D} {x9 : Option D} {d : D} (h : Q (x0 :: x1 :: x2 :: x3 :: x4 :: x5 :: x6 :: x7 :: x8 :: some d :: ρ) S) : Pst (tName 9 d (x0 :: x1 :: x2 :: x3 :: x4 :: x5 :: x6 :: x7 :: x8 :: x9 :: ρ) S) Q E := h
theorem ss9 {Q : Fl → Store → Prop} {x0 : Option D} {x1 : Option D} {x2 : Option D} {x3 : Option D} {x4 : Option D} {x5 : Option D} {x6 : Option D} {x7 : Option D} {x8 : Option D} {x9 : Option D} {c : EX} (h : Pst (c (x0 :: x1 :: x2 :: x3 :: x4 :: x5 :: x6 :: x7 :: x8 :: x9 :: ρ) S) (fun d S => Q (.nx (x0 :: x1 :: x2 :: x3 :: x4 :: x5 :: x6 :: x7 :: x8 :: some d :: ρ)) S) (fun x S => Q (.exc x (x0 :: x1 :: x2 :: x3 :: x4 :: x5 :: x6 :: x7 :: x8 :: x9 :: ρ)) S)) : Pst (sSet 9 c (x0 :: x1 :: x2 :: x3 :: x4 :: x5 :: x6 :: x7 :: x8 :: x9 :: ρ) S) Q E := s_set h
theorem tn10 {Q : PF.Env → Store → Prop} {x0 : Option D} {x1 : Option D} {x2 : Option D} {x3 : Option D} {x4 : Option D} {x5 : Option D} {x6 : Option D} {x7 : Option D} {x8 : Option D} {x9 : Option D} {x10 : Option D} {d : D} (h : Q (x0 :: x1 :: x2 :: x3 :: x4 :: x5 :: x6 :: x7 :: x8 :: x9 :: some d :: ρ) S) : Pst (tName 10 d (x0 :: x1 :: x2 :: x3 :: x4 :: x5 :: x6 :: x7 :: x8 :: x9 :: x10 :: ρ) S) Q E := h
theorem ss10 {Q : Fl → Store → Prop} {x0 : Option D} {x1 : Option D} {x2 : Option D} {x3 : Option D} {x4 : Option D} {x5 : Option D} {x6 : Option D} {x7 : Option D} {x8 : Option D} {x9 : Option D} {x10 : Option D} {c : EX} (h : Pst (c (x0 :: x1 :: x2 :: x3 :: x4 :: x5 :: x6 :: x7 :: x8 :: x9 :: x10 :: ρ) S) (fun d S => Q (.nx (x0 :: x1 :: x2 :: x3 :: x4 :: x5 :: x6 :: x7 :: x8 :: x9 :: some d :: ρ)) S) (fun x S => Q (.exc x (x0 :: x1 :: x2 :: x3 :: x4 :: x5 :: x6 :: x7 :: x8 :: x9 :: x10 :: ρ)) S)) : Pst (sSet 10 c (x0 :: x1 :: x2 :: x3 :: x4 :: x5 :: x6 :: x7 :: x8 :: x9 :: x10 :: ρ) S) Q E := s_set h
theorem tn11 {Q : PF.Env → Store → Prop} {x0 : Option D} {x1 : Option D} {x2 : Option D} {x3 : Option D} {x4 : Option D} {x5 : Option D} {x6 : Option D} {x7 : Option D} {x8 : Option D} {x9 : Option D} {x10 : Option D} {x11 : Option D} {d : D} (h : Q (x0 :: x1 :: x2 :: x3 :: x4 :: x5 :: x6 :: x7 :: x8 :: x9 :: x10 :: some d :: ρ) S) : Pst (tName 11 d (x0 :: x1 :: x2 :: x3 :: x4 :: x5 :: x6 :: x7 :: x8 :: x9 :: x10 :: x11 :: ρ) S) Q E := h
theorem ss11 {Q : Fl → Store → Prop} {x0 : Option D} {x1 : Option D} {x2 : Option D} {x3 : Option D} {x4 : Option D} {x5 : Option D} {x6 : Option D} {x7 : Option D} {x8 : Option D} {x9 : Option D} {x10 : Option D} {x11 : Option D} {c : EX} (h : Pst (c (x0 :: x1 :: x2 :: x3 :: x4 :: x5 :: x6 :: x7 :: x8 :: x9 :: x10 :: x11 :: ρ) S) (fun d S => Q (.nx (x0 :: x1 :: x2 :: x3 :: x4 :: x5 :: x6 :: x7 :: x8 :: x9 :: x10 :: some d :: ρ)) S) (fun x S => Q (.exc x (x0 :: x1 :: x2 :: x3 :: x4 :: x5 :: x6 :: x7 :: x8 :: x9 :: x10 :: x11 :: ρ)) S)) : Pst (sSet 11 c (x0 :: x1 :: x2 :: x3 :: x4 :: x5 :: x6 :: x7 :: x8 :: x9 :: x10 :: x11 :: ρ) S) Q E := s_set h
theorem tn12 {Q : PF.Env → Store → Prop} {x0 : Option D} {x1 : Option D} {x2 : Option D} {x3 : Option D} {x4 : Option D} {x5 : Option D} {x6 : Option D} {x7 : Option D} {x8 : Option D} {x9 : Option D} {x10 : Option D} {x11 : Option D} {x12 : Option D} {d : D} (h : Q (x0 :: x1 :: x2 :: x3 :: x4 :: x5 :: x6 :: x7 :: x8 :: x9 :: x10 :: x11 :: some d :: ρ) S) : Pst (tName 12 d (x0 :: x1 :: x2 :: x3 :: x4 :: x5 :: x6 :: x7 :: x8 :: x9 :: x10 :: x11 :: x12 :: ρ) S) Q E := h
theorem ss12 {Q : Fl → Store → Prop} {x0 : Option D} {x1 : Option D} {x2 : Option D} {x3 : Option D} {x4 : Option D} {x5 : Option D} {x6 : Option D} {x7 : Option D} {x8 : Option D} {x9 : Option D} {x10 : Option D} {x11 : Option D} {x12 : Option D} {c : EX} (h : Pst (c (x0 :: x1 :: x2 :: x3 :: x4 :: x5 :: x6 :: x7 :: x8 :: x9 :: x10 :: x11 :: x12 :: ρ) S) (fun d S => Q (.nx (x0 :: x1 :: x2 :: x3 :: x4 :: x5 :: x6 :: x7 :: x8 :: x9 :: x10 :: x11 :: some d :: ρ)) S) (fun x S => Q (.exc x (x0 :: x1 :: x2 :: x3 :: x4 :: x5 :: x6 :: x7 :: x8 :: x9 :: x10 :: x11 :: x12 :: ρ)) S)) : Pst (sSet 12 c (x0 :: x1 :: x2 :: x3 :: x4 :: x5 :: x6 :: x7 :: x8 :: x9 :: x10 :: x11 :: x12 :: ρ) S) Q E := s_set h
theorem tn13 {Q : PF.Env → Store → Prop} {x0 : Option D} {x1 : Option D} {x2 : Option D} {x3 : Option D} {x4 : Option D} {x5 : Option D} {x6 : Option D} {x7 : Option D} {x8 : Option D} {x9 : Option D} {x10 : Option D} {x11 : Option D} {x12 : Option D} {x13 : Option D} {d : D} (h : Q (x0 :: x1 :: x2 :: x3 :: x4 :: x5 :: x6 :: x7 :: x8 :: x9 :: x10 :: x11 :: x12 :: some d :: ρ) S) : Pst (tName 13 d (x0 :: x1 :: x2 :: x3 :: x4 :: x5 :: x6 :: x7 :: x8 :: x9 :: x10 :: x11 :: x12 :: x13 :: ρ) S) Q E := h
theorem ss13 {Q : Fl → Store → Prop} {x0 : Option D} {x1 : Option D} {x2 : Option D} {x3 : Option D} {x4 : Option D} {x5 : Option D} {x6 : Option D} {x7 : Option D} {x8 : Option D} {x9 : Option D} {x10 : Option D} {x11 : Option D} {x12 : Option D} {x13 : Option D} {c : EX} (h : Pst (c (x0 :: x1 :: x2 :: x3 :: x4 :: x5 :: x6 :: x7 :: x8 :: x9 :: x10 :: x11 :: x12 :: x13 :: ρ) S) (fun d S => Q (.nx (x0 :: x1 :: x2 :: x3 :: x4 :: x5 :: x6 :: x7 :: x8 :: x9 :: x10 :: x11 :: x12 :: some d :: ρ)) S) (fun x S => Q (.exc x (x0 :: x1 :: x2 :: x3 :: x4 :: x5 :: x6 :: x7 :: x8 :: x9 :: x10 :: x11 :: x12 :: x13 :: ρ)) S)) : Pst (sSet 13 c (x0 :: x1 :: x2 :: x3 :: x4 :: x5 :: x6 :: x7 :: x8 :: x9 :: x10 :: x11 :: x12 :: x13 :: ρ) S) Q E := s_set h
end
theorem cut_from {α : Type} (xs : List α) {k : Int} (h : 0 ≤ k) : cutL xs (some k) none = xs.drop k.toNat := by
  obtain ⟨m, rfl⟩ := Int.eq_ofNat_of_zero_le h
  unfold cutL
  rw [HT.sIx_nat, HT.sIx_none, Int.toNat_natCast]
  rcases Nat.le_total m xs.length with h1 | h1
  · rw [Nat.min_eq_left h1, List.take_of_length_le (by simp)]
  · rw [Nat.min_eq_right h1, List.drop_of_length_le h1, List.drop_of_length_le (Nat.le_refl _)]
    simp
theorem cut_mem {α : Type} {xs : List α} {a b : Option Int} {x : α} (h : x ∈ cutL xs a b) : x ∈ xs := List.mem_of_mem_drop (List.mem_of_mem_take h)
theorem cut_len {α : Type} (xs : List α) (a b : Option Int) : (cutL xs a b).length ≤ xs.length := by
  unfold cutL; simp; omega
theorem cut_pure {xs : List D} {a b : Option Int} (h : D.pures xs = true) : D.pures (cutL xs a b) = true := D.pures_iff.mpr fun d hd => D.pures_iff.mp h d (cut_mem hd)
theorem cut_to {α : Type} (xs : List α) {k : Int} (h : 0 ≤ k) : cutL xs none (some k) = xs.take k.toNat := by
  obtain ⟨m, rfl⟩ := Int.eq_ofNat_of_zero_le h
  unfold cutL
  rw [HT.sIx_nat, HT.sIx_none, Int.toNat_natCast]
  rcases Nat.le_total m xs.length with h1 | h1
  · rw [Nat.min_eq_left h1]; simp
  · rw [Nat.min_eq_right h1, List.take_of_length_le h1]; simp
theorem atI_end {α : Type} (xs : List α) : atI xs (-1) = xs.getLast? := by
  unfold atI ixN
  rw [if_neg (by decide)]
  rcases xs with _ | ⟨x, xs⟩
  · rfl
  · rw [if_pos (by simp only [List.length_cons]; omega), List.getLast?_eq_getElem?]
    simp only [Option.bind_some, List.length_cons]
    congr 1
    omega
theorem atI_nat {α : Type} (xs : List α) {i : Int} (h : 0 ≤ i) : atI xs i = xs[i.toNat]? := by
  unfold atI ixN
  rw [if_pos h]
  by_cases h1 : i < xs.length
  · rw [if_pos h1]; rfl
  · rw [if_neg h1, List.getElem?_eq_none (by omega)]; rfl
theorem atI_zero {α : Type} {x : α} {xs : List α} : atI (x :: xs) 0 = some x := by rw [atI_nat _ (by decide)]; rfl
theorem call_go {fr : Bool} {n : Nat} {b : SX} {ds : List D} {S : Store} {Q : D → Store → Prop} {E : XV → Store → Prop} {ρ : PF.Env} (e : startE n ds = ρ) (h : Pst (b ρ S) (fun fl S1 => Pst (exitF fr S.length (some (.ok fl, S1))) Q E) NoE) : Pst (callF fr n b ds S) Q E := by
  rw [call_pst, e]; exact h
theorem call_eq {fr : Bool} {n : Nat} {b : SX} {ds : List D} {S : Store} {d : D} {ρ : PF.Env} (e : startE n ds = ρ) (h : Pst (b ρ S) (fun fl S1 => Pst (exitF fr S.length (some (.ok fl, S1))) (fun x S' => x = d ∧ S' = S) NoE) NoE) : callF fr n b ds S = some (.ok d, S) :=
  Pst.eq.mp (call_go e h)
@[simp] theorem take_same {S : Store} : S.take S.length = S := List.take_of_length_le (Nat.le_refl _)
def D.isI : D → Bool
  | .int _ => true
  | _ => false
theorem zipD_ints (ns ms : List Int) : zipD (ns.map D.int) (ms.map D.int) = (ns.zip ms).map fun p => D.tup [.int p.1, .int p.2] := by
  induction ns generalizing ms with
  | nil => simp [zipD]
  | cons n ns ih => cases ms with
    | nil => simp [zipD]
    | cons m ms => simp [zipD, ih]
theorem filterMap_map {α β γ : Type} (f : α → β) (g : β → Option γ) (h : α → γ) (l : List α) (e : ∀ a ∈ l, g (f a) = some (h a)) : (l.map f).filterMap g = l.map h := by
  induction l with
  | nil => rfl
  | cons a l ih =>
    rw [List.map_cons, List.filterMap_cons, e a (List.mem_cons_self ..), ih fun b hb => e b (List.mem_cons_of_mem _ hb)]
    rfl
theorem blsOf_mapM {α : Type} {l : List α} {p : α → Bool} : blsOf (l.map fun a => D.bl (p a)) = some (l.map p) := by
  induction l with
  | nil => rfl
  | cons n ns ih => simp [blsOf, ih]
theorem b_allM {α : Type} {l : List α} {p : α → Bool} {S : Store} : bAll [.lst (l.map fun a => D.bl (p a))] S = some (.ok (.bl (l.all p)), S) := by
  simp [bAll, bL1, asL, blsOf_mapM, List.all_map]
theorem b_anyM {α : Type} {l : List α} {p : α → Bool} {S : Store} : bAny [.lst (l.map fun a => D.bl (p a))] S = some (.ok (.bl (l.any p)), S) := by
  simp [bAny, bL1, asL, blsOf_mapM, List.any_map]
theorem r_comp {src : IX} {js : List Nat} {tgt : TX} {test : BX} {elt : EX} {ρ : PF.Env} {S : Store} {Q : D → Store → Prop} {E : XV → Store → Prop}
    (h : Pst (src ρ S) (fun so S0 => Pst (cComp (fun _ _ => some (.ok so, S0)) js tgt test elt ρ S) Q E) E) : Pst (cComp src js tgt test elt ρ S) Q E := by
  unfold cComp at h ⊢
  match hs : src ρ S with
  | none => rw [hs] at h; exact h.elim
  | some (.error x, S1) => rw [hs] at h; exact h
  | some (.ok so, S1) => rw [hs] at h; exact h
/-- a list of a function's values over what is walked -/
theorem comp_map {src : IX} {js : List Nat} {tgt : TX} {elt : EX} {so : Src} {ρ : PF.Env} {S : Store} {α : Type} (l : List α) (f g : α → D)
    (hsrc : src ρ S = some (.ok so, S)) (hs : srcAt so S = some (l.map f)) (hs1 : ∀ acc, srcAt so (S ++ [acc]) = some (l.map f)) (hl : l.length ≤ lim)
    (hg : ∀ a ∈ l, ∀ acc, (g a).pure = true ∧ Pst (tgt (f a) (wipeE ρ js) (S ++ [acc])) (fun ρ1 S2 => Pst (elt ρ1 S2) (fun y S2 => y = g a ∧ S2 = S ++ [acc]) NoE) NoE) :
    cComp src js tgt bYes elt ρ S = some (.ok (.lst (l.map g)), S) := by
  refine Pst.eq.mp (comp_inv (so := so) (ds := l.map f) (fun i acc S1 => S1 = S ∧ acc = (l.take i).map g) hsrc ?_ hs (by rw [List.length_map]; exact hl) ⟨rfl, rfl⟩ ?_ ?_)
  · rintro i acc S1 ⟨rfl, rfl⟩
    exact ⟨rfl, hs1 _⟩
  · rintro i d acc S1 hd ⟨rfl, ha⟩
    rw [List.getElem?_map] at hd
    obtain ⟨a, ha', rfl⟩ := Option.map_eq_some_iff.mp hd
    have hm : a ∈ l := List.mem_of_getElem? ha'
    have ht : l.take (i + 1) = l.take i ++ [a] := by
      have h1 : i < l.length := by
        rcases Nat.lt_or_ge i l.length with h | h
        · exact h
        · rw [List.getElem?_eq_none h] at ha'; cases ha'
      rw [List.getElem?_eq_getElem h1] at ha'
      cases ha'
      exact List.take_succ_eq_append_getElem h1
    refine (hg a hm acc).2.mono (fun ρ1 S2 h => bool_yes ⟨fun _ => h.mono (fun y S2 h => ?_) fun _ _ h => h, fun hb => by cases hb⟩) fun _ _ h => h
    exact ⟨S1, h.2, by rw [h.1]; exact (hg a hm acc).1, rfl, by rw [ht, List.map_append, ← ha, h.1]; rfl⟩
  · rintro acc S1 ⟨rfl, rfl⟩
    rw [List.length_map, List.take_length]
    exact ⟨rfl, rfl⟩
theorem pures_mapI {ns : List Int} : D.pures (ns.map D.int) = true := by
  refine D.pures_iff.mpr fun d hd => ?_
  obtain ⟨i, _, rfl⟩ := List.mem_map.mp hd
  rfl

end PF
set_option Elab.async false
set_option linter.all false
set_option maxRecDepth 100000
set_option maxHeartbeats 4000000
namespace LW
open PySem L2 Evl PySem.Spec PyProof.Rows PF
/-! ### the text by places -/
def top (i : Nat) : Stmt := PySem.Challenge.pw_pledgehall_k02_whole_fees_by_own_reckoni.main.body.getD i (.Pass ⟨0, 0, 0, 0⟩)
abbrev wfuel : Nat := 100000
/-! ### is_whole -/
abbrev s_is_whole : Stmt := top 5
theorem sc_is_whole : FnScope ["value"] ["value"] (defScope s_is_whole) := ⟨rfl, rfl, rfl, by decide +kernel, rfl, by decide +kernel, by decide +kernel⟩
theorem pn_is_whole : Posn (defArgs s_is_whole) (defBody s_is_whole) (defScope s_is_whole) "is_whole" ["value"] := fun _ _ _ _ _ _ us hl => match us, hl with | [_], _ => rfl
/-! ### is_number -/
abbrev s_is_number : Stmt := top 6
theorem sc_is_number : FnScope ["value", "low", "high"] ["value", "low", "high"] (defScope s_is_number) := ⟨rfl, rfl, rfl, by decide +kernel, rfl, by decide +kernel, by decide +kernel⟩
theorem pn_is_number : Posn (defArgs s_is_number) (defBody s_is_number) (defScope s_is_number) "is_number" ["value", "low", "high"] := fun _ _ _ _ _ _ us hl => match us, hl with | [_, _, _], _ => rfl
/-! ### check_number -/
abbrev s_check_number : Stmt := top 7
theorem sc_check_number : FnScope ["value", "low", "high"] ["value", "low", "high"] (defScope s_check_number) := ⟨rfl, rfl, rfl, by decide +kernel, rfl, by decide +kernel, by decide +kernel⟩
theorem pn_check_number : Posn (defArgs s_check_number) (defBody s_check_number) (defScope s_check_number) "check_number" ["value", "low", "high"] := fun _ _ _ _ _ _ us hl => match us, hl with | [_, _, _], _ => rfl
/-! ### upper -/
abbrev s_upper : Stmt := top 8
theorem sc_upper : FnScope ["number", "by"] ["number", "by"] (defScope s_upper) := ⟨rfl, rfl, rfl, by decide +kernel, rfl, by decide +kernel, by decide +kernel⟩
theorem pn_upper : Posn (defArgs s_upper) (defBody s_upper) (defScope s_upper) "upper" ["number", "by"] := fun _ _ _ _ _ _ us hl => match us, hl with | [_, _], _ => rfl
/-! ### is_tuple_of -/
abbrev s_is_tuple_of : Stmt := top 9
theorem sc_is_tuple_of : FnScope ["value", "many"] ["value", "many"] (defScope s_is_tuple_of) := ⟨rfl, rfl, rfl, by decide +kernel, rfl, by decide +kernel, by decide +kernel⟩
theorem pn_is_tuple_of : Posn (defArgs s_is_tuple_of) (defBody s_is_tuple_of) (defScope s_is_tuple_of) "is_tuple_of" ["value", "many"] := fun _ _ _ _ _ _ us hl => match us, hl with | [_, _], _ => rfl
/-! ### is_ascending -/
abbrev s_is_ascending : Stmt := top 10
theorem sc_is_ascending : FnScope ["values", "one", "two"] ["values"] (defScope s_is_ascending) := ⟨rfl, rfl, rfl, by decide +kernel, rfl, by decide +kernel, by decide +kernel⟩
theorem pn_is_ascending : Posn (defArgs s_is_ascending) (defBody s_is_ascending) (defScope s_is_ascending) "is_ascending" ["values"] := fun _ _ _ _ _ _ us hl => match us, hl with | [_], _ => rfl
/-! ### step_at -/
abbrev s_step_at : Stmt := top 13
theorem sc_step_at : FnScope ["rule", "total", "step"] ["rule", "total"] (defScope s_step_at) := ⟨rfl, rfl, rfl, by decide +kernel, rfl, by decide +kernel, by decide +kernel⟩
theorem pn_step_at : Posn (defArgs s_step_at) (defBody s_step_at) (defScope s_step_at) "step_at" ["rule", "total"] := fun _ _ _ _ _ _ us hl => match us, hl with | [_, _], _ => rfl
/-! ### fee_of -/
abbrev s_fee_of : Stmt := top 14
theorem sc_fee_of : FnScope ["rule", "total", "_", "base", "rate"] ["rule", "total"] (defScope s_fee_of) := ⟨rfl, rfl, rfl, by decide +kernel, rfl, by decide +kernel, by decide +kernel⟩
theorem pn_fee_of : Posn (defArgs s_fee_of) (defBody s_fee_of) (defScope s_fee_of) "fee_of" ["rule", "total"] := fun _ _ _ _ _ _ us hl => match us, hl with | [_, _], _ => rfl
/-! ### net_of -/
abbrev s_net_of : Stmt := top 15
theorem sc_net_of : FnScope ["rule", "total"] ["rule", "total"] (defScope s_net_of) := ⟨rfl, rfl, rfl, by decide +kernel, rfl, by decide +kernel, by decide +kernel⟩
theorem pn_net_of : Posn (defArgs s_net_of) (defBody s_net_of) (defScope s_net_of) "net_of" ["rule", "total"] := fun _ _ _ _ _ _ us hl => match us, hl with | [_, _], _ => rfl
/-! ### is_step -/
abbrev s_is_step : Stmt := top 21
theorem sc_is_step : FnScope ["value"] ["value"] (defScope s_is_step) := ⟨rfl, rfl, rfl, by decide +kernel, rfl, by decide +kernel, by decide +kernel⟩
theorem pn_is_step : Posn (defArgs s_is_step) (defBody s_is_step) (defScope s_is_step) "is_step" ["value"] := fun _ _ _ _ _ _ us hl => match us, hl with | [_], _ => rfl
/-! ### is_rule -/
abbrev s_is_rule : Stmt := top 22
theorem sc_is_rule : FnScope ["value", "step"] ["value"] (defScope s_is_rule) := ⟨rfl, rfl, rfl, by decide +kernel, rfl, by decide +kernel, by decide +kernel⟩
theorem pn_is_rule : Posn (defArgs s_is_rule) (defBody s_is_rule) (defScope s_is_rule) "is_rule" ["value"] := fun _ _ _ _ _ _ us hl => match us, hl with | [_], _ => rfl
/-! ### check_rule -/
abbrev s_check_rule : Stmt := top 23
theorem sc_check_rule : FnScope ["value"] ["value"] (defScope s_check_rule) := ⟨rfl, rfl, rfl, by decide +kernel, rfl, by decide +kernel, by decide +kernel⟩
theorem pn_check_rule : Posn (defArgs s_check_rule) (defBody s_check_rule) (defScope s_check_rule) "check_rule" ["value"] := fun _ _ _ _ _ _ us hl => match us, hl with | [_], _ => rfl
/-! ### fee -/
abbrev s_fee : Stmt := top 24
theorem sc_fee : FnScope ["rule", "total"] ["rule", "total"] (defScope s_fee) := ⟨rfl, rfl, rfl, by decide +kernel, rfl, by decide +kernel, by decide +kernel⟩
theorem pn_fee : Posn (defArgs s_fee) (defBody s_fee) (defScope s_fee) "fee" ["rule", "total"] := fun _ _ _ _ _ _ us hl => match us, hl with | [_, _], _ => rfl
/-! ### net -/
abbrev s_net : Stmt := top 25
theorem sc_net : FnScope ["rule", "total"] ["rule", "total"] (defScope s_net) := ⟨rfl, rfl, rfl, by decide +kernel, rfl, by decide +kernel, by decide +kernel⟩
theorem pn_net : Posn (defArgs s_net) (defBody s_net) (defScope s_net) "net" ["rule", "total"] := fun _ _ _ _ _ _ us hl => match us, hl with | [_, _], _ => rfl
/-! ### _law_well -/
abbrev s__law_well : Stmt := top 27
theorem sc__law_well : FnScope ["script", "lap", "stirred", "cell", "own"] ["script", "lap"] (defScope s__law_well) := ⟨rfl, rfl, rfl, by decide +kernel, rfl, by decide +kernel, by decide +kernel⟩
theorem pn__law_well : Posn (defArgs s__law_well) (defBody s__law_well) (defScope s__law_well) "_law_well" ["script", "lap"] := fun _ _ _ _ _ _ us hl => match us, hl with | [_, _], _ => rfl
/-! ### _law_draw -/
abbrev s__law_draw : Stmt := top 28
theorem sc__law_draw : FnScope ["well", "limit", "figure", "mixed"] ["well", "limit"] (defScope s__law_draw) := ⟨rfl, rfl, rfl, by decide +kernel, rfl, by decide +kernel, by decide +kernel⟩
theorem pn__law_draw : Posn (defArgs s__law_draw) (defBody s__law_draw) (defScope s__law_draw) "_law_draw" ["well", "limit"] := fun _ _ _ _ _ _ us hl => match us, hl with | [_, _], _ => rfl
/-! ### _law_of -/
abbrev s__law_of : Stmt := top 29
theorem sc__law_of : FnScope ["well", "some"] ["well", "some"] (defScope s__law_of) := ⟨rfl, rfl, rfl, by decide +kernel, rfl, by decide +kernel, by decide +kernel⟩
theorem pn__law_of : Posn (defArgs s__law_of) (defBody s__law_of) (defScope s__law_of) "_law_of" ["well", "some"] := fun _ _ _ _ _ _ us hl => match us, hl with | [_, _], _ => rfl
/-! ### _law_is -/
abbrev s__law_is : Stmt := top 30
theorem sc__law_is : FnScope ["told", "due"] ["told", "due"] (defScope s__law_is) := ⟨rfl, rfl, rfl, by decide +kernel, rfl, by decide +kernel, by decide +kernel⟩
theorem pn__law_is : Posn (defArgs s__law_is) (defBody s__law_is) (defScope s__law_is) "_law_is" ["told", "due"] := fun _ _ _ _ _ _ us hl => match us, hl with | [_, _], _ => rfl
/-! ### _law_fee -/
abbrev s__law_fee : Stmt := top 31
theorem sc__law_fee : FnScope ["rule", "total", "step", "each"] ["rule", "total"] (defScope s__law_fee) := ⟨rfl, rfl, rfl, by decide +kernel, rfl, by decide +kernel, by decide +kernel⟩
theorem pn__law_fee : Posn (defArgs s__law_fee) (defBody s__law_fee) (defScope s__law_fee) "_law_fee" ["rule", "total"] := fun _ _ _ _ _ _ us hl => match us, hl with | [_, _], _ => rfl
/-! ### _law_level_rule -/
abbrev s__law_level_rule : Stmt := top 32
theorem sc__law_level_rule : FnScope ["well", "many", "wide", "rule", "start", "turn", "left", "rate"] ["well", "many", "wide"] (defScope s__law_level_rule) := ⟨rfl, rfl, rfl, by decide +kernel, rfl, by decide +kernel, by decide +kernel⟩
theorem pn__law_level_rule : Posn (defArgs s__law_level_rule) (defBody s__law_level_rule) (defScope s__law_level_rule) "_law_level_rule" ["well", "many", "wide"] := fun _ _ _ _ _ _ us hl => match us, hl with | [_, _, _], _ => rfl
/-! ### _law_rule -/
abbrev s__law_rule : Stmt := top 33
theorem sc__law_rule : FnScope ["well", "starts", "turn", "found", "at", "start"] ["well"] (defScope s__law_rule) := ⟨rfl, rfl, rfl, by decide +kernel, rfl, by decide +kernel, by decide +kernel⟩
theorem pn__law_rule : Posn (defArgs s__law_rule) (defBody s__law_rule) (defScope s__law_rule) "_law_rule" ["well"] := fun _ _ _ _ _ _ us hl => match us, hl with | [_], _ => rfl
/-! ### _law_none -/
abbrev s__law_none : Stmt := top 34
theorem sc__law_none : FnScope ["well", "rule", "at", "start", "base", "rate", "wrong", "some", "step", "each"] ["well", "rule"] (defScope s__law_none) := ⟨rfl, rfl, rfl, by decide +kernel, rfl, by decide +kernel, by decide +kernel⟩
theorem pn__law_none : Posn (defArgs s__law_none) (defBody s__law_none) (defScope s__law_none) "_law_none" ["well", "rule"] := fun _ _ _ _ _ _ us hl => match us, hl with | [_, _], _ => rfl
/-! ### _law_right -/
abbrev s__law_right : Stmt := top 35
theorem sc__law_right : FnScope ["well", "turn", "rule", "spots", "start", "base", "rate", "total", "due", "told"] ["well"] (defScope s__law_right) := ⟨rfl, rfl, rfl, by decide +kernel, rfl, by decide +kernel, by decide +kernel⟩
theorem pn__law_right : Posn (defArgs s__law_right) (defBody s__law_right) (defScope s__law_right) "_law_right" ["well"] := fun _ _ _ _ _ _ us hl => match us, hl with | [_], _ => rfl
/-! ### law -/
abbrev s_law : Stmt := top 36
theorem sc_law : FnScope ["script", "lap"] ["script"] (defScope s_law) := ⟨rfl, rfl, rfl, by decide +kernel, rfl, by decide +kernel, by decide +kernel⟩
theorem pn_law : Posn (defArgs s_law) (defBody s_law) (defScope s_law) "law" ["script"] := fun _ _ _ _ _ _ us hl => match us, hl with | [_], _ => rfl
def kn0_g {α : Type} : List α → List α → List α
  | [], [b0, b1] => [b1, b0]
  | _, _ => []
theorem kn0_b : Keyn (defArgs s_fee) (defBody s_fee) (defScope s_fee) "fee" ["rule", "total"] (["total", "rule"] : List Str) 0 kn0_g := fun _ _ _ _ _ _ us ws h1 h2 => match us, ws, h1, h2 with | [], [b0, b1], _, _ => rfl
theorem kn0_r {K : PySem.W.Frag} {F : Hp} {μ : List Addr} {ds es : List D} {vs us : List V} (_ : ds.length = 0) (_ : es.length = ((["total", "rule"] : List Str)).length) (r : Reps K F μ ds vs) (q : Reps K F μ es us) : Reps K F μ (kn0_g ds es) (kn0_g vs us) := by
  match ds, vs, es, us, r, q with
  | [], _, [_, _], _, .nil, .cons q0 (.cons q1 .nil) => exact .cons q1 (.cons q0 .nil)
theorem kn0_v {vs us : List V} {ws zs : List Value} (_ : vs.length = 0) (_ : us.length = ((["total", "rule"] : List Str)).length) (r : Vals vs ws) (q : Vals us zs) : Vals (kn0_g vs us) (kn0_g ws zs) := by
  match vs, ws, us, zs, r, q with
  | [], _, [_, _], _, .nil, .cons q0 (.cons q1 .nil) => exact .cons q1 (.cons q0 .nil)
theorem kn0_l {ds es : List V} (h1 : ds.length = 0) (h2 : es.length = ((["total", "rule"] : List Str)).length) : (kn0_g ds es).length = (["rule", "total"] : List Str).length := match ds, es, h1, h2 with | [], [_, _], _, _ => rfl
def kn1_g {α : Type} : List α → List α → List α
  | [], [b0, b1] => [b1, b0]
  | _, _ => []
theorem kn1_b : Keyn (defArgs s_net) (defBody s_net) (defScope s_net) "net" ["rule", "total"] (["total", "rule"] : List Str) 0 kn1_g := fun _ _ _ _ _ _ us ws h1 h2 => match us, ws, h1, h2 with | [], [b0, b1], _, _ => rfl
theorem kn1_r {K : PySem.W.Frag} {F : Hp} {μ : List Addr} {ds es : List D} {vs us : List V} (_ : ds.length = 0) (_ : es.length = ((["total", "rule"] : List Str)).length) (r : Reps K F μ ds vs) (q : Reps K F μ es us) : Reps K F μ (kn1_g ds es) (kn1_g vs us) := by
  match ds, vs, es, us, r, q with
  | [], _, [_, _], _, .nil, .cons q0 (.cons q1 .nil) => exact .cons q1 (.cons q0 .nil)
theorem kn1_v {vs us : List V} {ws zs : List Value} (_ : vs.length = 0) (_ : us.length = ((["total", "rule"] : List Str)).length) (r : Vals vs ws) (q : Vals us zs) : Vals (kn1_g vs us) (kn1_g ws zs) := by
  match vs, ws, us, zs, r, q with
  | [], _, [_, _], _, .nil, .cons q0 (.cons q1 .nil) => exact .cons q1 (.cons q0 .nil)
theorem kn1_l {ds es : List V} (h1 : ds.length = 0) (h2 : es.length = ((["total", "rule"] : List Str)).length) : (kn1_g ds es).length = (["rule", "total"] : List Str).length := match ds, es, h1, h2 with | [], [_, _], _, _ => rfl
def kn2_g {α : Type} : List α → List α → List α
  | [], [b0] => [b0]
  | _, _ => []
theorem kn2_b : Keyn (defArgs s_is_rule) (defBody s_is_rule) (defScope s_is_rule) "is_rule" ["value"] (["value"] : List Str) 0 kn2_g := fun _ _ _ _ _ _ us ws h1 h2 => match us, ws, h1, h2 with | [], [b0], _, _ => rfl
theorem kn2_r {K : PySem.W.Frag} {F : Hp} {μ : List Addr} {ds es : List D} {vs us : List V} (_ : ds.length = 0) (_ : es.length = ((["value"] : List Str)).length) (r : Reps K F μ ds vs) (q : Reps K F μ es us) : Reps K F μ (kn2_g ds es) (kn2_g vs us) := by
  match ds, vs, es, us, r, q with
  | [], _, [_], _, .nil, .cons q0 .nil => exact .cons q0 .nil
theorem kn2_v {vs us : List V} {ws zs : List Value} (_ : vs.length = 0) (_ : us.length = ((["value"] : List Str)).length) (r : Vals vs ws) (q : Vals us zs) : Vals (kn2_g vs us) (kn2_g ws zs) := by
  match vs, ws, us, zs, r, q with
  | [], _, [_], _, .nil, .cons q0 .nil => exact .cons q0 .nil
theorem kn2_l {ds es : List V} (h1 : ds.length = 0) (h2 : es.length = ((["value"] : List Str)).length) : (kn2_g ds es).length = (["value"] : List Str).length := match ds, es, h1, h2 with | [], [_], _, _ => rfl
def b_is_whole : SX := (sRet (cAnd (cIsi .int (cVar 0)) (cNot (cIsi .bool (cVar 0)))))
def F_is_whole : OpB := callF false 1 b_is_whole
def b_is_number : SX := (sSeq (sIf (bOr (bNot (cTest (cCall 1 F_is_whole (aCons (cVar 0) aNil)))) (bAnd (cTest (cBin oNotN (cVar 1) (cK .non))) (cTest (cBin oLtA (cVar 0) (cVar 1))))) (sRet (cK (.bl false))) sNil)
    (sRet (cOr (cBin oIsN (cVar 2) (cK .non)) (cBin oLe (cVar 0) (cVar 2)))))
def F_is_number : OpB := callF false 3 b_is_number
def b_check_number : SX := (sIf (bNot (cTest (cCall 3 F_is_number (aCons (cVar 0) (aCons (cVar 1) (aCons (cVar 2) aNil)))))) sStuck sNil)
def F_check_number : OpB := callF false 3 b_check_number
def b_upper : SX := (sRet (cUn oNeg (cBin oDiv (cUn oNeg (cVar 0)) (cVar 1))))
def F_upper : OpB := callF false 2 b_upper
def b_is_tuple_of : SX := (sRet (cAnd (cIsi .tuple (cVar 0)) (cBin oEqA (cBlt bLen (aCons (cVar 0) aNil)) (cVar 1))))
def F_is_tuple_of : OpB := callF false 2 b_is_tuple_of
def b_is_ascending : SX := (sRet (cBlt bAll (aCons (cComp (cZip (aCons (cVar 0) (aCons (cSliceA (cVar 0) (cPart (cK (.int 1))) cNo) aNil))) [1, 2] (tTup 2 (tsCons (tName 1) (tsCons (tName 2) tsNil))) bYes (cBin oLtA (cVar 1) (cVar 2))) aNil)))
def F_is_ascending : OpB := callF false 3 b_is_ascending
def b_step_at : SX := (sRet (cBin oIx (cComp (cSeqA (cVar 0)) [2] (tName 2) (cTest (cBin oLe (cBin oIx (cVar 2) (cK (.int 0))) (cVar 1))) (cVar 2)) (cUn oNeg (cK (.int 1)))))
def F_step_at : OpB := callF false 3 b_step_at
def b_fee_of : SX := (sSeq (sAsg (tTup 3 (tsCons (tName 2) (tsCons (tName 3) (tsCons (tName 4) tsNil)))) (cCall 2 F_step_at (aCons (cVar 0) (aCons (cVar 1) aNil))))
    (sRet (cBin oAddA (cVar 3) (cCall 2 F_upper (aCons (cBin oMul (cVar 4) (cVar 1)) (aCons (cK (.int 1000)) aNil))))))
def F_fee_of : OpB := callF false 5 b_fee_of
def b_net_of : SX := (sRet (cBin oSub (cVar 1) (cCall 2 F_fee_of (aCons (cVar 0) (aCons (cVar 1) aNil)))))
def F_net_of : OpB := callF false 2 b_net_of
def b_is_step : SX := (sSeq (sIf (bOr (bNot (cTest (cCall 2 F_is_tuple_of (aCons (cVar 0) (aCons (cK (.int 3)) aNil))))) (bNot (cTest (cCall 3 F_is_number (aCons (cBin oIx (cVar 0) (cK (.int 2))) (aCons (cK (.int 0)) (aCons (cK (.int 1000)) aNil))))))) (sRet (cK (.bl false))) sNil)
    (sRet (cAnd (cCall 3 F_is_number (aCons (cBin oIx (cVar 0) (cK (.int 0))) (aCons (cK (.int 0)) (aCons (cK (.int 1000000)) aNil)))) (cCall 3 F_is_number (aCons (cBin oIx (cVar 0) (cK (.int 1))) (aCons (cK (.int 0)) (aCons (cK (.int 1000000)) aNil)))))))
def F_is_step : OpB := callF false 1 b_is_step
def b_is_rule : SX := (sSeq (sIf (bOr (bNot (cTest (cIsi .tuple (cVar 0)))) (bOr (bNot (cTest (cChain oLe oLe (cK (.int 1)) (cBlt bLen (aCons (cVar 0) aNil)) (cK (.int 6))))) (bNot (cTest (cBlt bAll (aCons (cComp (cSeqA (cVar 0)) [1] (tName 1) bYes (cCall 1 F_is_step (aCons (cVar 1) aNil))) aNil)))))) (sRet (cK (.bl false))) sNil)
    (sRet (cAnd (cBin oEqA (cBin oIx (cBin oIx (cVar 0) (cK (.int 0))) (cK (.int 0))) (cK (.int 0))) (cCall 1 F_is_ascending (aCons (cComp (cSeqA (cVar 0)) [1] (tName 1) bYes (cBin oIx (cVar 1) (cK (.int 0)))) aNil)))))
def F_is_rule : OpB := callF false 2 b_is_rule
def b_check_rule : SX := (sIf (bNot (cTest (cCall 1 F_is_rule (aCons (cVar 0) aNil)))) sStuck sNil)
def F_check_rule : OpB := callF false 1 b_check_rule
def b_fee : SX := (sSeq (sExpr (cCall 1 F_check_rule (aCons (cVar 0) aNil)))
    (sSeq (sExpr (cCall 3 F_check_number (aCons (cVar 1) (aCons (cK (.int 0)) (aCons (cK (.int 1000000000)) aNil)))))
    (sRet (cCall 2 F_fee_of (aCons (cVar 0) (aCons (cVar 1) aNil))))))
def F_fee : OpB := callF false 2 b_fee
def b_net : SX := (sSeq (sExpr (cCall 1 F_check_rule (aCons (cVar 0) aNil)))
    (sSeq (sExpr (cCall 3 F_check_number (aCons (cVar 1) (aCons (cK (.int 0)) (aCons (cK (.int 1000000000)) aNil)))))
    (sRet (cCall 2 F_net_of (aCons (cVar 0) (aCons (cVar 1) aNil))))))
def F_net : OpB := callF false 2 b_net
def b__law_well : SX := (sSeq (sSet 2 (cBin oAddA (cK (.int 89954)) (cBin oMul (cK (.int 5231)) (cVar 1))))
    (sSeq (sFor (cSeqA (cSliceL (cVar 0) cNo (cPart (cK (.int 9))))) (tName 3) (sSet 2 (cBin oMod (cBlt bInt (aCons (cBin oAddA (cBin oAddA (cBin oMul (cVar 2) (cK (.int 47521))) (cBin oMod (cBlt bInt (aCons (cVar 3) aNil)) (cK (.int 2147483549)))) (cK (.int 41))) aNil)) (cK (.int 2147483629)))))
    (sSeq (sSet 4 (cIfE (cTest (cBin oLtA (cVar 1) (cBlt bLen (aCons (cVar 0) aNil)))) (cBlt bInt (aCons (cBin oIx (cVar 0) (cVar 1)) aNil)) (cK (.int 0))))
    (sSeq (sSet 2 (cBin oMod (cBlt bInt (aCons (cBin oAddA (cBin oAddA (cBin oMul (cVar 2) (cK (.int 61))) (cBin oMul (cBin oMod (cBlt bInt (aCons (cVar 4) aNil)) (cK (.int 2147483549))) (cK (.int 16007)))) (cK (.int 17))) aNil)) (cK (.int 2147483629))))
    (sRet (cLst (aCons (cIfE (bOr (cTest (cBin oLtA (cVar 4) (cK (.int 0)))) (cTest (cBin oGe (cVar 4) (cBin oPow (cK (.int 10)) (cK (.int 15)))))) (cBlt bAbs (aCons (cVar 4) aNil)) (cK (.int 0))) (aCons (cVar 2) (aCons (cK (.int 0)) aNil)))))))))
def F__law_well : OpB := callF true 5 b__law_well
def b__law_draw : SX := (sSeq (sIf (cTest (cBin oGt (cBin oIx (cVar 0) (cK (.int 0))) (cK (.int 0)))) (sSeq (sAsg (tTup 2 (tsCons (tSub (cVar 0) (cK (.int 0))) (tsCons (tName 2) tsNil))) (cBlt bDivmod (aCons (cBin oIx (cVar 0) (cK (.int 0))) (aCons (cVar 1) aNil))))
    (sRet (cVar 2))) sNil)
    (sSeq (sAsg (tSub (cVar 0) (cK (.int 2))) (cBin oAddA (cBin oIx (cVar 0) (cK (.int 2))) (cK (.int 1))))
    (sSeq (sSet 3 (cBin oMod (cBlt bInt (aCons (cBin oAddA (cBin oMul (cBin oIx (cVar 0) (cK (.int 1))) (cK (.int 40009))) (cBin oMul (cK (.int 15013)) (cBin oIx (cVar 0) (cK (.int 2))))) aNil)) (cK (.int 2147483629))))
    (sSeq (sAsg (tSub (cVar 0) (cK (.int 1))) (cBin oMod (cBlt bInt (aCons (cBin oAddA (cBin oMul (cVar 3) (cBin oAddA (cBin oMod (cBlt bInt (aCons (cVar 3) aNil)) (cK (.int 5003))) (cK (.int 20011)))) (cBin oIx (cVar 0) (cK (.int 2)))) aNil)) (cK (.int 2147483629))))
    (sRet (cBin oMod (cBlt bInt (aCons (cBin oDiv (cBin oIx (cVar 0) (cK (.int 1))) (cK (.int 1031))) aNil)) (cVar 1)))))))
def F__law_draw : OpB := callF false 4 b__law_draw
def b__law_of : SX := (sRet (cBin oIx (cVar 1) (cCall 2 F__law_draw (aCons (cVar 0) (aCons (cBlt bLen (aCons (cVar 1) aNil)) aNil)))))
def F__law_of : OpB := callF false 2 b__law_of
def b__law_is : SX := (sRet (cBin oEqA (cBlt bRepr (aCons (cVar 0) aNil)) (cBlt bRepr (aCons (cVar 1) aNil))))
def F__law_is : OpB := callF false 2 b__law_is
def b__law_fee : SX := (sSeq (sSet 2 (cBin oIx (cComp (cSeqA (cVar 0)) [3] (tName 3) (cTest (cBin oLe (cBin oIx (cVar 3) (cK (.int 0))) (cVar 1))) (cVar 3)) (cUn oNeg (cK (.int 1)))))
    (sRet (cBin oAddA (cBin oIx (cVar 2) (cK (.int 1))) (cBin oDiv (cBin oAddA (cBin oMul (cBin oIx (cVar 2) (cK (.int 2))) (cVar 1)) (cK (.int 999))) (cK (.int 1000))))))
def F__law_fee : OpB := callF false 4 b__law_fee
def b__law_level_rule : SX := (sSeq (sPar 3 4 (aCons (cTup (aCons (cTup (aCons (cK (.int 0)) (aCons (cCall 2 F__law_draw (aCons (cVar 0) (aCons (cCall 2 F__law_of (aCons (cVar 0) (aCons (cTup (aCons (cK (.int 1)) (aCons (cK (.int 1)) (aCons (cK (.int 20)) (aCons (cBin oAddA (cBin oPow (cK (.int 10)) (cK (.int 6))) (cK (.int 1))) aNil))))) aNil))) aNil))) (aCons (cCall 2 F__law_draw (aCons (cVar 0) (aCons (cK (.int 1001)) aNil))) aNil)))) aNil)) (aCons (cK (.int 0)) aNil)))
    (sSeq (sFor (cRange1 (aCons (cBin oSub (cVar 1) (cK (.int 1))) aNil)) (tName 5) (sSeq (sSet 4 (cBin oAddA (cBin oAddA (cVar 4) (cK (.int 1))) (cCall 2 F__law_draw (aCons (cVar 0) (aCons (cVar 2) aNil)))))
    (sIf (cTest (cBin oLe (cVar 4) (cBin oPow (cK (.int 10)) (cK (.int 6))))) (sSeq (sSet 6 (cBin oAddA (cK (.int 1)) (cCall 2 F__law_fee (aCons (cVar 3) (aCons (cBin oSub (cVar 4) (cK (.int 1))) aNil)))))
    (sSeq (sSet 7 (cBlt bMin2 (aCons (cCall 2 F__law_of (aCons (cVar 0) (aCons (cTup (aCons (cK (.int 0)) (aCons (cK (.int 1000)) (aCons (cBin oIx (cBin oIx (cVar 3) (cUn oNeg (cK (.int 1)))) (cK (.int 2))) (aCons (cCall 2 F__law_draw (aCons (cVar 0) (aCons (cK (.int 1001)) aNil))) aNil))))) aNil))) (aCons (cBin oDiv (cBin oMul (cVar 6) (cK (.int 1000))) (cVar 4)) aNil))))
    (sSeq (sSet 6 (cBlt bMin2 (aCons (cBin oSub (cVar 6) (cBin oDiv (cBin oAddA (cBin oMul (cVar 7) (cVar 4)) (cK (.int 999))) (cK (.int 1000)))) (aCons (cBin oPow (cK (.int 10)) (cK (.int 6))) aNil))))
    (sSet 3 (cBin oAddA (cVar 3) (cTup (aCons (cTup (aCons (cVar 4) (aCons (cCall 2 F__law_of (aCons (cVar 0) (aCons (cTup (aCons (cVar 6) (aCons (cVar 6) (aCons (cK (.int 0)) (aCons (cCall 2 F__law_draw (aCons (cVar 0) (aCons (cBin oAddA (cVar 6) (cK (.int 1))) aNil))) aNil))))) aNil))) (aCons (cVar 7) aNil)))) aNil))))))) sNil)))
    (sRet (cVar 3))))
def F__law_level_rule : OpB := callF false 8 b__law_level_rule
def b__law_rule : SX := (sSeq (sIf (cTest (cBin oEqA (cCall 2 F__law_draw (aCons (cVar 0) (aCons (cK (.int 2)) aNil))) (cK (.int 0)))) (sRet (cCall 3 F__law_level_rule (aCons (cVar 0) (aCons (cBin oAddA (cK (.int 1)) (cCall 2 F__law_draw (aCons (cVar 0) (aCons (cK (.int 6)) aNil)))) (aCons (cCall 2 F__law_of (aCons (cVar 0) (aCons (cTup (aCons (cK (.int 3)) (aCons (cK (.int 50)) (aCons (cBin oPow (cK (.int 10)) (cK (.int 5))) aNil)))) aNil))) aNil))))) sNil)
    (sSeq (sSet 1 (cBlt bSorted (aCons (cComp (cRange1 (aCons (cCall 2 F__law_draw (aCons (cVar 0) (aCons (cK (.int 6)) aNil))) aNil)) [2] (tName 2) bYes (cBin oAddA (cK (.int 1)) (cCall 2 F__law_draw (aCons (cVar 0) (aCons (cCall 2 F__law_of (aCons (cVar 0) (aCons (cTup (aCons (cK (.int 9)) (aCons (cK (.int 300)) (aCons (cBin oPow (cK (.int 10)) (cK (.int 6))) aNil)))) aNil))) aNil))))) aNil)))
    (sSeq (sSet 3 (cAlloc (cLst (aCons (cTup (aCons (cK (.int 0)) (aCons (cCall 2 F__law_draw (aCons (cVar 0) (aCons (cCall 2 F__law_of (aCons (cVar 0) (aCons (cTup (aCons (cK (.int 1)) (aCons (cK (.int 50)) (aCons (cBin oAddA (cBin oPow (cK (.int 10)) (cK (.int 6))) (cK (.int 1))) aNil)))) aNil))) aNil))) (aCons (cCall 2 F__law_draw (aCons (cVar 0) (aCons (cK (.int 1001)) aNil))) aNil)))) aNil))))
    (sSeq (sFor (cEnum (aCons (cVar 1) aNil)) (tTup 2 (tsCons (tName 4) (tsCons (tName 5) tsNil))) (sIf (bOr (cTest (cBin oEqA (cVar 4) (cK (.int 0)))) (cTest (cBin oGt (cVar 5) (cBin oIx (cVar 1) (cBin oSub (cVar 4) (cK (.int 1))))))) (sExpr (cMt mAppend (cVar 3) (aCons (cTup (aCons (cVar 5) (aCons (cCall 2 F__law_draw (aCons (cVar 0) (aCons (cCall 2 F__law_of (aCons (cVar 0) (aCons (cTup (aCons (cK (.int 1)) (aCons (cK (.int 50)) (aCons (cBin oAddA (cBin oPow (cK (.int 10)) (cK (.int 6))) (cK (.int 1))) aNil)))) aNil))) aNil))) (aCons (cCall 2 F__law_draw (aCons (cVar 0) (aCons (cK (.int 1001)) aNil))) aNil)))) aNil))) sNil))
    (sRet (cBlt bTuple (aCons (cVar 3) aNil)))))))
def F__law_rule : OpB := callF false 6 b__law_rule
def b__law_none : SX := (sSeq (sSet 2 (cCall 2 F__law_draw (aCons (cVar 0) (aCons (cBlt bLen (aCons (cVar 1) aNil)) aNil))))
    (sSeq (sAsg (tTup 3 (tsCons (tName 3) (tsCons (tName 4) (tsCons (tName 5) tsNil)))) (cBin oIx (cVar 1) (cVar 2)))
    (sSeq (sSet 6 (cCall 2 F__law_of (aCons (cVar 0) (aCons (cTup (aCons (cUn oNeg (cK (.int 1))) (aCons (cBin oAddA (cBin oPow (cK (.int 10)) (cK (.int 6))) (cK (.int 1))) (aCons (cK (.bl true)) (aCons (cK .non) (aCons (cK (.str "1")) (aCons (cTup (aCons (cK (.int 1)) aNil)) (aCons (cBin oPow (cK (.int 10)) (cK (.int 30))) (aCons (cLst (aCons (cK (.int 0)) aNil)) aNil))))))))) aNil))))
    (sSeq (sSet 7 (cAlloc (cLst (aCons (cBin oAddA (cBin oAddA (cSliceA (cVar 1) cNo (cPart (cVar 2))) (cTup (aCons (cTup (aCons (cVar 6) (aCons (cVar 4) (aCons (cVar 5) aNil)))) aNil))) (cSliceA (cVar 1) (cPart (cBin oAddA (cVar 2) (cK (.int 1)))) cNo)) (aCons (cBin oAddA (cBin oAddA (cSliceA (cVar 1) cNo (cPart (cVar 2))) (cTup (aCons (cTup (aCons (cVar 3) (aCons (cVar 6) (aCons (cVar 5) aNil)))) aNil))) (cSliceA (cVar 1) (cPart (cBin oAddA (cVar 2) (cK (.int 1)))) cNo)) aNil)))))
    (sSeq (sSet 7 (cAlloc (cBin oCat (cVar 7) (cLst (aCons (cBin oAddA (cBin oAddA (cSliceA (cVar 1) cNo (cPart (cVar 2))) (cTup (aCons (cTup (aCons (cVar 3) (aCons (cVar 4) (aCons (cIfE (cTest (cBin oEqA (cVar 6) (cBin oAddA (cBin oPow (cK (.int 10)) (cK (.int 6))) (cK (.int 1))))) (cK (.int 1001)) (cVar 6)) aNil)))) aNil))) (cSliceA (cVar 1) (cPart (cBin oAddA (cVar 2) (cK (.int 1)))) cNo)) (aCons (cBlt bList (aCons (cVar 1) aNil)) aNil))))))
    (sSeq (sSet 7 (cAlloc (cBin oCat (cVar 7) (cLst (aCons (cTup aNil) (aCons (cK .non) (aCons (cBin oAddA (cVar 1) (cSliceA (cVar 1) cNo (cPart (cK (.int 1))))) (aCons (cBin oAddA (cSliceA (cVar 1) cNo (cPart (cBin oAddA (cVar 2) (cK (.int 1))))) (cSliceA (cVar 1) (cPart (cVar 2)) cNo)) (aCons (cBin oIx (cVar 1) (cK (.int 0))) (aCons (cK (.str "rule")) (aCons (cTup (aCons (cTup (aCons (cK (.int 1)) (aCons (cVar 4) (aCons (cVar 5) aNil)))) aNil)) aNil)))))))))))
    (sSeq (sFor (cSeqA (cTup (aCons (cTup (aCons (cVar 3) (aCons (cVar 4) aNil))) (aCons (cLst (aCons (cVar 3) (aCons (cVar 4) (aCons (cVar 5) aNil)))) (aCons (cK .non) (aCons (cTup (aCons (cVar 3) (aCons (cVar 4) (aCons (cVar 5) (aCons (cK (.int 0)) aNil))))) aNil)))))) (tName 8) (sExpr (cMt mAppend (cVar 7) (aCons (cBin oAddA (cBin oAddA (cSliceA (cVar 1) cNo (cPart (cVar 2))) (cTup (aCons (cVar 8) aNil))) (cSliceA (cVar 1) (cPart (cBin oAddA (cVar 2) (cK (.int 1)))) cNo)) aNil))))
    (sRet (cCall 2 F__law_of (aCons (cVar 0) (aCons (cBin oCat (cVar 7) (cLst (aCons (cBlt bTuple (aCons (cComp (cSeqA (cTup (aCons (cK (.int 0)) (aCons (cK (.int 1)) (aCons (cK (.int 2)) (aCons (cK (.int 3)) (aCons (cK (.int 4)) (aCons (cK (.int 5)) (aCons (cK (.int 6)) aNil))))))))) [9] (tName 9) bYes (cTup (aCons (cVar 9) (aCons (cK (.int 0)) (aCons (cK (.int 0)) aNil))))) aNil)) aNil))) aNil)))))))))))
def F__law_none : OpB := callF false 10 b__law_none
def b__law_right : SX := (sSeq (sFor (cRange1 (aCons (cK (.int 4)) aNil)) (tName 1) (sSeq (sSet 2 (cCall 1 F__law_rule (aCons (cVar 0) aNil)))
    (sSeq (sSet 3 (cLst (aCons (cK (.int 0)) (aCons (cBin oPow (cK (.int 10)) (cK (.int 9))) (aCons (cCall 2 F__law_draw (aCons (cVar 0) (aCons (cBin oPow (cK (.int 10)) (cK (.int 9))) aNil))) (aCons (cCall 2 F__law_draw (aCons (cVar 0) (aCons (cK (.int 1000)) aNil))) aNil))))))
    (sSeq (sFor (cSeqA (cSliceA (cVar 2) (cPart (cK (.int 1))) cNo)) (tTup 3 (tsCons (tName 4) (tsCons (tName 5) (tsCons (tName 6) tsNil)))) (sSet 3 (cBin oAddA (cVar 3) (cLst (aCons (cBin oSub (cVar 4) (cK (.int 1))) (aCons (cVar 4) (aCons (cBin oAddA (cVar 4) (cK (.int 1))) aNil)))))))
    (sSeq (sFor (cSeqA (cVar 3)) (tName 7) (sSeq (sSet 8 (cCall 2 F__law_fee (aCons (cVar 2) (aCons (cVar 7) aNil))))
    (sSeq (sSet 9 (cLst (aCons (cCall 2 F_fee (aCons (cVar 2) (aCons (cVar 7) aNil))) (aCons (cCall 2 F_net (aCons (cVar 2) (aCons (cVar 7) aNil))) (aCons (cCallK 0 2 kn0_g F_fee aNil (aCons (cVar 7) (aCons (cVar 2) aNil))) (aCons (cCallK 0 2 kn1_g F_net aNil (aCons (cVar 7) (aCons (cVar 2) aNil))) aNil))))))
    (sIf (bNot (cTest (cCall 2 F__law_is (aCons (cVar 9) (aCons (cLst (aCons (cVar 8) (aCons (cBin oSub (cVar 7) (cVar 8)) (aCons (cVar 8) (aCons (cBin oSub (cVar 7) (cVar 8)) aNil))))) aNil))))) (sRet (cK (.bl false))) sNil))))
    (sIf (bNot (cTest (cCall 2 F__law_is (aCons (cLst (aCons (cCall 1 F_is_rule (aCons (cVar 2) aNil)) (aCons (cCallK 0 1 kn2_g F_is_rule aNil (aCons (cVar 2) aNil)) (aCons (cCall 1 F_is_rule (aCons (cCall 2 F__law_none (aCons (cVar 0) (aCons (cVar 2) aNil))) aNil)) aNil)))) (aCons (cLst (aCons (cK (.bl true)) (aCons (cK (.bl true)) (aCons (cK (.bl false)) aNil)))) aNil))))) (sRet (cK (.bl false))) sNil))))))
    (sRet (cK (.bl true))))
def F__law_right : OpB := callF false 10 b__law_right
def b_law : SX := (sRet (cBlt bAll (aCons (cComp (cRange1 (aCons (cBlt bMax2 (aCons (cK (.int 1)) (aCons (cBlt bMin2 (aCons (cBlt bLen (aCons (cVar 0) aNil)) (aCons (cK (.int 3)) aNil))) aNil))) aNil)) [1] (tName 1) bYes (cScope (cCall 1 F__law_right (aCons (cAlloc (cCall 2 F__law_well (aCons (cVar 0) (aCons (cVar 1) aNil)))) aNil)))) aNil)))
def F_law : OpB := callF false 2 b_law
/-! ### what the top has written -/
structure Facts (K : PySem.W.Frag) (mg : Str → Option Value) : Prop where
  n_abs : mg "abs" = none
  n_all : mg "all" = none
  n_bool : mg "bool" = none
  n_divmod : mg "divmod" = none
  n_enumerate : mg "enumerate" = none
  n_int : mg "int" = none
  n_isinstance : mg "isinstance" = none
  n_len : mg "len" = none
  n_list : mg "list" = none
  n_max : mg "max" = none
  n_min : mg "min" = none
  n_range : mg "range" = none
  n_repr : mg "repr" = none
  n_sorted : mg "sorted" = none
  n_tuple : mg "tuple" = none
  n_zip : mg "zip" = none
  k_MOST_BEGIN : GlobK K mg "MOST_BEGIN" (.int 1000000)
  k_MOST_RATE : GlobK K mg "MOST_RATE" (.int 1000)
  k_MOST_STEPS : GlobK K mg "MOST_STEPS" (.int 6)
  k_MOST_TOTAL : GlobK K mg "MOST_TOTAL" (.int 1000000000)
  k_WHOLE : GlobK K mg "WHOLE" (.int 1000)
  d_is_whole : ∃ f fd, FunD K "is_whole" "is_whole" (defArgs s_is_whole) (defBody s_is_whole) (defScope s_is_whole) [] [] f fd ∧ mg "is_whole" = some (.ref f)
  d_is_number : ∃ f fd, FunD K "is_number" "is_number" (defArgs s_is_number) (defBody s_is_number) (defScope s_is_number) [] [] f fd ∧ mg "is_number" = some (.ref f)
  d_check_number : ∃ f fd, FunD K "check_number" "check_number" (defArgs s_check_number) (defBody s_check_number) (defScope s_check_number) [] [] f fd ∧ mg "check_number" = some (.ref f)
  d_upper : ∃ f fd, FunD K "upper" "upper" (defArgs s_upper) (defBody s_upper) (defScope s_upper) [] [] f fd ∧ mg "upper" = some (.ref f)
  d_is_tuple_of : ∃ f fd, FunD K "is_tuple_of" "is_tuple_of" (defArgs s_is_tuple_of) (defBody s_is_tuple_of) (defScope s_is_tuple_of) [] [] f fd ∧ mg "is_tuple_of" = some (.ref f)
  d_is_ascending : ∃ f fd, FunD K "is_ascending" "is_ascending" (defArgs s_is_ascending) (defBody s_is_ascending) (defScope s_is_ascending) [] [] f fd ∧ mg "is_ascending" = some (.ref f)
  d_step_at : ∃ f fd, FunD K "step_at" "step_at" (defArgs s_step_at) (defBody s_step_at) (defScope s_step_at) [] [] f fd ∧ mg "step_at" = some (.ref f)
  d_fee_of : ∃ f fd, FunD K "fee_of" "fee_of" (defArgs s_fee_of) (defBody s_fee_of) (defScope s_fee_of) [] [] f fd ∧ mg "fee_of" = some (.ref f)
  d_net_of : ∃ f fd, FunD K "net_of" "net_of" (defArgs s_net_of) (defBody s_net_of) (defScope s_net_of) [] [] f fd ∧ mg "net_of" = some (.ref f)
  d_is_step : ∃ f fd, FunD K "is_step" "is_step" (defArgs s_is_step) (defBody s_is_step) (defScope s_is_step) [] [] f fd ∧ mg "is_step" = some (.ref f)
  d_is_rule : ∃ f fd, FunD K "is_rule" "is_rule" (defArgs s_is_rule) (defBody s_is_rule) (defScope s_is_rule) [] [] f fd ∧ mg "is_rule" = some (.ref f)
  d_check_rule : ∃ f fd, FunD K "check_rule" "check_rule" (defArgs s_check_rule) (defBody s_check_rule) (defScope s_check_rule) [] [] f fd ∧ mg "check_rule" = some (.ref f)
  d_fee : ∃ f fd, FunD K "fee" "fee" (defArgs s_fee) (defBody s_fee) (defScope s_fee) [] [] f fd ∧ mg "fee" = some (.ref f)
  d_net : ∃ f fd, FunD K "net" "net" (defArgs s_net) (defBody s_net) (defScope s_net) [] [] f fd ∧ mg "net" = some (.ref f)
  d__law_well : ∃ f fd, FunD K "_law_well" "_law_well" (defArgs s__law_well) (defBody s__law_well) (defScope s__law_well) [] [] f fd ∧ mg "_law_well" = some (.ref f)
  d__law_draw : ∃ f fd, FunD K "_law_draw" "_law_draw" (defArgs s__law_draw) (defBody s__law_draw) (defScope s__law_draw) [] [] f fd ∧ mg "_law_draw" = some (.ref f)
  d__law_of : ∃ f fd, FunD K "_law_of" "_law_of" (defArgs s__law_of) (defBody s__law_of) (defScope s__law_of) [] [] f fd ∧ mg "_law_of" = some (.ref f)
  d__law_is : ∃ f fd, FunD K "_law_is" "_law_is" (defArgs s__law_is) (defBody s__law_is) (defScope s__law_is) [] [] f fd ∧ mg "_law_is" = some (.ref f)
  d__law_fee : ∃ f fd, FunD K "_law_fee" "_law_fee" (defArgs s__law_fee) (defBody s__law_fee) (defScope s__law_fee) [] [] f fd ∧ mg "_law_fee" = some (.ref f)
  d__law_level_rule : ∃ f fd, FunD K "_law_level_rule" "_law_level_rule" (defArgs s__law_level_rule) (defBody s__law_level_rule) (defScope s__law_level_rule) [] [] f fd ∧ mg "_law_level_rule" = some (.ref f)
  d__law_rule : ∃ f fd, FunD K "_law_rule" "_law_rule" (defArgs s__law_rule) (defBody s__law_rule) (defScope s__law_rule) [] [] f fd ∧ mg "_law_rule" = some (.ref f)
  d__law_none : ∃ f fd, FunD K "_law_none" "_law_none" (defArgs s__law_none) (defBody s__law_none) (defScope s__law_none) [] [] f fd ∧ mg "_law_none" = some (.ref f)
  d__law_right : ∃ f fd, FunD K "_law_right" "_law_right" (defArgs s__law_right) (defBody s__law_right) (defScope s__law_right) [] [] f fd ∧ mg "_law_right" = some (.ref f)
  d_law : ∃ f fd, FunD K "law" "law" (defArgs s_law) (defBody s_law) (defScope s_law) [] [] f fd ∧ mg "law" = some (.ref f)
section
variable {P : Program} {w : World} {K : PySem.W.Frag} {mg : Str → Option Value} {base : Heap}
theorem r_is_whole (Z : Facts K mg) {f : Addr} : ∀ (cdv : Value) (A : Around) (outer : List PySem.Env) (s : Shared) (H : Hp) (E : XK), Room 0 (A.deeper (envOfC "is_whole" (defScope s_is_whole) s.heap.objs.size f cdv)) → A.guards = some [] →
    RSs [] false (cxOf (L2.CX P w) P w K mg base ["value"] "is_whole" (defScope s_is_whole) f cdv A outer s H E) (fun cls d _ H' => E cls d H') (defBody s_is_whole) b_is_whole := by
  intro cdv A outer s H E hr hgu
  unfold b_is_whole
  exact (rss_one (rs_ret (re_and (re_isi (t := .int) (re_var (i := 0)) Z.n_isinstance Z.n_int (by decide +kernel)) (re_one (re_not (re_isi (t := .bool) (re_var (i := 0)) Z.n_isinstance Z.n_bool (by decide +kernel)))))))
theorem g_is_whole (Z : Facts K mg) : DefG P w K mg base [] 1 "is_whole" (defArgs s_is_whole) (defBody s_is_whole) (defScope s_is_whole) ["value"] false F_is_whole := by
  obtain ⟨f, fd, a, b⟩ := Z.d_is_whole
  exact ⟨f, fd, a, b, def_g a sc_is_whole (r_is_whole Z)⟩
theorem r_is_number (Z : Facts K mg) {f : Addr} : ∀ (cdv : Value) (A : Around) (outer : List PySem.Env) (s : Shared) (H : Hp) (E : XK), Room 1 (A.deeper (envOfC "is_number" (defScope s_is_number) s.heap.objs.size f cdv)) → A.guards = some [] →
    RSs [] false (cxOf (L2.CX P w) P w K mg base ["value", "low", "high"] "is_number" (defScope s_is_number) f cdv A outer s H E) (fun cls d _ H' => E cls d H') (defBody s_is_number) b_is_number := by
  intro cdv A outer s H E hr hgu
  unfold b_is_number
  exact (rss_cons (rs_if (RW.t (rw_or (rt_not (rt_val (re_call (g_is_whole Z) pn_is_whole (hr.mono (by decide)) hgu pass_cx (ra_cons (re_var (i := 0)) ra_nil)))) (rw_or1 (RW.t (rw_and (rt_cmp op_notN oNotN_ok (re_var (i := 1)) re_non (nomark _)) (rw_and1 (rt_cmp (op_ltA (Room.units0 hr)) oLtA_ok (re_var (i := 0)) (re_var (i := 1)) (nomark _)))))))) (rss_one (rs_ret re_bl)) rss_nil)
    (rss_one (rs_ret (re_or (re_cmp op_isN oIsN_ok (re_var (i := 2)) re_non (nomark _)) (re_one (re_cmp op_le oLe_ok (re_var (i := 0)) (re_var (i := 2)) (nomark _)))))))
theorem g_is_number (Z : Facts K mg) : DefG P w K mg base [] 2 "is_number" (defArgs s_is_number) (defBody s_is_number) (defScope s_is_number) ["value", "low", "high"] false F_is_number := by
  obtain ⟨f, fd, a, b⟩ := Z.d_is_number
  exact ⟨f, fd, a, b, def_g a sc_is_number (r_is_number Z)⟩
theorem r_check_number (Z : Facts K mg) {f : Addr} : ∀ (cdv : Value) (A : Around) (outer : List PySem.Env) (s : Shared) (H : Hp) (E : XK), Room 2 (A.deeper (envOfC "check_number" (defScope s_check_number) s.heap.objs.size f cdv)) → A.guards = some [] →
    RSs [] false (cxOf (L2.CX P w) P w K mg base ["value", "low", "high"] "check_number" (defScope s_check_number) f cdv A outer s H E) (fun cls d _ H' => E cls d H') (defBody s_check_number) b_check_number := by
  intro cdv A outer s H E hr hgu
  unfold b_check_number
  exact (rss_one (rs_if (rt_not (rt_val (re_call (g_is_number Z) pn_is_number (hr.mono (by decide)) hgu pass_cx (ra_cons (re_var (i := 0)) (ra_cons (re_var (i := 1)) (ra_cons (re_var (i := 2)) ra_nil)))))) (rss_one rs_never) rss_nil))
theorem g_check_number (Z : Facts K mg) : DefG P w K mg base [] 3 "check_number" (defArgs s_check_number) (defBody s_check_number) (defScope s_check_number) ["value", "low", "high"] false F_check_number := by
  obtain ⟨f, fd, a, b⟩ := Z.d_check_number
  exact ⟨f, fd, a, b, def_g a sc_check_number (r_check_number Z)⟩
theorem r_upper (Z : Facts K mg) {f : Addr} : ∀ (cdv : Value) (A : Around) (outer : List PySem.Env) (s : Shared) (H : Hp) (E : XK), Room 0 (A.deeper (envOfC "upper" (defScope s_upper) s.heap.objs.size f cdv)) → A.guards = some [] →
    RSs [] false (cxOf (L2.CX P w) P w K mg base ["number", "by"] "upper" (defScope s_upper) f cdv A outer s H E) (fun cls d _ H' => E cls d H') (defBody s_upper) b_upper := by
  intro cdv A outer s H E hr hgu
  unfold b_upper
  exact (rss_one (rs_ret (re_neg (re_bin op_fdivN oDiv_ok (re_neg (re_var (i := 0))) (re_var (i := 1))))))
theorem g_upper (Z : Facts K mg) : DefG P w K mg base [] 1 "upper" (defArgs s_upper) (defBody s_upper) (defScope s_upper) ["number", "by"] false F_upper := by
  obtain ⟨f, fd, a, b⟩ := Z.d_upper
  exact ⟨f, fd, a, b, def_g a sc_upper (r_upper Z)⟩
theorem r_is_tuple_of (Z : Facts K mg) {f : Addr} : ∀ (cdv : Value) (A : Around) (outer : List PySem.Env) (s : Shared) (H : Hp) (E : XK), Room 0 (A.deeper (envOfC "is_tuple_of" (defScope s_is_tuple_of) s.heap.objs.size f cdv)) → A.guards = some [] →
    RSs [] false (cxOf (L2.CX P w) P w K mg base ["value", "many"] "is_tuple_of" (defScope s_is_tuple_of) f cdv A outer s H E) (fun cls d _ H' => E cls d H') (defBody s_is_tuple_of) b_is_tuple_of := by
  intro cdv A outer s H E hr hgu
  unfold b_is_tuple_of
  exact (rss_one (rs_ret (re_and (re_isi (t := .tuple) (re_var (i := 0)) Z.n_isinstance Z.n_tuple (by decide +kernel)) (re_one (re_cmp (op_eqA (Room.units hr)) oEqA_ok (re_callB call_len bLen_ok Z.n_len (by decide +kernel) (ra_cons (re_var (i := 0)) ra_nil)) (re_var (i := 1)) (nomark _))))))
theorem g_is_tuple_of (Z : Facts K mg) : DefG P w K mg base [] 1 "is_tuple_of" (defArgs s_is_tuple_of) (defBody s_is_tuple_of) (defScope s_is_tuple_of) ["value", "many"] false F_is_tuple_of := by
  obtain ⟨f, fd, a, b⟩ := Z.d_is_tuple_of
  exact ⟨f, fd, a, b, def_g a sc_is_tuple_of (r_is_tuple_of Z)⟩
theorem r_is_ascending (Z : Facts K mg) {f : Addr} : ∀ (cdv : Value) (A : Around) (outer : List PySem.Env) (s : Shared) (H : Hp) (E : XK), Room 0 (A.deeper (envOfC "is_ascending" (defScope s_is_ascending) s.heap.objs.size f cdv)) → A.guards = some [] →
    RSs [] false (cxOf (L2.CX P w) P w K mg base ["values", "one", "two"] "is_ascending" (defScope s_is_ascending) f cdv A outer s H E) (fun cls d _ H' => E cls d H') (defBody s_is_ascending) b_is_ascending := by
  intro cdv A outer s H E hr hgu
  unfold b_is_ascending
  exact (rss_one (rs_ret (re_callB (cr_all rfl) bAll_ok Z.n_all (by decide +kernel) (ra_cons (RE.frozen (re_comp rfl sc_is_ascending.nd (blkOk_by (N := ["values", "one", "two"]) (sc := (defScope s_is_ascending)) (own := [("one", 1), ("two", 2)]) (by decide +kernel)) rfl (by decide) (ri_zip (ra_cons (re_var (i := 0)) (ra_cons (re_sliceA (re_var (i := 0)) (ro_some re_int) ro_none) ra_nil)) Z.n_zip) (fun _ _ _ _ _ => (rg_tup rfl (rgs_cons (rg_name (i := 1) sc_is_ascending.nd) (rgs_cons (rg_name (i := 2) sc_is_ascending.nd) rgs_nil)))) (fun _ _ _ _ _ => rts_nil) (fun _ _ _ _ _ => (re_cmp (op_ltA (Room.units0 hr)) oLtA_ok (re_var (i := 1)) (re_var (i := 2)) (nomark _))))) ra_nil))))
theorem g_is_ascending (Z : Facts K mg) : DefG P w K mg base [] 1 "is_ascending" (defArgs s_is_ascending) (defBody s_is_ascending) (defScope s_is_ascending) ["values"] false F_is_ascending := by
  obtain ⟨f, fd, a, b⟩ := Z.d_is_ascending
  exact ⟨f, fd, a, b, def_g a sc_is_ascending (r_is_ascending Z)⟩
theorem r_step_at (Z : Facts K mg) {f : Addr} : ∀ (cdv : Value) (A : Around) (outer : List PySem.Env) (s : Shared) (H : Hp) (E : XK), Room 0 (A.deeper (envOfC "step_at" (defScope s_step_at) s.heap.objs.size f cdv)) → A.guards = some [] →
    RSs [] false (cxOf (L2.CX P w) P w K mg base ["rule", "total", "step"] "step_at" (defScope s_step_at) f cdv A outer s H E) (fun cls d _ H' => E cls d H') (defBody s_step_at) b_step_at := by
  intro cdv A outer s H E hr hgu
  unfold b_step_at
  exact (rss_one (rs_ret (re_ix (RE.frozen (re_comp rfl sc_step_at.nd (blkOk_by (N := ["rule", "total", "step"]) (sc := (defScope s_step_at)) (own := [("step", 2)]) (by decide +kernel)) rfl (by decide) (ri_seqA (re_var (i := 0))) (fun _ _ _ _ _ => (rg_name (i := 2) sc_step_at.nd)) (fun _ _ _ _ _ => (rts_one (rt_cmp op_le oLe_ok (re_ix (re_var (i := 2)) re_int (fun _ _ => rfl)) (re_var (i := 1)) (nomark _)))) (fun _ _ _ _ _ => (re_var (i := 2))))) (re_neg re_int) (fun _ _ => rfl))))
theorem g_step_at (Z : Facts K mg) : DefG P w K mg base [] 1 "step_at" (defArgs s_step_at) (defBody s_step_at) (defScope s_step_at) ["rule", "total"] false F_step_at := by
  obtain ⟨f, fd, a, b⟩ := Z.d_step_at
  exact ⟨f, fd, a, b, def_g a sc_step_at (r_step_at Z)⟩
theorem r_fee_of (Z : Facts K mg) {f : Addr} : ∀ (cdv : Value) (A : Around) (outer : List PySem.Env) (s : Shared) (H : Hp) (E : XK), Room 1 (A.deeper (envOfC "fee_of" (defScope s_fee_of) s.heap.objs.size f cdv)) → A.guards = some [] →
    RSs [] false (cxOf (L2.CX P w) P w K mg base ["rule", "total", "_", "base", "rate"] "fee_of" (defScope s_fee_of) f cdv A outer s H E) (fun cls d _ H' => E cls d H') (defBody s_fee_of) b_fee_of := by
  intro cdv A outer s H E hr hgu
  unfold b_fee_of
  exact (rss_cons (rs_asg (re_call (g_step_at Z) pn_step_at (hr.mono (by decide)) hgu pass_cx (ra_cons (re_var (i := 0)) (ra_cons (re_var (i := 1)) ra_nil))) (rg_tup rfl (rgs_cons (rg_name (i := 2) sc_fee_of.nd) (rgs_cons (rg_name (i := 3) sc_fee_of.nd) (rgs_cons (rg_name (i := 4) sc_fee_of.nd) rgs_nil)))))
    (rss_one (rs_ret (re_bin op_add4 oAddA_ok (re_var (i := 3)) (re_call (g_upper Z) pn_upper (hr.mono (by decide)) hgu pass_cx (ra_cons (re_bin op_mul oMul_ok (re_var (i := 4)) (re_var (i := 1))) (ra_cons (re_glob Z.k_WHOLE) ra_nil)))))))
theorem g_fee_of (Z : Facts K mg) : DefG P w K mg base [] 2 "fee_of" (defArgs s_fee_of) (defBody s_fee_of) (defScope s_fee_of) ["rule", "total"] false F_fee_of := by
  obtain ⟨f, fd, a, b⟩ := Z.d_fee_of
  exact ⟨f, fd, a, b, def_g a sc_fee_of (r_fee_of Z)⟩
theorem r_net_of (Z : Facts K mg) {f : Addr} : ∀ (cdv : Value) (A : Around) (outer : List PySem.Env) (s : Shared) (H : Hp) (E : XK), Room 2 (A.deeper (envOfC "net_of" (defScope s_net_of) s.heap.objs.size f cdv)) → A.guards = some [] →
    RSs [] false (cxOf (L2.CX P w) P w K mg base ["rule", "total"] "net_of" (defScope s_net_of) f cdv A outer s H E) (fun cls d _ H' => E cls d H') (defBody s_net_of) b_net_of := by
  intro cdv A outer s H E hr hgu
  unfold b_net_of
  exact (rss_one (rs_ret (re_bin op_sub oSub_ok (re_var (i := 1)) (re_call (g_fee_of Z) pn_fee_of (hr.mono (by decide)) hgu pass_cx (ra_cons (re_var (i := 0)) (ra_cons (re_var (i := 1)) ra_nil))))))
theorem g_net_of (Z : Facts K mg) : DefG P w K mg base [] 3 "net_of" (defArgs s_net_of) (defBody s_net_of) (defScope s_net_of) ["rule", "total"] false F_net_of := by
  obtain ⟨f, fd, a, b⟩ := Z.d_net_of
  exact ⟨f, fd, a, b, def_g a sc_net_of (r_net_of Z)⟩
theorem r_is_step (Z : Facts K mg) {f : Addr} : ∀ (cdv : Value) (A : Around) (outer : List PySem.Env) (s : Shared) (H : Hp) (E : XK), Room 2 (A.deeper (envOfC "is_step" (defScope s_is_step) s.heap.objs.size f cdv)) → A.guards = some [] →
    RSs [] false (cxOf (L2.CX P w) P w K mg base ["value"] "is_step" (defScope s_is_step) f cdv A outer s H E) (fun cls d _ H' => E cls d H') (defBody s_is_step) b_is_step := by
  intro cdv A outer s H E hr hgu
  unfold b_is_step
  exact (rss_cons (rs_if (RW.t (rw_or (rt_not (rt_val (re_call (g_is_tuple_of Z) pn_is_tuple_of (hr.mono (by decide)) hgu pass_cx (ra_cons (re_var (i := 0)) (ra_cons re_int ra_nil))))) (rw_or1 (rt_not (rt_val (re_call (g_is_number Z) pn_is_number (hr.mono (by decide)) hgu pass_cx (ra_cons (re_ix (re_var (i := 0)) re_int (fun _ _ => rfl)) (ra_cons re_int (ra_cons (re_glob Z.k_MOST_RATE) ra_nil))))))))) (rss_one (rs_ret re_bl)) rss_nil)
    (rss_one (rs_ret (re_and (re_call (g_is_number Z) pn_is_number (hr.mono (by decide)) hgu pass_cx (ra_cons (re_ix (re_var (i := 0)) re_int (fun _ _ => rfl)) (ra_cons re_int (ra_cons (re_glob Z.k_MOST_BEGIN) ra_nil)))) (re_one (re_call (g_is_number Z) pn_is_number (hr.mono (by decide)) hgu pass_cx (ra_cons (re_ix (re_var (i := 0)) re_int (fun _ _ => rfl)) (ra_cons re_int (ra_cons (re_glob Z.k_MOST_BEGIN) ra_nil)))))))))
theorem g_is_step (Z : Facts K mg) : DefG P w K mg base [] 3 "is_step" (defArgs s_is_step) (defBody s_is_step) (defScope s_is_step) ["value"] false F_is_step := by
  obtain ⟨f, fd, a, b⟩ := Z.d_is_step
  exact ⟨f, fd, a, b, def_g a sc_is_step (r_is_step Z)⟩
theorem r_is_rule (Z : Facts K mg) {f : Addr} : ∀ (cdv : Value) (A : Around) (outer : List PySem.Env) (s : Shared) (H : Hp) (E : XK), Room 3 (A.deeper (envOfC "is_rule" (defScope s_is_rule) s.heap.objs.size f cdv)) → A.guards = some [] →
    RSs [] false (cxOf (L2.CX P w) P w K mg base ["value", "step"] "is_rule" (defScope s_is_rule) f cdv A outer s H E) (fun cls d _ H' => E cls d H') (defBody s_is_rule) b_is_rule := by
  intro cdv A outer s H E hr hgu
  unfold b_is_rule
  exact (rss_cons (rs_if (RW.t (rw_or (rt_not (rt_val (re_isi (t := .tuple) (re_var (i := 0)) Z.n_isinstance Z.n_tuple (by decide +kernel)))) (rw_or (rt_not (rt_chain op_le op_le oLe_ok oLe_ok re_int (re_callB call_len bLen_ok Z.n_len (by decide +kernel) (ra_cons (re_var (i := 0)) ra_nil)) (re_glob Z.k_MOST_STEPS))) (rw_or1 (rt_not (rt_val (re_callB (cr_all rfl) bAll_ok Z.n_all (by decide +kernel) (ra_cons (RE.frozen (re_comp rfl sc_is_rule.nd (blkOk_by (N := ["value", "step"]) (sc := (defScope s_is_rule)) (own := [("step", 1)]) (by decide +kernel)) rfl (by decide) (ri_seqA (re_var (i := 0))) (fun _ _ _ _ _ => (rg_name (i := 1) sc_is_rule.nd)) (fun _ _ _ _ _ => rts_nil) (fun _ _ _ _ _ => (re_call (g_is_step Z) pn_is_step (hr.mono (by decide)) hgu pass_blk (ra_cons (re_var (i := 1)) ra_nil))))) ra_nil)))))))) (rss_one (rs_ret re_bl)) rss_nil)
    (rss_one (rs_ret (re_and (re_cmp (op_eqA (Room.units hr)) oEqA_ok (re_ix (re_ix (re_var (i := 0)) re_int (fun _ _ => rfl)) re_int (fun _ _ => rfl)) re_int (nomark _)) (re_one (re_call (g_is_ascending Z) pn_is_ascending (hr.mono (by decide)) hgu pass_cx (ra_cons (RE.frozen (re_comp rfl sc_is_rule.nd (blkOk_by (N := ["value", "step"]) (sc := (defScope s_is_rule)) (own := [("step", 1)]) (by decide +kernel)) rfl (by decide) (ri_seqA (re_var (i := 0))) (fun _ _ _ _ _ => (rg_name (i := 1) sc_is_rule.nd)) (fun _ _ _ _ _ => rts_nil) (fun _ _ _ _ _ => (re_ix (re_var (i := 1)) re_int (fun _ _ => rfl))))) ra_nil)))))))
theorem g_is_rule (Z : Facts K mg) : DefG P w K mg base [] 4 "is_rule" (defArgs s_is_rule) (defBody s_is_rule) (defScope s_is_rule) ["value"] false F_is_rule := by
  obtain ⟨f, fd, a, b⟩ := Z.d_is_rule
  exact ⟨f, fd, a, b, def_g a sc_is_rule (r_is_rule Z)⟩
theorem r_check_rule (Z : Facts K mg) {f : Addr} : ∀ (cdv : Value) (A : Around) (outer : List PySem.Env) (s : Shared) (H : Hp) (E : XK), Room 4 (A.deeper (envOfC "check_rule" (defScope s_check_rule) s.heap.objs.size f cdv)) → A.guards = some [] →
    RSs [] false (cxOf (L2.CX P w) P w K mg base ["value"] "check_rule" (defScope s_check_rule) f cdv A outer s H E) (fun cls d _ H' => E cls d H') (defBody s_check_rule) b_check_rule := by
  intro cdv A outer s H E hr hgu
  unfold b_check_rule
  exact (rss_one (rs_if (rt_not (rt_val (re_call (g_is_rule Z) pn_is_rule (hr.mono (by decide)) hgu pass_cx (ra_cons (re_var (i := 0)) ra_nil)))) (rss_one rs_never) rss_nil))
theorem g_check_rule (Z : Facts K mg) : DefG P w K mg base [] 5 "check_rule" (defArgs s_check_rule) (defBody s_check_rule) (defScope s_check_rule) ["value"] false F_check_rule := by
  obtain ⟨f, fd, a, b⟩ := Z.d_check_rule
  exact ⟨f, fd, a, b, def_g a sc_check_rule (r_check_rule Z)⟩
theorem r_fee (Z : Facts K mg) {f : Addr} : ∀ (cdv : Value) (A : Around) (outer : List PySem.Env) (s : Shared) (H : Hp) (E : XK), Room 5 (A.deeper (envOfC "fee" (defScope s_fee) s.heap.objs.size f cdv)) → A.guards = some [] →
    RSs [] false (cxOf (L2.CX P w) P w K mg base ["rule", "total"] "fee" (defScope s_fee) f cdv A outer s H E) (fun cls d _ H' => E cls d H') (defBody s_fee) b_fee := by
  intro cdv A outer s H E hr hgu
  unfold b_fee
  exact (rss_cons (rs_expr (re_call (g_check_rule Z) pn_check_rule (hr.mono (by decide)) hgu pass_cx (ra_cons (re_var (i := 0)) ra_nil)))
    (rss_cons (rs_expr (re_call (g_check_number Z) pn_check_number (hr.mono (by decide)) hgu pass_cx (ra_cons (re_var (i := 1)) (ra_cons re_int (ra_cons (re_glob Z.k_MOST_TOTAL) ra_nil)))))
    (rss_one (rs_ret (re_call (g_fee_of Z) pn_fee_of (hr.mono (by decide)) hgu pass_cx (ra_cons (re_var (i := 0)) (ra_cons (re_var (i := 1)) ra_nil)))))))
theorem g_fee (Z : Facts K mg) : DefG P w K mg base [] 6 "fee" (defArgs s_fee) (defBody s_fee) (defScope s_fee) ["rule", "total"] false F_fee := by
  obtain ⟨f, fd, a, b⟩ := Z.d_fee
  exact ⟨f, fd, a, b, def_g a sc_fee (r_fee Z)⟩
theorem r_net (Z : Facts K mg) {f : Addr} : ∀ (cdv : Value) (A : Around) (outer : List PySem.Env) (s : Shared) (H : Hp) (E : XK), Room 5 (A.deeper (envOfC "net" (defScope s_net) s.heap.objs.size f cdv)) → A.guards = some [] →
    RSs [] false (cxOf (L2.CX P w) P w K mg base ["rule", "total"] "net" (defScope s_net) f cdv A outer s H E) (fun cls d _ H' => E cls d H') (defBody s_net) b_net := by
  intro cdv A outer s H E hr hgu
  unfold b_net
  exact (rss_cons (rs_expr (re_call (g_check_rule Z) pn_check_rule (hr.mono (by decide)) hgu pass_cx (ra_cons (re_var (i := 0)) ra_nil)))
    (rss_cons (rs_expr (re_call (g_check_number Z) pn_check_number (hr.mono (by decide)) hgu pass_cx (ra_cons (re_var (i := 1)) (ra_cons re_int (ra_cons (re_glob Z.k_MOST_TOTAL) ra_nil)))))
    (rss_one (rs_ret (re_call (g_net_of Z) pn_net_of (hr.mono (by decide)) hgu pass_cx (ra_cons (re_var (i := 0)) (ra_cons (re_var (i := 1)) ra_nil)))))))
theorem g_net (Z : Facts K mg) : DefG P w K mg base [] 6 "net" (defArgs s_net) (defBody s_net) (defScope s_net) ["rule", "total"] false F_net := by
  obtain ⟨f, fd, a, b⟩ := Z.d_net
  exact ⟨f, fd, a, b, def_g a sc_net (r_net Z)⟩
theorem r__law_well (Z : Facts K mg) {f : Addr} : ∀ (cdv : Value) (A : Around) (outer : List PySem.Env) (s : Shared) (H : Hp) (E : XK), Room 0 (A.deeper (envOfC "_law_well" (defScope s__law_well) s.heap.objs.size f cdv)) → A.guards = some [] →
    RSs [] true (cxOf (L2.CX P w) P w K mg base ["script", "lap", "stirred", "cell", "own"] "_law_well" (defScope s__law_well) f cdv A outer s H E) (fun cls d _ H' => E cls d H') (defBody s__law_well) b__law_well := by
  intro cdv A outer s H E hr hgu
  unfold b__law_well
  exact (rss_cons (rs_set (i := 2) sc__law_well.nd (re_bin op_add4 oAddA_ok re_int (re_bin op_mul oMul_ok re_int (re_var (i := 1)))))
    (rss_cons (rs_for own_cx rfl (ri_seqA (RE.frozen (re_sliceL (re_var (i := 0)) ro_none (ro_some re_int)))) (rg_name (i := 3) sc__law_well.nd) (rss_one (rs_set (i := 2) sc__law_well.nd (re_bin op_modN oMod_ok (re_callTy call_int1 bInt_ok Z.n_int (by decide +kernel) (ra_cons (re_bin op_add4 oAddA_ok (re_bin op_add4 oAddA_ok (re_bin op_mul oMul_ok (re_var (i := 2)) re_int) (re_bin op_modN oMod_ok (re_callTy call_int1 bInt_ok Z.n_int (by decide +kernel) (ra_cons (re_var (i := 3)) ra_nil)) re_int)) re_int) ra_nil)) re_int))))
    (rss_cons (rs_set (i := 4) sc__law_well.nd (re_if (rt_cmp (op_ltA (Room.units0 hr)) oLtA_ok (re_var (i := 1)) (re_callB call_len bLen_ok Z.n_len (by decide +kernel) (ra_cons (re_var (i := 0)) ra_nil)) (nomark _)) (re_callTy call_int1 bInt_ok Z.n_int (by decide +kernel) (ra_cons (re_ix (re_var (i := 0)) (re_var (i := 1)) (fun _ _ => rfl)) ra_nil)) re_int))
    (rss_cons (rs_set (i := 2) sc__law_well.nd (re_bin op_modN oMod_ok (re_callTy call_int1 bInt_ok Z.n_int (by decide +kernel) (ra_cons (re_bin op_add4 oAddA_ok (re_bin op_add4 oAddA_ok (re_bin op_mul oMul_ok (re_var (i := 2)) re_int) (re_bin op_mul oMul_ok (re_bin op_modN oMod_ok (re_callTy call_int1 bInt_ok Z.n_int (by decide +kernel) (ra_cons (re_var (i := 4)) ra_nil)) re_int) re_int)) re_int) ra_nil)) re_int))
    (rss_one (rs_ret (re_lst (ra_cons (re_if (RW.t (rw_or (rt_cmp (op_ltA (Room.units0 hr)) oLtA_ok (re_var (i := 4)) re_int (nomark _)) (rw_or1 (rt_cmp op_ge oGe_ok (re_var (i := 4)) (re_bin op_pow oPow_ok re_int re_int) (nomark _))))) (re_callB call_abs bAbs_ok Z.n_abs (by decide +kernel) (ra_cons (re_var (i := 4)) ra_nil)) re_int) (ra_cons (re_var (i := 2)) (ra_cons re_int ra_nil))))))))))
theorem g__law_well (Z : Facts K mg) : DefG P w K mg base [] 1 "_law_well" (defArgs s__law_well) (defBody s__law_well) (defScope s__law_well) ["script", "lap"] true F__law_well := by
  obtain ⟨f, fd, a, b⟩ := Z.d__law_well
  exact ⟨f, fd, a, b, def_g a sc__law_well (r__law_well Z)⟩
theorem r__law_draw (Z : Facts K mg) {f : Addr} : ∀ (cdv : Value) (A : Around) (outer : List PySem.Env) (s : Shared) (H : Hp) (E : XK), Room 0 (A.deeper (envOfC "_law_draw" (defScope s__law_draw) s.heap.objs.size f cdv)) → A.guards = some [] →
    RSs [] false (cxOf (L2.CX P w) P w K mg base ["well", "limit", "figure", "mixed"] "_law_draw" (defScope s__law_draw) f cdv A outer s H E) (fun cls d _ H' => E cls d H') (defBody s__law_draw) b__law_draw := by
  intro cdv A outer s H E hr hgu
  unfold b__law_draw
  exact (rss_cons (rs_if (rt_cmp op_gt oGt_ok (re_ix (re_var (i := 0)) re_int (fun _ _ => rfl)) re_int (nomark _)) (rss_cons (rs_asg (re_callB call_divmod bDivmod_ok Z.n_divmod (by decide +kernel) (ra_cons (re_ix (re_var (i := 0)) re_int (fun _ _ => rfl)) (ra_cons (re_var (i := 1)) ra_nil))) (rg_tup rfl (rgs_cons (rg_sub (re_var (i := 0)) re_int) (rgs_cons (rg_name (i := 2) sc__law_draw.nd) rgs_nil))))
    (rss_one (rs_ret (re_var (i := 2))))) rss_nil)
    (rss_cons (rs_asg (re_bin op_add4 oAddA_ok (re_ix (re_var (i := 0)) re_int (fun _ _ => rfl)) re_int) (rg_sub (re_var (i := 0)) re_int))
    (rss_cons (rs_set (i := 3) sc__law_draw.nd (re_bin op_modN oMod_ok (re_callTy call_int1 bInt_ok Z.n_int (by decide +kernel) (ra_cons (re_bin op_add4 oAddA_ok (re_bin op_mul oMul_ok (re_ix (re_var (i := 0)) re_int (fun _ _ => rfl)) re_int) (re_bin op_mul oMul_ok re_int (re_ix (re_var (i := 0)) re_int (fun _ _ => rfl)))) ra_nil)) re_int))
    (rss_cons (rs_asg (re_bin op_modN oMod_ok (re_callTy call_int1 bInt_ok Z.n_int (by decide +kernel) (ra_cons (re_bin op_add4 oAddA_ok (re_bin op_mul oMul_ok (re_var (i := 3)) (re_bin op_add4 oAddA_ok (re_bin op_modN oMod_ok (re_callTy call_int1 bInt_ok Z.n_int (by decide +kernel) (ra_cons (re_var (i := 3)) ra_nil)) re_int) re_int)) (re_ix (re_var (i := 0)) re_int (fun _ _ => rfl))) ra_nil)) re_int) (rg_sub (re_var (i := 0)) re_int))
    (rss_one (rs_ret (re_bin op_modN oMod_ok (re_callTy call_int1 bInt_ok Z.n_int (by decide +kernel) (ra_cons (re_bin op_fdivN oDiv_ok (re_ix (re_var (i := 0)) re_int (fun _ _ => rfl)) re_int) ra_nil)) (re_var (i := 1)))))))))
theorem g__law_draw (Z : Facts K mg) : DefG P w K mg base [] 1 "_law_draw" (defArgs s__law_draw) (defBody s__law_draw) (defScope s__law_draw) ["well", "limit"] false F__law_draw := by
  obtain ⟨f, fd, a, b⟩ := Z.d__law_draw
  exact ⟨f, fd, a, b, def_g a sc__law_draw (r__law_draw Z)⟩
theorem r__law_of (Z : Facts K mg) {f : Addr} : ∀ (cdv : Value) (A : Around) (outer : List PySem.Env) (s : Shared) (H : Hp) (E : XK), Room 1 (A.deeper (envOfC "_law_of" (defScope s__law_of) s.heap.objs.size f cdv)) → A.guards = some [] →
    RSs [] false (cxOf (L2.CX P w) P w K mg base ["well", "some"] "_law_of" (defScope s__law_of) f cdv A outer s H E) (fun cls d _ H' => E cls d H') (defBody s__law_of) b__law_of := by
  intro cdv A outer s H E hr hgu
  unfold b__law_of
  exact (rss_one (rs_ret (re_ix (re_var (i := 1)) (re_call (g__law_draw Z) pn__law_draw (hr.mono (by decide)) hgu pass_cx (ra_cons (re_var (i := 0)) (ra_cons (re_callB call_len bLen_ok Z.n_len (by decide +kernel) (ra_cons (re_var (i := 1)) ra_nil)) ra_nil))) (fun _ _ => rfl))))
theorem g__law_of (Z : Facts K mg) : DefG P w K mg base [] 2 "_law_of" (defArgs s__law_of) (defBody s__law_of) (defScope s__law_of) ["well", "some"] false F__law_of := by
  obtain ⟨f, fd, a, b⟩ := Z.d__law_of
  exact ⟨f, fd, a, b, def_g a sc__law_of (r__law_of Z)⟩
theorem r__law_is (Z : Facts K mg) {f : Addr} : ∀ (cdv : Value) (A : Around) (outer : List PySem.Env) (s : Shared) (H : Hp) (E : XK), Room 0 (A.deeper (envOfC "_law_is" (defScope s__law_is) s.heap.objs.size f cdv)) → A.guards = some [] →
    RSs [] false (cxOf (L2.CX P w) P w K mg base ["told", "due"] "_law_is" (defScope s__law_is) f cdv A outer s H E) (fun cls d _ H' => E cls d H') (defBody s__law_is) b__law_is := by
  intro cdv A outer s H E hr hgu
  unfold b__law_is
  exact (rss_one (rs_ret (re_cmp (op_eqA (Room.units hr)) oEqA_ok (re_callB (call_repr hgu (Room.units hr)) bRepr_ok Z.n_repr (by decide +kernel) (ra_cons (re_var (i := 0)) ra_nil)) (re_callB (call_repr hgu (Room.units hr)) bRepr_ok Z.n_repr (by decide +kernel) (ra_cons (re_var (i := 1)) ra_nil)) (nomark _))))
theorem g__law_is (Z : Facts K mg) : DefG P w K mg base [] 1 "_law_is" (defArgs s__law_is) (defBody s__law_is) (defScope s__law_is) ["told", "due"] false F__law_is := by
  obtain ⟨f, fd, a, b⟩ := Z.d__law_is
  exact ⟨f, fd, a, b, def_g a sc__law_is (r__law_is Z)⟩
theorem r__law_fee (Z : Facts K mg) {f : Addr} : ∀ (cdv : Value) (A : Around) (outer : List PySem.Env) (s : Shared) (H : Hp) (E : XK), Room 0 (A.deeper (envOfC "_law_fee" (defScope s__law_fee) s.heap.objs.size f cdv)) → A.guards = some [] →
    RSs [] false (cxOf (L2.CX P w) P w K mg base ["rule", "total", "step", "each"] "_law_fee" (defScope s__law_fee) f cdv A outer s H E) (fun cls d _ H' => E cls d H') (defBody s__law_fee) b__law_fee := by
  intro cdv A outer s H E hr hgu
  unfold b__law_fee
  exact (rss_cons (rs_set (i := 2) sc__law_fee.nd (re_ix (RE.frozen (re_comp rfl sc__law_fee.nd (blkOk_by (N := ["rule", "total", "step", "each"]) (sc := (defScope s__law_fee)) (own := [("each", 3)]) (by decide +kernel)) rfl (by decide) (ri_seqA (re_var (i := 0))) (fun _ _ _ _ _ => (rg_name (i := 3) sc__law_fee.nd)) (fun _ _ _ _ _ => (rts_one (rt_cmp op_le oLe_ok (re_ix (re_var (i := 3)) re_int (fun _ _ => rfl)) (re_var (i := 1)) (nomark _)))) (fun _ _ _ _ _ => (re_var (i := 3))))) (re_neg re_int) (fun _ _ => rfl)))
    (rss_one (rs_ret (re_bin op_add4 oAddA_ok (re_ix (re_var (i := 2)) re_int (fun _ _ => rfl)) (re_bin op_fdivN oDiv_ok (re_bin op_add4 oAddA_ok (re_bin op_mul oMul_ok (re_ix (re_var (i := 2)) re_int (fun _ _ => rfl)) (re_var (i := 1))) re_int) re_int)))))
theorem g__law_fee (Z : Facts K mg) : DefG P w K mg base [] 1 "_law_fee" (defArgs s__law_fee) (defBody s__law_fee) (defScope s__law_fee) ["rule", "total"] false F__law_fee := by
  obtain ⟨f, fd, a, b⟩ := Z.d__law_fee
  exact ⟨f, fd, a, b, def_g a sc__law_fee (r__law_fee Z)⟩
theorem r__law_level_rule (Z : Facts K mg) {f : Addr} : ∀ (cdv : Value) (A : Around) (outer : List PySem.Env) (s : Shared) (H : Hp) (E : XK), Room 2 (A.deeper (envOfC "_law_level_rule" (defScope s__law_level_rule) s.heap.objs.size f cdv)) → A.guards = some [] →
    RSs [] false (cxOf (L2.CX P w) P w K mg base ["well", "many", "wide", "rule", "start", "turn", "left", "rate"] "_law_level_rule" (defScope s__law_level_rule) f cdv A outer s H E) (fun cls d _ H' => E cls d H') (defBody s__law_level_rule) b__law_level_rule := by
  intro cdv A outer s H E hr hgu
  unfold b__law_level_rule
  exact (rss_cons (rs_par (i := 3) (j := 4) rfl sc__law_level_rule.nd (ra_cons (re_tup (ra_cons (re_tup (ra_cons re_int (ra_cons (re_call (g__law_draw Z) pn__law_draw (hr.mono (by decide)) hgu pass_cx (ra_cons (re_var (i := 0)) (ra_cons (re_call (g__law_of Z) pn__law_of (hr.mono (by decide)) hgu pass_cx (ra_cons (re_var (i := 0)) (ra_cons (re_tup (ra_cons re_int (ra_cons re_int (ra_cons re_int (ra_cons (re_bin op_add4 oAddA_ok (re_bin op_pow oPow_ok re_int re_int) re_int) ra_nil))))) ra_nil))) ra_nil))) (ra_cons (re_call (g__law_draw Z) pn__law_draw (hr.mono (by decide)) hgu pass_cx (ra_cons (re_var (i := 0)) (ra_cons re_int ra_nil))) ra_nil)))) ra_nil)) (ra_cons re_int ra_nil)))
    (rss_cons (rs_for own_cx rfl (ri_range1 (ra_cons (re_bin op_sub oSub_ok (re_var (i := 1)) re_int) ra_nil) Z.n_range) (rg_name (i := 5) sc__law_level_rule.nd) (rss_cons (rs_set (i := 4) sc__law_level_rule.nd (re_bin op_add4 oAddA_ok (re_bin op_add4 oAddA_ok (re_var (i := 4)) re_int) (re_call (g__law_draw Z) pn__law_draw (hr.mono (by decide)) hgu pass_cx (ra_cons (re_var (i := 0)) (ra_cons (re_var (i := 2)) ra_nil)))))
    (rss_one (rs_if (rt_cmp op_le oLe_ok (re_var (i := 4)) (re_bin op_pow oPow_ok re_int re_int) (nomark _)) (rss_cons (rs_set (i := 6) sc__law_level_rule.nd (re_bin op_add4 oAddA_ok re_int (re_call (g__law_fee Z) pn__law_fee (hr.mono (by decide)) hgu pass_cx (ra_cons (re_var (i := 3)) (ra_cons (re_bin op_sub oSub_ok (re_var (i := 4)) re_int) ra_nil)))))
    (rss_cons (rs_set (i := 7) sc__law_level_rule.nd (re_callB (call_min2 rfl) bMin2_ok Z.n_min (by decide +kernel) (ra_cons (re_call (g__law_of Z) pn__law_of (hr.mono (by decide)) hgu pass_cx (ra_cons (re_var (i := 0)) (ra_cons (re_tup (ra_cons re_int (ra_cons re_int (ra_cons (re_ix (re_ix (re_var (i := 3)) (re_neg re_int) (fun _ _ => rfl)) re_int (fun _ _ => rfl)) (ra_cons (re_call (g__law_draw Z) pn__law_draw (hr.mono (by decide)) hgu pass_cx (ra_cons (re_var (i := 0)) (ra_cons re_int ra_nil))) ra_nil))))) ra_nil))) (ra_cons (re_bin op_fdivN oDiv_ok (re_bin op_mul oMul_ok (re_var (i := 6)) re_int) (re_var (i := 4))) ra_nil))))
    (rss_cons (rs_set (i := 6) sc__law_level_rule.nd (re_callB (call_min2 rfl) bMin2_ok Z.n_min (by decide +kernel) (ra_cons (re_bin op_sub oSub_ok (re_var (i := 6)) (re_bin op_fdivN oDiv_ok (re_bin op_add4 oAddA_ok (re_bin op_mul oMul_ok (re_var (i := 7)) (re_var (i := 4))) re_int) re_int)) (ra_cons (re_bin op_pow oPow_ok re_int re_int) ra_nil))))
    (rss_one (rs_set (i := 3) sc__law_level_rule.nd (re_bin op_add4 oAddA_ok (re_var (i := 3)) (re_tup (ra_cons (re_tup (ra_cons (re_var (i := 4)) (ra_cons (re_call (g__law_of Z) pn__law_of (hr.mono (by decide)) hgu pass_cx (ra_cons (re_var (i := 0)) (ra_cons (re_tup (ra_cons (re_var (i := 6)) (ra_cons (re_var (i := 6)) (ra_cons re_int (ra_cons (re_call (g__law_draw Z) pn__law_draw (hr.mono (by decide)) hgu pass_cx (ra_cons (re_var (i := 0)) (ra_cons (re_bin op_add4 oAddA_ok (re_var (i := 6)) re_int) ra_nil))) ra_nil))))) ra_nil))) (ra_cons (re_var (i := 7)) ra_nil)))) ra_nil)))))))) rss_nil))))
    (rss_one (rs_ret (re_var (i := 3))))))
theorem g__law_level_rule (Z : Facts K mg) : DefG P w K mg base [] 3 "_law_level_rule" (defArgs s__law_level_rule) (defBody s__law_level_rule) (defScope s__law_level_rule) ["well", "many", "wide"] false F__law_level_rule := by
  obtain ⟨f, fd, a, b⟩ := Z.d__law_level_rule
  exact ⟨f, fd, a, b, def_g a sc__law_level_rule (r__law_level_rule Z)⟩
theorem r__law_rule (Z : Facts K mg) {f : Addr} : ∀ (cdv : Value) (A : Around) (outer : List PySem.Env) (s : Shared) (H : Hp) (E : XK), Room 3 (A.deeper (envOfC "_law_rule" (defScope s__law_rule) s.heap.objs.size f cdv)) → A.guards = some [] →
    RSs [] false (cxOf (L2.CX P w) P w K mg base ["well", "starts", "turn", "found", "at", "start"] "_law_rule" (defScope s__law_rule) f cdv A outer s H E) (fun cls d _ H' => E cls d H') (defBody s__law_rule) b__law_rule := by
  intro cdv A outer s H E hr hgu
  unfold b__law_rule
  exact (rss_cons (rs_if (rt_cmp (op_eqA (Room.units hr)) oEqA_ok (re_call (g__law_draw Z) pn__law_draw (hr.mono (by decide)) hgu pass_cx (ra_cons (re_var (i := 0)) (ra_cons re_int ra_nil))) re_int (nomark _)) (rss_one (rs_ret (re_call (g__law_level_rule Z) pn__law_level_rule (hr.mono (by decide)) hgu pass_cx (ra_cons (re_var (i := 0)) (ra_cons (re_bin op_add4 oAddA_ok re_int (re_call (g__law_draw Z) pn__law_draw (hr.mono (by decide)) hgu pass_cx (ra_cons (re_var (i := 0)) (ra_cons re_int ra_nil)))) (ra_cons (re_call (g__law_of Z) pn__law_of (hr.mono (by decide)) hgu pass_cx (ra_cons (re_var (i := 0)) (ra_cons (re_tup (ra_cons re_int (ra_cons re_int (ra_cons (re_bin op_pow oPow_ok re_int re_int) ra_nil)))) ra_nil))) ra_nil)))))) rss_nil)
    (rss_cons (rs_set (i := 1) sc__law_rule.nd (RE.frozen (re_callB cr_sortedI bSorted_ok Z.n_sorted (by decide +kernel) (ra_cons (RE.frozen (re_comp rfl sc__law_rule.nd (blkOk_by (N := ["well", "starts", "turn", "found", "at", "start"]) (sc := (defScope s__law_rule)) (own := [("turn", 2)]) (by decide +kernel)) rfl (by decide) (ri_range1 (ra_cons (re_call (g__law_draw Z) pn__law_draw (hr.mono (by decide)) hgu pass_cx (ra_cons (re_var (i := 0)) (ra_cons re_int ra_nil))) ra_nil) Z.n_range) (fun _ _ _ _ _ => (rg_name (i := 2) sc__law_rule.nd)) (fun _ _ _ _ _ => rts_nil) (fun _ _ _ _ _ => (re_bin op_add4 oAddA_ok re_int (re_call (g__law_draw Z) pn__law_draw (hr.mono (by decide)) hgu pass_blk (ra_cons (re_var (i := 0)) (ra_cons (re_call (g__law_of Z) pn__law_of (hr.mono (by decide)) hgu pass_blk (ra_cons (re_var (i := 0)) (ra_cons (re_tup (ra_cons re_int (ra_cons re_int (ra_cons (re_bin op_pow oPow_ok re_int re_int) ra_nil)))) ra_nil))) ra_nil))))))) ra_nil))))
    (rss_cons (rs_set (i := 3) sc__law_rule.nd (RE.alloc (re_lst (ra_cons (re_tup (ra_cons re_int (ra_cons (re_call (g__law_draw Z) pn__law_draw (hr.mono (by decide)) hgu pass_cx (ra_cons (re_var (i := 0)) (ra_cons (re_call (g__law_of Z) pn__law_of (hr.mono (by decide)) hgu pass_cx (ra_cons (re_var (i := 0)) (ra_cons (re_tup (ra_cons re_int (ra_cons re_int (ra_cons (re_bin op_add4 oAddA_ok (re_bin op_pow oPow_ok re_int re_int) re_int) ra_nil)))) ra_nil))) ra_nil))) (ra_cons (re_call (g__law_draw Z) pn__law_draw (hr.mono (by decide)) hgu pass_cx (ra_cons (re_var (i := 0)) (ra_cons re_int ra_nil))) ra_nil)))) ra_nil))))
    (rss_cons (rs_for own_cx rfl (ri_enum (ra_cons (re_var (i := 1)) ra_nil) Z.n_enumerate) (rg_tup rfl (rgs_cons (rg_name (i := 4) sc__law_rule.nd) (rgs_cons (rg_name (i := 5) sc__law_rule.nd) rgs_nil))) (rss_one (rs_if (RW.t (rw_or (rt_cmp (op_eqA (Room.units hr)) oEqA_ok (re_var (i := 4)) re_int (nomark _)) (rw_or1 (rt_cmp op_gt oGt_ok (re_var (i := 5)) (re_ix (re_var (i := 1)) (re_bin op_sub oSub_ok (re_var (i := 4)) re_int) (fun _ _ => rfl)) (nomark _))))) (rss_one (rs_expr (re_bm PySem.F.slot_list_append PySem.F.type_list_append mt_append mAppend_ok (re_var (i := 3)) (ra_cons (re_tup (ra_cons (re_var (i := 5)) (ra_cons (re_call (g__law_draw Z) pn__law_draw (hr.mono (by decide)) hgu pass_cx (ra_cons (re_var (i := 0)) (ra_cons (re_call (g__law_of Z) pn__law_of (hr.mono (by decide)) hgu pass_cx (ra_cons (re_var (i := 0)) (ra_cons (re_tup (ra_cons re_int (ra_cons re_int (ra_cons (re_bin op_add4 oAddA_ok (re_bin op_pow oPow_ok re_int re_int) re_int) ra_nil)))) ra_nil))) ra_nil))) (ra_cons (re_call (g__law_draw Z) pn__law_draw (hr.mono (by decide)) hgu pass_cx (ra_cons (re_var (i := 0)) (ra_cons re_int ra_nil))) ra_nil)))) ra_nil)))) rss_nil)))
    (rss_one (rs_ret (re_callTy call_tuple_of bTuple_ok Z.n_tuple (by decide +kernel) (ra_cons (re_var (i := 3)) ra_nil))))))))
theorem g__law_rule (Z : Facts K mg) : DefG P w K mg base [] 4 "_law_rule" (defArgs s__law_rule) (defBody s__law_rule) (defScope s__law_rule) ["well"] false F__law_rule := by
  obtain ⟨f, fd, a, b⟩ := Z.d__law_rule
  exact ⟨f, fd, a, b, def_g a sc__law_rule (r__law_rule Z)⟩
theorem r__law_none (Z : Facts K mg) {f : Addr} : ∀ (cdv : Value) (A : Around) (outer : List PySem.Env) (s : Shared) (H : Hp) (E : XK), Room 2 (A.deeper (envOfC "_law_none" (defScope s__law_none) s.heap.objs.size f cdv)) → A.guards = some [] →
    RSs [] false (cxOf (L2.CX P w) P w K mg base ["well", "rule", "at", "start", "base", "rate", "wrong", "some", "step", "each"] "_law_none" (defScope s__law_none) f cdv A outer s H E) (fun cls d _ H' => E cls d H') (defBody s__law_none) b__law_none := by
  intro cdv A outer s H E hr hgu
  unfold b__law_none
  exact (rss_cons (rs_set (i := 2) sc__law_none.nd (re_call (g__law_draw Z) pn__law_draw (hr.mono (by decide)) hgu pass_cx (ra_cons (re_var (i := 0)) (ra_cons (re_callB call_len bLen_ok Z.n_len (by decide +kernel) (ra_cons (re_var (i := 1)) ra_nil)) ra_nil))))
    (rss_cons (rs_asg (re_ix (re_var (i := 1)) (re_var (i := 2)) (fun _ _ => rfl)) (rg_tup rfl (rgs_cons (rg_name (i := 3) sc__law_none.nd) (rgs_cons (rg_name (i := 4) sc__law_none.nd) (rgs_cons (rg_name (i := 5) sc__law_none.nd) rgs_nil)))))
    (rss_cons (rs_set (i := 6) sc__law_none.nd (re_call (g__law_of Z) pn__law_of (hr.mono (by decide)) hgu pass_cx (ra_cons (re_var (i := 0)) (ra_cons (re_tup (ra_cons (re_neg re_int) (ra_cons (re_bin op_add4 oAddA_ok (re_bin op_pow oPow_ok re_int re_int) re_int) (ra_cons re_bl (ra_cons re_non (ra_cons re_str (ra_cons (re_tup (ra_cons re_int ra_nil)) (ra_cons (re_bin op_pow oPow_ok re_int re_int) (ra_cons (RE.frozen (re_lst (ra_cons re_int ra_nil))) ra_nil))))))))) ra_nil))))
    (rss_cons (rs_set (i := 7) sc__law_none.nd (RE.alloc (re_lst (ra_cons (re_bin op_add4 oAddA_ok (re_bin op_add4 oAddA_ok (re_sliceA (re_var (i := 1)) ro_none (ro_some (re_var (i := 2)))) (re_tup (ra_cons (re_tup (ra_cons (re_var (i := 6)) (ra_cons (re_var (i := 4)) (ra_cons (re_var (i := 5)) ra_nil)))) ra_nil))) (re_sliceA (re_var (i := 1)) (ro_some (re_bin op_add4 oAddA_ok (re_var (i := 2)) re_int)) ro_none)) (ra_cons (re_bin op_add4 oAddA_ok (re_bin op_add4 oAddA_ok (re_sliceA (re_var (i := 1)) ro_none (ro_some (re_var (i := 2)))) (re_tup (ra_cons (re_tup (ra_cons (re_var (i := 3)) (ra_cons (re_var (i := 6)) (ra_cons (re_var (i := 5)) ra_nil)))) ra_nil))) (re_sliceA (re_var (i := 1)) (ro_some (re_bin op_add4 oAddA_ok (re_var (i := 2)) re_int)) ro_none)) ra_nil)))))
    (rss_cons (rs_set (i := 7) sc__law_none.nd (RE.alloc (re_bin op_cat oCat_ok (re_var (i := 7)) (RE.frozen (re_lst (ra_cons (re_bin op_add4 oAddA_ok (re_bin op_add4 oAddA_ok (re_sliceA (re_var (i := 1)) ro_none (ro_some (re_var (i := 2)))) (re_tup (ra_cons (re_tup (ra_cons (re_var (i := 3)) (ra_cons (re_var (i := 4)) (ra_cons (re_if (rt_cmp (op_eqA (Room.units hr)) oEqA_ok (re_var (i := 6)) (re_bin op_add4 oAddA_ok (re_bin op_pow oPow_ok re_int re_int) re_int) (nomark _)) re_int (re_var (i := 6))) ra_nil)))) ra_nil))) (re_sliceA (re_var (i := 1)) (ro_some (re_bin op_add4 oAddA_ok (re_var (i := 2)) re_int)) ro_none)) (ra_cons (RE.frozen (re_callTy call_list_of bList_ok Z.n_list (by decide +kernel) (ra_cons (re_var (i := 1)) ra_nil))) ra_nil)))))))
    (rss_cons (rs_set (i := 7) sc__law_none.nd (RE.alloc (re_bin op_cat oCat_ok (re_var (i := 7)) (RE.frozen (re_lst (ra_cons (re_tup ra_nil) (ra_cons re_non (ra_cons (re_bin op_add4 oAddA_ok (re_var (i := 1)) (re_sliceA (re_var (i := 1)) ro_none (ro_some re_int))) (ra_cons (re_bin op_add4 oAddA_ok (re_sliceA (re_var (i := 1)) ro_none (ro_some (re_bin op_add4 oAddA_ok (re_var (i := 2)) re_int))) (re_sliceA (re_var (i := 1)) (ro_some (re_var (i := 2))) ro_none)) (ra_cons (re_ix (re_var (i := 1)) re_int (fun _ _ => rfl)) (ra_cons re_str (ra_cons (re_tup (ra_cons (re_tup (ra_cons re_int (ra_cons (re_var (i := 4)) (ra_cons (re_var (i := 5)) ra_nil)))) ra_nil)) ra_nil))))))))))))
    (rss_cons (rs_for own_cx rfl (ri_seqA (re_tup (ra_cons (re_tup (ra_cons (re_var (i := 3)) (ra_cons (re_var (i := 4)) ra_nil))) (ra_cons (RE.frozen (re_lst (ra_cons (re_var (i := 3)) (ra_cons (re_var (i := 4)) (ra_cons (re_var (i := 5)) ra_nil))))) (ra_cons re_non (ra_cons (re_tup (ra_cons (re_var (i := 3)) (ra_cons (re_var (i := 4)) (ra_cons (re_var (i := 5)) (ra_cons re_int ra_nil))))) ra_nil)))))) (rg_name (i := 8) sc__law_none.nd) (rss_one (rs_expr (re_bm PySem.F.slot_list_append PySem.F.type_list_append mt_append mAppend_ok (re_var (i := 7)) (ra_cons (re_bin op_add4 oAddA_ok (re_bin op_add4 oAddA_ok (re_sliceA (re_var (i := 1)) ro_none (ro_some (re_var (i := 2)))) (re_tup (ra_cons (re_var (i := 8)) ra_nil))) (re_sliceA (re_var (i := 1)) (ro_some (re_bin op_add4 oAddA_ok (re_var (i := 2)) re_int)) ro_none)) ra_nil)))))
    (rss_one (rs_ret (re_call (g__law_of Z) pn__law_of (hr.mono (by decide)) hgu pass_cx (ra_cons (re_var (i := 0)) (ra_cons (RE.frozen (re_bin op_cat oCat_ok (re_var (i := 7)) (RE.frozen (re_lst (ra_cons (re_callTy call_tuple_of bTuple_ok Z.n_tuple (by decide +kernel) (ra_cons (RE.frozen (re_comp rfl sc__law_none.nd (blkOk_by (N := ["well", "rule", "at", "start", "base", "rate", "wrong", "some", "step", "each"]) (sc := (defScope s__law_none)) (own := [("each", 9)]) (by decide +kernel)) rfl (by decide) (ri_seqA (re_tup (ra_cons re_int (ra_cons re_int (ra_cons re_int (ra_cons re_int (ra_cons re_int (ra_cons re_int (ra_cons re_int ra_nil))))))))) (fun _ _ _ _ _ => (rg_name (i := 9) sc__law_none.nd)) (fun _ _ _ _ _ => rts_nil) (fun _ _ _ _ _ => (re_tup (ra_cons (re_var (i := 9)) (ra_cons re_int (ra_cons re_int ra_nil))))))) ra_nil)) ra_nil))))) ra_nil))))))))))))
theorem g__law_none (Z : Facts K mg) : DefG P w K mg base [] 3 "_law_none" (defArgs s__law_none) (defBody s__law_none) (defScope s__law_none) ["well", "rule"] false F__law_none := by
  obtain ⟨f, fd, a, b⟩ := Z.d__law_none
  exact ⟨f, fd, a, b, def_g a sc__law_none (r__law_none Z)⟩
theorem r__law_right (Z : Facts K mg) {f : Addr} : ∀ (cdv : Value) (A : Around) (outer : List PySem.Env) (s : Shared) (H : Hp) (E : XK), Room 6 (A.deeper (envOfC "_law_right" (defScope s__law_right) s.heap.objs.size f cdv)) → A.guards = some [] →
    RSs [] false (cxOf (L2.CX P w) P w K mg base ["well", "turn", "rule", "spots", "start", "base", "rate", "total", "due", "told"] "_law_right" (defScope s__law_right) f cdv A outer s H E) (fun cls d _ H' => E cls d H') (defBody s__law_right) b__law_right := by
  intro cdv A outer s H E hr hgu
  unfold b__law_right
  exact (rss_cons (rs_for own_cx rfl (ri_range1 (ra_cons re_int ra_nil) Z.n_range) (rg_name (i := 1) sc__law_right.nd) (rss_cons (rs_set (i := 2) sc__law_right.nd (re_call (g__law_rule Z) pn__law_rule (hr.mono (by decide)) hgu pass_cx (ra_cons (re_var (i := 0)) ra_nil)))
    (rss_cons (rs_set (i := 3) sc__law_right.nd (RE.frozen (re_lst (ra_cons re_int (ra_cons (re_bin op_pow oPow_ok re_int re_int) (ra_cons (re_call (g__law_draw Z) pn__law_draw (hr.mono (by decide)) hgu pass_cx (ra_cons (re_var (i := 0)) (ra_cons (re_bin op_pow oPow_ok re_int re_int) ra_nil))) (ra_cons (re_call (g__law_draw Z) pn__law_draw (hr.mono (by decide)) hgu pass_cx (ra_cons (re_var (i := 0)) (ra_cons re_int ra_nil))) ra_nil)))))))
    (rss_cons (rs_for own_cx rfl (ri_seqA (re_sliceA (re_var (i := 2)) (ro_some re_int) ro_none)) (rg_tup rfl (rgs_cons (rg_name (i := 4) sc__law_right.nd) (rgs_cons (rg_name (i := 5) sc__law_right.nd) (rgs_cons (rg_name (i := 6) sc__law_right.nd) rgs_nil)))) (rss_one (rs_set (i := 3) sc__law_right.nd (re_bin op_add4 oAddA_ok (re_var (i := 3)) (RE.frozen (re_lst (ra_cons (re_bin op_sub oSub_ok (re_var (i := 4)) re_int) (ra_cons (re_var (i := 4)) (ra_cons (re_bin op_add4 oAddA_ok (re_var (i := 4)) re_int) ra_nil)))))))))
    (rss_cons (rs_for own_cx rfl (ri_seqA (re_var (i := 3))) (rg_name (i := 7) sc__law_right.nd) (rss_cons (rs_set (i := 8) sc__law_right.nd (re_call (g__law_fee Z) pn__law_fee (hr.mono (by decide)) hgu pass_cx (ra_cons (re_var (i := 2)) (ra_cons (re_var (i := 7)) ra_nil))))
    (rss_cons (rs_set (i := 9) sc__law_right.nd (RE.frozen (re_lst (ra_cons (re_call (g_fee Z) pn_fee (hr.mono (by decide)) hgu pass_cx (ra_cons (re_var (i := 2)) (ra_cons (re_var (i := 7)) ra_nil))) (ra_cons (re_call (g_net Z) pn_net (hr.mono (by decide)) hgu pass_cx (ra_cons (re_var (i := 2)) (ra_cons (re_var (i := 7)) ra_nil))) (ra_cons (re_callK0 (g_fee Z) kn0_b kn0_r kn0_v kn0_l (hr.mono (by decide)) hgu pass_cx (rk_cons (re_var (i := 7)) (rk_cons (re_var (i := 2)) rk_nil))) (ra_cons (re_callK0 (g_net Z) kn1_b kn1_r kn1_v kn1_l (hr.mono (by decide)) hgu pass_cx (rk_cons (re_var (i := 7)) (rk_cons (re_var (i := 2)) rk_nil))) ra_nil)))))))
    (rss_one (rs_if (rt_not (rt_val (re_call (g__law_is Z) pn__law_is (hr.mono (by decide)) hgu pass_cx (ra_cons (re_var (i := 9)) (ra_cons (RE.frozen (re_lst (ra_cons (re_var (i := 8)) (ra_cons (re_bin op_sub oSub_ok (re_var (i := 7)) (re_var (i := 8))) (ra_cons (re_var (i := 8)) (ra_cons (re_bin op_sub oSub_ok (re_var (i := 7)) (re_var (i := 8))) ra_nil)))))) ra_nil))))) (rss_one (rs_ret re_bl)) rss_nil)))))
    (rss_one (rs_if (rt_not (rt_val (re_call (g__law_is Z) pn__law_is (hr.mono (by decide)) hgu pass_cx (ra_cons (RE.frozen (re_lst (ra_cons (re_call (g_is_rule Z) pn_is_rule (hr.mono (by decide)) hgu pass_cx (ra_cons (re_var (i := 2)) ra_nil)) (ra_cons (re_callK0 (g_is_rule Z) kn2_b kn2_r kn2_v kn2_l (hr.mono (by decide)) hgu pass_cx (rk_cons (re_var (i := 2)) rk_nil)) (ra_cons (re_call (g_is_rule Z) pn_is_rule (hr.mono (by decide)) hgu pass_cx (ra_cons (re_call (g__law_none Z) pn__law_none (hr.mono (by decide)) hgu pass_cx (ra_cons (re_var (i := 0)) (ra_cons (re_var (i := 2)) ra_nil))) ra_nil)) ra_nil))))) (ra_cons (RE.frozen (re_lst (ra_cons re_bl (ra_cons re_bl (ra_cons re_bl ra_nil))))) ra_nil))))) (rss_one (rs_ret re_bl)) rss_nil)))))))
    (rss_one (rs_ret re_bl)))
theorem g__law_right (Z : Facts K mg) : DefG P w K mg base [] 7 "_law_right" (defArgs s__law_right) (defBody s__law_right) (defScope s__law_right) ["well"] false F__law_right := by
  obtain ⟨f, fd, a, b⟩ := Z.d__law_right
  exact ⟨f, fd, a, b, def_g a sc__law_right (r__law_right Z)⟩
theorem r_law (Z : Facts K mg) {f : Addr} : ∀ (cdv : Value) (A : Around) (outer : List PySem.Env) (s : Shared) (H : Hp) (E : XK), Room 7 (A.deeper (envOfC "law" (defScope s_law) s.heap.objs.size f cdv)) → A.guards = some [] →
    RSs [] false (cxOf (L2.CX P w) P w K mg base ["script", "lap"] "law" (defScope s_law) f cdv A outer s H E) (fun cls d _ H' => E cls d H') (defBody s_law) b_law := by
  intro cdv A outer s H E hr hgu
  unfold b_law
  exact (rss_one (rs_ret (re_callB (cr_all rfl) bAll_ok Z.n_all (by decide +kernel) (ra_cons (RE.frozen (re_comp rfl sc_law.nd (blkOk_by (N := ["script", "lap"]) (sc := (defScope s_law)) (own := [("lap", 1)]) (by decide +kernel)) rfl (by decide) (ri_range1 (ra_cons (re_callB (call_max2 rfl) bMax2_ok Z.n_max (by decide +kernel) (ra_cons re_int (ra_cons (re_callB (call_min2 rfl) bMin2_ok Z.n_min (by decide +kernel) (ra_cons (re_callB call_len bLen_ok Z.n_len (by decide +kernel) (ra_cons (re_var (i := 0)) ra_nil)) (ra_cons re_int ra_nil))) ra_nil))) ra_nil) Z.n_range) (fun _ _ _ _ _ => (rg_name (i := 1) sc_law.nd)) (fun _ _ _ _ _ => rts_nil) (fun _ _ _ _ _ => (RE.scope (re_call (g__law_right Z) pn__law_right (hr.mono (by decide)) hgu pass_blk (ra_cons (RE.alloc (re_call (g__law_well Z) pn__law_well (hr.mono (by decide)) hgu pass_blk (ra_cons (re_var (i := 0)) (ra_cons (re_var (i := 1)) ra_nil)))) ra_nil)))))) ra_nil))))
theorem g_law (Z : Facts K mg) : DefG P w K mg base [] 8 "law" (defArgs s_law) (defBody s_law) (defScope s_law) ["script"] false F_law := by
  obtain ⟨f, fd, a, b⟩ := Z.d_law
  exact ⟨f, fd, a, b, def_g a sc_law (r_law Z)⟩
end
end LW
set_option Elab.async false
set_option linter.all false
set_option maxRecDepth 100000
set_option maxHeartbeats 4000000
namespace LW
open PySem L2 Evl PySem.Spec PyProof.Rows PF
local macro_rules | `(tactic| trivial) => `(tactic| first
  | (with_reducible first | refine v0 ?_ | refine v1 ?_ | refine v2 ?_ | refine v3 ?_ | refine v4 ?_ | refine v5 ?_ | refine v6 ?_ | refine v7 ?_ | refine v8 ?_ | refine v9 ?_ | refine v10 ?_ | refine v11 ?_ | refine v12 ?_ | refine v13 ?_ | refine tn0 ?_ | refine tn1 ?_ | refine tn2 ?_ | refine tn3 ?_ | refine tn4 ?_ | refine tn5 ?_ | refine tn6 ?_ | refine tn7 ?_ | refine tn8 ?_ | refine tn9 ?_ | refine tn10 ?_ | refine tn11 ?_ | refine tn12 ?_ | refine tn13 ?_ | refine ss0 ?_ | refine ss1 ?_ | refine ss2 ?_ | refine ss3 ?_ | refine ss4 ?_ | refine ss5 ?_ | refine ss6 ?_ | refine ss7 ?_ | refine ss8 ?_ | refine ss9 ?_ | refine ss10 ?_ | refine ss11 ?_ | refine ss12 ?_ | refine ss13 ?_)
  | (with_reducible first | refine r_k ?_ | refine r_bin ?_ | refine r_cons ?_ | refine r_nil ?_ | refine r_call ?_ | refine r_blt ?_ | refine r_un ?_ | refine r_ok ?_ | refine s_seq ?_ | refine s_ret ?_ | refine s_if ?_ | refine s_expr ?_ | refine s_asg ?_ | refine s_par ?_ | refine s_nil ?_ | refine s_brk ?_ | refine s_ct ?_ | refine s_for ?_ | refine bool_t ?_ | refine bool_and ?_ | refine bool_or ?_ | refine bool_not ?_ | refine bool_yes ?_ | refine r_and ?_ | refine r_or ?_ | refine r_not ?_ | refine r_ife ?_ | refine r_chain ?_ | refine r_isi ?_ | refine r_callK ?_ | refine r_mt ?_ | refine r_alloc ?_ | refine r_sliceA ?_ | refine r_sliceL ?_ | refine r_no ?_ | refine r_part ?_ | refine r_scope ?_ | refine t_nil ?_ | refine t_cons ?_ | refine q_seq ?_ | refine q_range ?_ | refine q_range2 ?_ | refine nx_nx ?_ | refine nx_ret ?_ | refine nx_exc ?_ | refine nx_brk ?_ | refine nx_ct ?_ | refine bl_bl ?_ | refine cs_not ?_ | refine cs_t ?_ | refine cs_f ?_ | refine r_bind ?_ | refine r_nox ?_ | refine t_sub ?_ | refine s_retL ?_ | refine o1_sub ?_ | refine o1_add ?_ | refine o1_lt ?_ | refine o1_le ?_ | refine o1_gt ?_ | refine o1_ge ?_ | refine o1_neg ?_ | refine o1_eq ?_ | refine o1_ne ?_ | refine b1_abs ?_ | refine b1_int ?_ | refine b1_min2 ?_ | refine b1_max2 ?_ | refine o1_eqA ?_ | refine o1_neA ?_ | refine o1_eqS ?_ | refine o1_isN ?_ | refine o1_notN ?_ | refine x_bl ?_ | refine x_int ?_ | refine x_str ?_ | refine x_non ?_ | refine x_nx ?_ | refine x_tup ?_ | refine x_lst ?_ | refine sl_tup ?_ | refine sl_lst ?_ | refine sl_fz ?_ | refine sL_lst ?_ | refine sL_fz ?_)
  | (with_reducible first | refine r_tup ?_ | refine r_lst ?_ | refine o1_addT ?_ | refine o1_addL ?_ | refine b1_len ?_ | refine b1_tuple ?_ | refine b1_list ?_ | refine o1_cat ?_ | refine m1_append ?_ | refine o_pow10_1 ?_ | refine o_pow10_2 ?_ | refine o_pow10_3 ?_ | refine o_pow10_4 ?_ | refine o_pow10_5 ?_ | refine o_pow10_6 ?_ | refine o_pow10_7 ?_ | refine o_pow10_8 ?_ | refine o_pow10_9 ?_ | refine o_pow10_10 ?_ | refine o_pow10_11 ?_ | refine o_pow10_12 ?_ | refine o_pow10_13 ?_ | refine o_pow10_14 ?_ | refine o_pow10_15 ?_ | refine o_pow10_16 ?_ | refine o_pow10_17 ?_ | refine o_pow10_18 ?_ | refine o_pow10_20 ?_ | refine o_pow10_30 ?_)
  | ((with_reducible refine o1_ix ?_); refine ⟨_, _, by first | rfl | assumption, by first | rfl | exact atI_zero, ?_⟩)
  | ((with_reducible refine o1_mul ?_ ?_); first | decide | omega | fail)
  | ((with_reducible refine o1_div ?_ ?_); first | decide | omega | fail)
  | ((with_reducible refine o1_mod ?_ ?_); first | decide | omega | fail)
  | ((with_reducible refine b1_divmod ?_ ?_); first | decide | omega | fail)
  | ((with_reducible refine t_tup ?_ ?_); rfl)
  | (with_reducible refine cs_dec (fun _ => ?_) (fun _ => ?_))
  | (with_reducible refine cs_beq (fun _ => ?_) (fun _ => ?_))
  | ((with_reducible refine cs_te ?_ ?_); rfl)
  | ((with_reducible refine cs_fe ?_ ?_); rfl)
  | ((with_reducible refine put0 (by assumption) ?_ fun _ => ?_); first | rfl | fail)
  | ((with_reducible refine put1 (by assumption) ?_ fun _ => ?_); first | rfl | fail)
  | ((with_reducible refine put2 (by assumption) ?_ fun _ => ?_); first | rfl | fail)
  | exact take_same
  | refine ⟨_, _, by first | rfl | assumption, rfl, ?_⟩
  | (with_reducible refine fun (_ : Nat) (_ : Store) (_ : _ = _) (_ : _ = _) (_ : _ = _) => ?_)
  | refine ⟨_, _, rfl, ?_⟩
  | refine ⟨_, by first | rfl | assumption, ?_⟩
  | ((with_reducible refine And.intro ?_ ?_); first | rfl | exact Nat.le_of_ble_eq_true rfl | decide | omega | fail))

theorem whole_eq (v : D) {S : Store} : F_is_whole [v] S = some (.ok (.bl v.isI), S) := by
  unfold F_is_whole b_is_whole
  refine call_eq rfl ?_
  dsimp only [startE, List.map, List.replicate, List.length, List.cons_append, List.nil_append, Nat.reduceAdd, Nat.reduceSub]
  cases v <;> repeat' trivial
def numD (lo hi : Int) : D → Bool
  | .int i => decide (lo ≤ i ∧ i ≤ hi)
  | _ => false
theorem num_eq (v : D) {a b : Int} {S : Store} : F_is_number [v, .int a, .int b] S = some (.ok (.bl (numD a b v)), S) := by
  unfold F_is_number b_is_number
  refine call_eq rfl ?_
  dsimp only [startE, List.map, List.replicate, List.length, List.cons_append, List.nil_append, Nat.reduceAdd, Nat.reduceSub]
  repeat' trivial
  refine r_eq (whole_eq v) ?_
  cases v <;> repeat' trivial
  all_goals refine ⟨?_, take_same⟩
  all_goals simp only [numD, D.bl.injEq, eq_comm (a := false), decide_eq_false_iff_not, decide_eq_decide]
  all_goals omega
theorem check_num_eq {v a b : Int} (h : a ≤ v ∧ v ≤ b) {S : Store} : F_check_number [.int v, .int a, .int b] S = some (.ok .non, S) := by
  unfold F_check_number b_check_number
  refine call_eq rfl ?_
  dsimp only [startE, List.map, List.replicate, List.length, List.cons_append, List.nil_append, Nat.reduceAdd, Nat.reduceSub]
  repeat' trivial
  refine r_eq (num_eq _) ?_
  have e : numD a b (.int v) = true := decide_eq_true h
  rw [e]
  repeat' trivial
theorem upper_eq {a b : Int} (h : 0 < b ∧ b < 1073741824) {S : Store} : F_upper [.int a, .int b] S = some (.ok (.int (-((-a) / b))), S) := by
  unfold F_upper b_upper
  refine call_eq rfl ?_
  dsimp only [startE, List.map, List.replicate, List.length, List.cons_append, List.nil_append, Nat.reduceAdd, Nat.reduceSub]
  repeat' trivial
def tupN (n : Int) : D → Bool
  | .tup xs => (xs.length : Int) == n
  | _ => false
theorem tuple_of_eq (v : D) {n : Int} {S : Store} : F_is_tuple_of [v, .int n] S = some (.ok (.bl (tupN n v)), S) := by
  unfold F_is_tuple_of b_is_tuple_of
  refine call_eq rfl ?_
  dsimp only [startE, List.map, List.replicate, List.length, List.cons_append, List.nil_append, Nat.reduceAdd, Nat.reduceSub]
  cases v <;> repeat' trivial


def ascB (ns : List Int) : Bool := (ns.zip ns.tail).all fun p => decide (p.1 < p.2)
theorem asc_eq (ns : List Int) (hl : ns.length ≤ 1000) {S : Store} : F_is_ascending [.lst (ns.map D.int)] S = some (.ok (.bl (ascB ns)), S) := by
  unfold F_is_ascending b_is_ascending
  refine call_eq rfl ?_
  dsimp only [startE, List.map, List.replicate, List.length, List.cons_append, List.nil_append, Nat.reduceAdd, Nat.reduceSub]
  repeat' trivial
  refine r_eq (comp_map (so := .zip (.items (ns.map D.int)) (.items (ns.tail.map D.int))) (ns.zip ns.tail) (fun p => D.tup [.int p.1, .int p.2]) (fun p => .bl (decide (p.1 < p.2))) ?_ ?_ ?_ ?_ ?_) ?_
  · have e : cutL (ns.map D.int) (some 1) none = ns.tail.map D.int := by
      rw [cut_from _ (by decide)]; cases ns <;> simp
    rw [← e]
    rfl
  · simp only [srcAt, zipD_ints]
  · intro acc; simp only [srcAt, zipD_ints]
  · simp only [List.length_zip]
    have := ns.length_tail
    show _ ≤ 1000000
    omega
  · intro q hq acc
    refine ⟨rfl, ?_⟩
    dsimp only [wipeE, List.set]
    repeat' trivial
  · refine r_nil ?_
    refine r_eq b_allM ?_
    repeat' trivial
def isStepD : D → Bool
  | .tup [a, b, c] => numD 0 1000 c && (numD 0 1000000 a && numD 0 1000000 b)
  | _ => false
theorem step_eq (v : D) {S : Store} : F_is_step [v] S = some (.ok (.bl (isStepD v)), S) := by
  by_cases hv : tupN 3 v = true
  · obtain ⟨a, b, c, rfl⟩ : ∃ a b c, v = .tup [a, b, c] := by
      cases v <;> first | (simp [tupN] at hv; done) | skip
      rename_i xs
      match xs, hv with
      | [a, b, c], _ => exact ⟨a, b, c, rfl⟩
      | [], h => simp [tupN] at h
      | [_], h => simp [tupN] at h
      | [_, _], h => simp [tupN] at h
      | _ :: _ :: _ :: _ :: l, h => simp [tupN] at h; omega
    unfold F_is_step b_is_step
    refine call_eq rfl ?_
    dsimp only [startE, List.map, List.replicate, List.length, List.cons_append, List.nil_append, Nat.reduceAdd, Nat.reduceSub]
    repeat' trivial
    refine r_eq (tuple_of_eq _) ?_
    rw [hv]
    repeat' trivial
    refine r_eq (num_eq _) ?_
    simp only [isStepD]
    cases numD 0 1000 c
    · repeat' trivial
    · repeat' trivial
      refine r_eq (num_eq _) ?_
      cases numD 0 1000000 a
      · repeat' trivial
      · repeat' trivial
        refine r_eq (num_eq _) ?_
        repeat' trivial
  · have e : isStepD v = false := by
      cases v <;> first | rfl | skip
      rename_i xs
      match xs, hv with
      | [a, b, c], h => exact absurd rfl h
      | [], h => rfl
      | [_], h => rfl
      | [_, _], h => rfl
      | _ :: _ :: _ :: _ :: l, h => rfl
    rw [e]
    unfold F_is_step b_is_step
    refine call_eq rfl ?_
    dsimp only [startE, List.map, List.replicate, List.length, List.cons_append, List.nil_append, Nat.reduceAdd, Nat.reduceSub]
    repeat' trivial
    refine r_eq (tuple_of_eq _) ?_
    rw [Bool.not_eq_true] at hv
    rw [hv]
    repeat' trivial
def startI : D → Int
  | .tup (.int a :: _) => a
  | _ => 0
theorem isStepD_form {v : D} (h : isStepD v = true) : ∃ a b c, v = .tup [.int a, .int b, .int c] ∧ (0 ≤ a ∧ a ≤ 1000000) ∧ (0 ≤ b ∧ b ≤ 1000000) ∧ (0 ≤ c ∧ c ≤ 1000) := by
  unfold isStepD at h
  split at h
  · rename_i a b c
    simp only [Bool.and_eq_true] at h
    obtain ⟨hc, ha, hb⟩ := h
    cases a <;> first | (cases ha; done) | skip
    cases b <;> first | (cases hb; done) | skip
    cases c <;> first | (cases hc; done) | skip
    exact ⟨_, _, _, rfl, of_decide_eq_true ha, of_decide_eq_true hb, of_decide_eq_true hc⟩
  · cases h
def isRuleD : D → Bool
  | .tup xs => decide (1 ≤ xs.length ∧ xs.length ≤ 6) && (xs.all isStepD && ((startI (xs.getD 0 .non) == 0) && ascB (xs.map startI)))
  | _ => false
theorem rule_eq (v : D) {S : Store} : F_is_rule [v] S = some (.ok (.bl (isRuleD v)), S) := by
  unfold F_is_rule b_is_rule
  refine call_eq rfl ?_
  dsimp only [startE, List.map, List.replicate, List.length, List.cons_append, List.nil_append, Nat.reduceAdd, Nat.reduceSub]
  cases v <;> repeat' trivial
  · rename_i xs h1 h2
    have hl : decide (1 ≤ xs.length ∧ xs.length ≤ 6) = true := decide_eq_true (by omega)
    refine r_eq (comp_map (so := .items xs) xs id (fun d => .bl (isStepD d)) rfl ?_ ?_ ?_ ?_) ?_
    · simp
    · simp
    · show _ ≤ 1000000; omega
    · intro d hd acc
      refine ⟨rfl, ?_⟩
      dsimp only [wipeE, List.set, id]
      repeat' trivial
      refine r_eq (step_eq d) ?_
      repeat' trivial
    refine r_nil ?_
    refine r_eq b_allM ?_
    refine bl_bl ?_
    by_cases hs : xs.all isStepD = true
    · rw [hs]
      have hs' := List.all_eq_true.mp hs
      refine cs_not (cs_t ?_)
      match xs, h1 with
      | x :: xs, _ =>
      obtain ⟨a, b, c, e, _⟩ := isStepD_form (hs' x (List.mem_cons_self ..))
      have e1 : startI x = a := by rw [e]; rfl
      have e2 : isRuleD (.tup (x :: xs)) = ((a == 0) && ascB ((x :: xs).map startI)) := by
        simp only [isRuleD, hl, hs, Bool.true_and, List.getD_cons_zero, e1]
      rw [e2]
      repeat' trivial
      rw [e]
      repeat' trivial
      · rename_i h0
        subst h0
        refine r_eq (comp_map (so := .items (D.tup [.int 0, .int b, .int c] :: xs)) (D.tup [.int 0, .int b, .int c] :: xs) id (fun d => .int (startI d)) rfl ?_ ?_ ?_ ?_) ?_
        · simp
        · simp
        · show _ ≤ 1000000; simp at h2 ⊢; omega
        · intro d hd acc
          refine ⟨rfl, ?_⟩
          dsimp only [wipeE, List.set, id]
          rw [← e] at hd
          obtain ⟨a, b, c, rfl, _⟩ := isStepD_form (hs' d hd)
          repeat' trivial
        refine r_nil ?_
        repeat' trivial
        have e3 : ∀ l : List D, l.map (fun d => D.int (startI d)) = (l.map startI).map D.int := fun l => by simp
        rw [e3]
        refine r_eq (asc_eq _ (by simp at h2 ⊢; omega)) ?_
        repeat' trivial
      · rename_i h0
        have e4 : (a == 0) = false := by simpa using h0
        rw [e4]
        exact ⟨rfl, take_same⟩
    · rw [Bool.not_eq_true] at hs
      have e : isRuleD (.tup xs) = false := by simp [isRuleD, hs]
      rw [hs, e]
      repeat' trivial
  · rename_i xs h1 h2
    have hl : decide (1 ≤ xs.length ∧ xs.length ≤ 6) = false := decide_eq_false (by omega)
    simp [isRuleD, hl]
  · rename_i xs h1
    have hl : decide (1 ≤ xs.length ∧ xs.length ≤ 6) = false := decide_eq_false (by omega)
    simp [isRuleD, hl]
theorem check_rule_eq (v : D) (h : isRuleD v = true) {S : Store} : F_check_rule [v] S = some (.ok .non, S) := by
  unfold F_check_rule b_check_rule
  refine call_eq rfl ?_
  dsimp only [startE, List.map, List.replicate, List.length, List.cons_append, List.nil_append, Nat.reduceAdd, Nat.reduceSub]
  repeat' trivial
  refine r_eq (rule_eq v) ?_
  rw [h]
  repeat' trivial

/-! rules of steps -/
abbrev St := Int × Int × Int
def stepD (s : St) : D := .tup [.int s.1, .int s.2.1, .int s.2.2]
def ruleD (rs : List St) : D := .tup (rs.map stepD)
structure Rule (rs : List St) : Prop where
  l1 : 1 ≤ rs.length
  l6 : rs.length ≤ 6
  ok : ∀ s ∈ rs, (0 ≤ s.1 ∧ s.1 ≤ 1000000) ∧ (0 ≤ s.2.1 ∧ s.2.1 ≤ 1000000) ∧ (0 ≤ s.2.2 ∧ s.2.2 ≤ 1000)
  h0 : (rs.getD 0 (0, 0, 0)).1 = 0
  asc : ascB (rs.map (·.1)) = true
theorem rule_is {rs : List St} (h : Rule rs) : isRuleD (ruleD rs) = true := by
  have e1 : (rs.map stepD).all isStepD = true := by
    rw [List.all_eq_true]
    intro d hd
    obtain ⟨s, hs, rfl⟩ := List.mem_map.mp hd
    obtain ⟨h1, h2, h3⟩ := h.ok s hs
    simp [stepD, isStepD, numD, h1, h2, h3]
  have e2 : (rs.map stepD).map startI = rs.map (·.1) := by
    rw [List.map_map]; rfl
  have e3 : startI ((rs.map stepD).getD 0 .non) = 0 := by
    have h0 := h.h0
    have l1 := h.l1
    clear e1 e2 h
    match rs, l1, h0 with
    | s :: rs, _, h0 => exact h0
  have e4 : decide (1 ≤ (rs.map stepD).length ∧ (rs.map stepD).length ≤ 6) = true := by
    rw [List.length_map]; exact decide_eq_true ⟨h.l1, h.l6⟩
  unfold isRuleD ruleD
  simp only [e1, e2, e3, h.asc, e4]
  rfl
def lastS (rs : List St) (t : Int) : St := ((rs.filter fun s => decide (s.1 ≤ t)).getLast?).getD (0, 0, 0)
def feeN (rs : List St) (t : Int) : Int := (lastS rs t).2.1 + ((lastS rs t).2.2 * t + 999) / 1000
theorem last_some {rs : List St} (h : Rule rs) {t : Int} (ht : 0 ≤ t) : (rs.filter fun s => decide (s.1 ≤ t)).getLast? = some (lastS rs t) := by
  unfold lastS
  have l1 := h.l1
  have h0 := h.h0
  match rs, l1 with
  | s :: rs, _ =>
    have e : (s.1 ≤ t) := by
      have h0 : s.1 = 0 := h0
      omega
    rw [List.filter_cons_of_pos (by simpa using e), List.getLast?_cons]
    rfl
theorem last_mem {rs : List St} (h : Rule rs) {t : Int} (ht : 0 ≤ t) : lastS rs t ∈ rs := by
  have e := last_some h ht
  exact (List.mem_filter.mp (List.mem_of_getLast? e)).1
theorem filt (rs : List St) (t : Int) : (rs.map stepD).filterMap (fun d => match d with | .tup [.int a, b, c] => if a ≤ t then some (.tup [.int a, b, c]) else none | _ => none) = (rs.filter fun s => decide (s.1 ≤ t)).map stepD := by
  induction rs with
  | nil => rfl
  | cons s rs ih =>
    rw [List.map_cons, List.filterMap_cons]
    by_cases h : s.1 ≤ t
    · rw [List.filter_cons_of_pos (by simpa using h), List.map_cons, ← ih]
      simp only [stepD, h, if_true]
    · rw [List.filter_cons_of_neg (by simpa using h), ← ih]
      simp only [stepD, h, if_false]
theorem step_at_eq {rs : List St} (h : Rule rs) {t : Int} (ht : 0 ≤ t) {S : Store} : F_step_at [ruleD rs, .int t] S = some (.ok (stepD (lastS rs t)), S) := by
  have l6 := h.l6
  unfold F_step_at b_step_at
  refine call_eq rfl ?_
  dsimp only [startE, List.map, List.replicate, List.length, List.cons_append, List.nil_append, Nat.reduceAdd, Nat.reduceSub]
  repeat' trivial
  refine r_eq (comp_pure (so := .items (rs.map stepD)) (ds := rs.map stepD) (fun d => match d with | .tup [.int a, b, c] => if a ≤ t then some (.tup [.int a, b, c]) else none | _ => none) rfl rfl (fun _ => rfl) ?_ ?_) ?_
  · rw [List.length_map]; show _ ≤ 1000000; omega
  · intro d hd acc
    obtain ⟨s, _, rfl⟩ := List.mem_map.mp hd
    dsimp only [wipeE, List.set, ruleD, stepD]
    repeat' trivial
    refine ⟨fun hb => ?_, fun hb => ?_⟩
    · have hb := of_decide_eq_true hb
      repeat' trivial
      rw [if_pos hb]
    · have hb := of_decide_eq_false hb
      simp [if_neg hb]
  rw [filt]
  repeat' trivial
  refine o1_ix ⟨_, _, rfl, by rw [atI_end, List.getLast?_map, last_some h ht]; rfl, ?_⟩
  dsimp only [stepD]
  repeat' trivial
theorem fee_of_eq {rs : List St} (h : Rule rs) {t : Int} (ht : 0 ≤ t) {S : Store} : F_fee_of [ruleD rs, .int t] S = some (.ok (.int (feeN rs t)), S) := by
  have hm := h.ok _ (last_mem h ht)
  unfold F_fee_of b_fee_of
  refine call_eq rfl ?_
  dsimp only [startE, List.map, List.replicate, List.length, List.cons_append, List.nil_append, Nat.reduceAdd, Nat.reduceSub]
  repeat' trivial
  refine r_eq (step_at_eq h ht) ?_
  dsimp only [stepD]
  repeat' trivial
  refine r_eq (upper_eq (by omega)) ?_
  repeat' trivial
  refine ⟨?_, take_same⟩
  unfold feeN
  congr 1
  omega
theorem net_of_eq {rs : List St} (h : Rule rs) {t : Int} (ht : 0 ≤ t) {S : Store} : F_net_of [ruleD rs, .int t] S = some (.ok (.int (t - feeN rs t)), S) := by
  unfold F_net_of b_net_of
  refine call_eq rfl ?_
  dsimp only [startE, List.map, List.replicate, List.length, List.cons_append, List.nil_append, Nat.reduceAdd, Nat.reduceSub]
  repeat' trivial
  refine r_eq (fee_of_eq h ht) ?_
  repeat' trivial
theorem fee_eq {rs : List St} (h : Rule rs) {t : Int} (ht : 0 ≤ t ∧ t ≤ 1000000000) {S : Store} : F_fee [ruleD rs, .int t] S = some (.ok (.int (feeN rs t)), S) := by
  unfold F_fee b_fee
  refine call_eq rfl ?_
  dsimp only [startE, List.map, List.replicate, List.length, List.cons_append, List.nil_append, Nat.reduceAdd, Nat.reduceSub]
  repeat' trivial
  refine r_eq (check_rule_eq _ (rule_is h)) ?_
  repeat' trivial
  refine r_eq (check_num_eq ht) ?_
  repeat' trivial
  refine r_eq (fee_of_eq h ht.1) ?_
  repeat' trivial
theorem net_eq {rs : List St} (h : Rule rs) {t : Int} (ht : 0 ≤ t ∧ t ≤ 1000000000) {S : Store} : F_net [ruleD rs, .int t] S = some (.ok (.int (t - feeN rs t)), S) := by
  unfold F_net b_net
  refine call_eq rfl ?_
  dsimp only [startE, List.map, List.replicate, List.length, List.cons_append, List.nil_append, Nat.reduceAdd, Nat.reduceSub]
  repeat' trivial
  refine r_eq (check_rule_eq _ (rule_is h)) ?_
  repeat' trivial
  refine r_eq (check_num_eq ht) ?_
  repeat' trivial
  refine r_eq (net_of_eq h ht.1) ?_
  repeat' trivial
theorem law_fee_eq {rs : List St} (h : Rule rs) {t : Int} (ht : 0 ≤ t) {S : Store} : F__law_fee [ruleD rs, .int t] S = some (.ok (.int (feeN rs t)), S) := by
  have l6 := h.l6
  have hm := h.ok _ (last_mem h ht)
  unfold F__law_fee b__law_fee
  refine call_eq rfl ?_
  dsimp only [startE, List.map, List.replicate, List.length, List.cons_append, List.nil_append, Nat.reduceAdd, Nat.reduceSub]
  repeat' trivial
  refine r_eq (comp_pure (so := .items (rs.map stepD)) (ds := rs.map stepD) (fun d => match d with | .tup [.int a, b, c] => if a ≤ t then some (.tup [.int a, b, c]) else none | _ => none) rfl rfl (fun _ => rfl) ?_ ?_) ?_
  · rw [List.length_map]; show _ ≤ 1000000; omega
  · intro d hd acc
    obtain ⟨s, _, rfl⟩ := List.mem_map.mp hd
    dsimp only [wipeE, List.set, ruleD, stepD]
    repeat' trivial
    refine ⟨fun hb => ?_, fun hb => ?_⟩
    · have hb := of_decide_eq_true hb
      repeat' trivial
      rw [if_pos hb]
    · have hb := of_decide_eq_false hb
      simp [if_neg hb]
  rw [filt]
  repeat' trivial
  refine o1_ix ⟨_, _, rfl, by rw [atI_end, List.getLast?_map, last_some h ht]; rfl, ?_⟩
  dsimp only [stepD]
  repeat' trivial
end LW
set_option Elab.async false
set_option linter.all false
set_option maxRecDepth 100000
set_option maxHeartbeats 4000000
namespace LW
open PySem L2 Evl PySem.Spec PyProof.Rows PF
local macro_rules | `(tactic| trivial) => `(tactic| first
  | (with_reducible first | refine v0 ?_ | refine v1 ?_ | refine v2 ?_ | refine v3 ?_ | refine v4 ?_ | refine v5 ?_ | refine v6 ?_ | refine v7 ?_ | refine v8 ?_ | refine v9 ?_ | refine v10 ?_ | refine v11 ?_ | refine v12 ?_ | refine v13 ?_ | refine tn0 ?_ | refine tn1 ?_ | refine tn2 ?_ | refine tn3 ?_ | refine tn4 ?_ | refine tn5 ?_ | refine tn6 ?_ | refine tn7 ?_ | refine tn8 ?_ | refine tn9 ?_ | refine tn10 ?_ | refine tn11 ?_ | refine tn12 ?_ | refine tn13 ?_ | refine ss0 ?_ | refine ss1 ?_ | refine ss2 ?_ | refine ss3 ?_ | refine ss4 ?_ | refine ss5 ?_ | refine ss6 ?_ | refine ss7 ?_ | refine ss8 ?_ | refine ss9 ?_ | refine ss10 ?_ | refine ss11 ?_ | refine ss12 ?_ | refine ss13 ?_)
  | (with_reducible first | refine r_k ?_ | refine r_bin ?_ | refine r_cons ?_ | refine r_nil ?_ | refine r_call ?_ | refine r_blt ?_ | refine r_un ?_ | refine r_ok ?_ | refine s_seq ?_ | refine s_ret ?_ | refine s_if ?_ | refine s_expr ?_ | refine s_asg ?_ | refine s_par ?_ | refine s_nil ?_ | refine s_brk ?_ | refine s_ct ?_ | refine s_for ?_ | refine bool_t ?_ | refine bool_and ?_ | refine bool_or ?_ | refine bool_not ?_ | refine bool_yes ?_ | refine r_and ?_ | refine r_or ?_ | refine r_not ?_ | refine r_ife ?_ | refine r_chain ?_ | refine r_isi ?_ | refine r_callK ?_ | refine r_mt ?_ | refine r_alloc ?_ | refine r_sliceA ?_ | refine r_sliceL ?_ | refine r_no ?_ | refine r_part ?_ | refine r_scope ?_ | refine t_nil ?_ | refine t_cons ?_ | refine q_seq ?_ | refine q_range ?_ | refine q_range2 ?_ | refine nx_nx ?_ | refine nx_ret ?_ | refine nx_exc ?_ | refine nx_brk ?_ | refine nx_ct ?_ | refine bl_bl ?_ | refine cs_not ?_ | refine cs_t ?_ | refine cs_f ?_ | refine r_bind ?_ | refine r_nox ?_ | refine t_sub ?_ | refine s_retL ?_ | refine o1_sub ?_ | refine o1_add ?_ | refine o1_lt ?_ | refine o1_le ?_ | refine o1_gt ?_ | refine o1_ge ?_ | refine o1_neg ?_ | refine o1_eq ?_ | refine o1_ne ?_ | refine b1_abs ?_ | refine b1_int ?_ | refine b1_min2 ?_ | refine b1_max2 ?_ | refine o1_eqA ?_ | refine o1_neA ?_ | refine o1_eqS ?_ | refine o1_isN ?_ | refine o1_notN ?_ | refine x_bl ?_ | refine x_int ?_ | refine x_str ?_ | refine x_non ?_ | refine x_nx ?_ | refine x_tup ?_ | refine x_lst ?_ | refine sl_tup ?_ | refine sl_lst ?_ | refine sl_fz ?_ | refine sL_lst ?_ | refine sL_fz ?_)
  | (with_reducible first | refine r_tup ?_ | refine r_lst ?_ | refine o1_addT ?_ | refine o1_addL ?_ | refine b1_len ?_ | refine b1_tuple ?_ | refine b1_list ?_ | refine o1_cat ?_ | refine m1_append ?_ | refine o_pow10_1 ?_ | refine o_pow10_2 ?_ | refine o_pow10_3 ?_ | refine o_pow10_4 ?_ | refine o_pow10_5 ?_ | refine o_pow10_6 ?_ | refine o_pow10_7 ?_ | refine o_pow10_8 ?_ | refine o_pow10_9 ?_ | refine o_pow10_10 ?_ | refine o_pow10_11 ?_ | refine o_pow10_12 ?_ | refine o_pow10_13 ?_ | refine o_pow10_14 ?_ | refine o_pow10_15 ?_ | refine o_pow10_16 ?_ | refine o_pow10_17 ?_ | refine o_pow10_18 ?_ | refine o_pow10_20 ?_ | refine o_pow10_30 ?_)
  | ((with_reducible refine o1_ix ?_); refine ⟨_, _, by first | rfl | assumption, by first | rfl | exact atI_zero, ?_⟩)
  | ((with_reducible refine o1_mul ?_ ?_); first | decide | omega | fail)
  | ((with_reducible refine o1_div ?_ ?_); first | decide | omega | fail)
  | ((with_reducible refine o1_mod ?_ ?_); first | decide | omega | fail)
  | ((with_reducible refine b1_divmod ?_ ?_); first | decide | omega | fail)
  | ((with_reducible refine t_tup ?_ ?_); rfl)
  | (with_reducible refine cs_dec (fun _ => ?_) (fun _ => ?_))
  | (with_reducible refine cs_beq (fun _ => ?_) (fun _ => ?_))
  | ((with_reducible refine cs_te ?_ ?_); rfl)
  | ((with_reducible refine cs_fe ?_ ?_); rfl)
  | ((with_reducible refine put0 (by assumption) ?_ fun _ => ?_); first | rfl | fail)
  | ((with_reducible refine put1 (by assumption) ?_ fun _ => ?_); first | rfl | fail)
  | ((with_reducible refine put2 (by assumption) ?_ fun _ => ?_); first | rfl | fail)
  | exact take_same
  | refine ⟨_, _, by first | rfl | assumption, rfl, ?_⟩
  | (with_reducible refine fun (_ : Nat) (_ : Store) (_ : _ = _) (_ : _ = _) (_ : _ = _) => ?_)
  | refine ⟨_, _, rfl, ?_⟩
  | refine ⟨_, by first | rfl | assumption, ?_⟩
  | ((with_reducible refine And.intro ?_ ?_); first | rfl | exact Nat.le_of_ble_eq_true rfl | decide | omega | fail))

/-- a well stands at n -/
def Well (n : Nat) (S : Store) : Prop := ∃ g a b, S[n]? = some [.int g, .int a, .int b]
/-- nothing but the well has changed -/
def Fr (n : Nat) (S S' : Store) : Prop := Well n S' ∧ S'.length = S.length ∧ ∀ m, m ≠ n → S'[m]? = S[m]?
theorem Fr.refl {n : Nat} {S : Store} (h : Well n S) : Fr n S S := ⟨h, rfl, fun _ _ => rfl⟩
theorem Fr.trans {n : Nat} {S S' S'' : Store} (h : Fr n S S') (h' : Fr n S' S'') : Fr n S S'' := ⟨h'.1, h'.2.1.trans h.2.1, fun m hm => (h'.2.2 m hm).trans (h.2.2 m hm)⟩
theorem Well.put {n : Nat} {S : Store} {x : List D} {g a b : Int} (h : S[n]? = some x) : Fr n S (S.set n [.int g, .int a, .int b]) :=
  ⟨⟨g, a, b, set_get _ h⟩, by simp, fun m hm => by rw [List.getElem?_set_ne (fun e => hm e.symm)]⟩
theorem draw_ok {n : Nat} {S : Store} (h : Well n S) {l : Int} (hl : 0 < l ∧ l < 1073741824) : Pst (F__law_draw [.loc n, .int l] S) (fun d S' => ∃ r, d = .int r ∧ 0 ≤ r ∧ r < l ∧ Fr n S S') NoE := by
  obtain ⟨g, a, b, hS⟩ := h
  unfold F__law_draw b__law_draw
  refine call_go rfl ?_
  dsimp only [startE, List.map, List.replicate, List.length, List.cons_append, List.nil_append, Nat.reduceAdd, Nat.reduceSub]
  repeat' trivial
  all_goals refine ⟨?_, ?_, ?_⟩
  · exact Int.emod_nonneg _ (by omega)
  · exact Int.emod_lt_of_pos _ hl.1
  · rw [List.take_of_length_le (by simp)]
    exact Well.put hS
  · exact Int.emod_nonneg _ (by omega)
  · exact Int.emod_lt_of_pos _ hl.1
  · rw [List.take_of_length_le (by simp), List.set_set]
    exact Well.put hS
theorem len_of {n : Nat} {S : Store} (h : Well n S) : n < S.length := by
  obtain ⟨g, a, b, h⟩ := h
  rcases Nat.lt_or_ge n S.length with h1 | h1
  · exact h1
  · rw [List.getElem?_eq_none h1] at h; cases h
theorem Fr.take {n : Nat} {S S' : Store} (h : Fr n S S') : S'.take S.length = S' := List.take_of_length_le (by rw [h.2.1]; exact Nat.le_refl _)
theorem atI_ok {α : Type} {xs : List α} {i : Int} (h : 0 ≤ i ∧ i < xs.length) : ∃ d, atI xs i = some d ∧ d ∈ xs ∧ xs[i.toNat]? = some d := by
  have h1 : i.toNat < xs.length := by omega
  refine ⟨xs[i.toNat], ?_, List.getElem_mem _, List.getElem?_eq_getElem h1⟩
  simp only [atI, ixN, if_pos h.1, if_pos h.2, Option.bind_some, List.getElem?_eq_getElem h1]
theorem of_ok {n : Nat} {S : Store} (h : Well n S) {ds : List D} (h0 : 0 < ds.length ∧ ds.length < 1000000) (hp : D.pures ds = true) : Pst (F__law_of [.loc n, .tup ds] S) (fun d S' => d ∈ ds ∧ d.pure = true ∧ Fr n S S') NoE := by
  unfold F__law_of b__law_of
  refine call_go rfl ?_
  dsimp only [startE, List.map, List.replicate, List.length, List.cons_append, List.nil_append, Nat.reduceAdd, Nat.reduceSub]
  repeat' trivial
  refine Pst.imp (draw_ok h (by omega)) ?_
  rintro _ S1 ⟨r, rfl, r0, r1, hf⟩
  obtain ⟨d, hd, hm, _⟩ := atI_ok (xs := ds) ⟨r0, r1⟩
  refine o1_ix ⟨_, _, rfl, hd, ?_⟩
  have hq := D.pures_iff.mp hp d hm
  rw [exit_pure hq, hf.take]
  exact ⟨hm, hq, hf⟩
def Bnd (lo hi : Int) (ds : List D) : Prop := ∀ d ∈ ds, ∃ i, d = D.int i ∧ lo ≤ i ∧ i ≤ hi
theorem bnd_nil {lo hi : Int} : Bnd lo hi [] := fun _ h => by cases h
theorem bnd_cons {lo hi i : Int} {ds : List D} (h : lo ≤ i ∧ i ≤ hi) (hb : Bnd lo hi ds) : Bnd lo hi (.int i :: ds) := by
  intro d hd
  rcases List.mem_cons.mp hd with rfl | hd
  · exact ⟨i, rfl, h⟩
  · exact hb d hd
theorem of_int (lo hi : Int) {n : Nat} {S : Store} (h : Well n S) {ds : List D} (h0 : 0 < ds.length ∧ ds.length < 1000000) (hb : Bnd lo hi ds) : Pst (F__law_of [.loc n, .tup ds] S) (fun d S' => ∃ r, d = .int r ∧ lo ≤ r ∧ r ≤ hi ∧ Fr n S S') NoE := by
  refine (of_ok h h0 (D.pures_iff.mpr fun d hd => ?_)).mono (fun d S1 h => ?_) fun _ _ h => h
  · obtain ⟨i, rfl, _⟩ := hb d hd
    rfl
  · obtain ⟨i, rfl, h1, h2⟩ := hb d h.1
    exact ⟨i, rfl, h1, h2, h.2.2⟩

theorem draw_go {n : Nat} {S : Store} {l : Int} {Q : D → Store → Prop} {E : XV → Store → Prop} (h : Well n S) (hl : 0 < l ∧ l < 1073741824) (k : ∀ r S', 0 ≤ r → r < l → Fr n S S' → Well n S' → Q (.int r) S') : Pst (F__law_draw [.loc n, .int l] S) Q E := by
  refine Pst.imp (draw_ok h hl) ?_
  rintro _ S1 ⟨r, rfl, r0, r1, hf⟩
  exact k r S1 r0 r1 hf hf.1
theorem of_go (lo hi : Int) {n : Nat} {S : Store} {ds : List D} {Q : D → Store → Prop} {E : XV → Store → Prop} (h : Well n S) (h0 : 0 < ds.length ∧ ds.length < 1000000) (hb : Bnd lo hi ds) (k : ∀ r S', lo ≤ r → r ≤ hi → Fr n S S' → Well n S' → Q (.int r) S') : Pst (F__law_of [.loc n, .tup ds] S) Q E := by
  refine Pst.imp (of_int lo hi h h0 hb) ?_
  rintro _ S1 ⟨r, rfl, r0, r1, hf⟩
  exact k r S1 r0 r1 hf hf.1
end LW
set_option Elab.async false
set_option linter.all false
set_option maxRecDepth 100000
set_option maxHeartbeats 4000000
namespace LW
open PySem L2 Evl PySem.Spec PyProof.Rows PF
local macro_rules | `(tactic| trivial) => `(tactic| first
  | (with_reducible first | refine v0 ?_ | refine v1 ?_ | refine v2 ?_ | refine v3 ?_ | refine v4 ?_ | refine v5 ?_ | refine v6 ?_ | refine v7 ?_ | refine v8 ?_ | refine v9 ?_ | refine v10 ?_ | refine v11 ?_ | refine v12 ?_ | refine v13 ?_ | refine tn0 ?_ | refine tn1 ?_ | refine tn2 ?_ | refine tn3 ?_ | refine tn4 ?_ | refine tn5 ?_ | refine tn6 ?_ | refine tn7 ?_ | refine tn8 ?_ | refine tn9 ?_ | refine tn10 ?_ | refine tn11 ?_ | refine tn12 ?_ | refine tn13 ?_ | refine ss0 ?_ | refine ss1 ?_ | refine ss2 ?_ | refine ss3 ?_ | refine ss4 ?_ | refine ss5 ?_ | refine ss6 ?_ | refine ss7 ?_ | refine ss8 ?_ | refine ss9 ?_ | refine ss10 ?_ | refine ss11 ?_ | refine ss12 ?_ | refine ss13 ?_)
  | (with_reducible first | refine r_k ?_ | refine r_bin ?_ | refine r_cons ?_ | refine r_nil ?_ | refine r_call ?_ | refine r_blt ?_ | refine r_un ?_ | refine r_ok ?_ | refine s_seq ?_ | refine s_ret ?_ | refine s_if ?_ | refine s_expr ?_ | refine s_asg ?_ | refine s_par ?_ | refine s_nil ?_ | refine s_brk ?_ | refine s_ct ?_ | refine s_for ?_ | refine bool_t ?_ | refine bool_and ?_ | refine bool_or ?_ | refine bool_not ?_ | refine bool_yes ?_ | refine r_and ?_ | refine r_or ?_ | refine r_not ?_ | refine r_ife ?_ | refine r_chain ?_ | refine r_isi ?_ | refine r_callK ?_ | refine r_mt ?_ | refine r_alloc ?_ | refine r_sliceA ?_ | refine r_sliceL ?_ | refine r_no ?_ | refine r_part ?_ | refine r_scope ?_ | refine t_nil ?_ | refine t_cons ?_ | refine q_seq ?_ | refine q_range ?_ | refine q_range2 ?_ | refine nx_nx ?_ | refine nx_ret ?_ | refine nx_exc ?_ | refine nx_brk ?_ | refine nx_ct ?_ | refine bl_bl ?_ | refine cs_not ?_ | refine cs_t ?_ | refine cs_f ?_ | refine r_bind ?_ | refine r_nox ?_ | refine t_sub ?_ | refine s_retL ?_ | refine o1_sub ?_ | refine o1_add ?_ | refine o1_lt ?_ | refine o1_le ?_ | refine o1_gt ?_ | refine o1_ge ?_ | refine o1_neg ?_ | refine o1_eq ?_ | refine o1_ne ?_ | refine b1_abs ?_ | refine b1_int ?_ | refine b1_min2 ?_ | refine b1_max2 ?_ | refine o1_eqA ?_ | refine o1_neA ?_ | refine o1_eqS ?_ | refine o1_isN ?_ | refine o1_notN ?_ | refine x_bl ?_ | refine x_int ?_ | refine x_str ?_ | refine x_non ?_ | refine x_nx ?_ | refine x_tup ?_ | refine x_lst ?_ | refine sl_tup ?_ | refine sl_lst ?_ | refine sl_fz ?_ | refine sL_lst ?_ | refine sL_fz ?_)
  | (with_reducible first | refine r_tup ?_ | refine r_lst ?_ | refine o1_addT ?_ | refine o1_addL ?_ | refine b1_len ?_ | refine b1_tuple ?_ | refine b1_list ?_ | refine o1_cat ?_ | refine m1_append ?_ | refine o_pow10_1 ?_ | refine o_pow10_2 ?_ | refine o_pow10_3 ?_ | refine o_pow10_4 ?_ | refine o_pow10_5 ?_ | refine o_pow10_6 ?_ | refine o_pow10_7 ?_ | refine o_pow10_8 ?_ | refine o_pow10_9 ?_ | refine o_pow10_10 ?_ | refine o_pow10_11 ?_ | refine o_pow10_12 ?_ | refine o_pow10_13 ?_ | refine o_pow10_14 ?_ | refine o_pow10_15 ?_ | refine o_pow10_16 ?_ | refine o_pow10_17 ?_ | refine o_pow10_18 ?_ | refine o_pow10_20 ?_ | refine o_pow10_30 ?_)
  | ((with_reducible refine o1_ix ?_); refine ⟨_, _, by first | rfl | assumption, by first | rfl | exact atI_zero, ?_⟩)
  | ((with_reducible refine o1_mul ?_ ?_); first | decide | omega | fail)
  | ((with_reducible refine o1_div ?_ ?_); first | decide | omega | fail)
  | ((with_reducible refine o1_mod ?_ ?_); first | decide | omega | fail)
  | ((with_reducible refine b1_divmod ?_ ?_); first | decide | omega | fail)
  | ((with_reducible refine t_tup ?_ ?_); rfl)
  | (with_reducible refine cs_dec (fun _ => ?_) (fun _ => ?_))
  | (with_reducible refine cs_beq (fun _ => ?_) (fun _ => ?_))
  | ((with_reducible refine cs_te ?_ ?_); rfl)
  | ((with_reducible refine cs_fe ?_ ?_); rfl)
  | ((with_reducible refine put0 (by assumption) ?_ fun _ => ?_); first | rfl | fail)
  | ((with_reducible refine put1 (by assumption) ?_ fun _ => ?_); first | rfl | fail)
  | ((with_reducible refine put2 (by assumption) ?_ fun _ => ?_); first | rfl | fail)
  | exact take_same
  | refine ⟨_, _, by first | rfl | assumption, rfl, ?_⟩
  | (with_reducible refine fun (_ : Nat) (_ : Store) (_ : _ = _) (_ : _ = _) (_ : _ = _) => ?_)
  | refine ⟨_, _, rfl, ?_⟩
  | refine ⟨_, by first | rfl | assumption, ?_⟩
  | ((with_reducible refine And.intro ?_ ?_); first | rfl | exact Nat.le_of_ble_eq_true rfl | decide | omega | fail)
  | ((with_reducible refine draw_go (by assumption) ?_ ?_); omega; intro _ _ _ _ _ _)
  | ((with_reducible refine of_go 1 100000 (by assumption) ?_ ?_ ?_); (exact ⟨Nat.zero_lt_succ _, Nat.le_of_ble_eq_true rfl⟩); (focus ((repeat (first | exact bnd_nil | refine bnd_cons (by omega) ?_)); done)); intro _ _ _ _ _ _)
  | ((with_reducible refine of_go 1 1000000 (by assumption) ?_ ?_ ?_); (exact ⟨Nat.zero_lt_succ _, Nat.le_of_ble_eq_true rfl⟩); (focus ((repeat (first | exact bnd_nil | refine bnd_cons (by omega) ?_)); done)); intro _ _ _ _ _ _)
  | ((with_reducible refine of_go 1 1000001 (by assumption) ?_ ?_ ?_); (exact ⟨Nat.zero_lt_succ _, Nat.le_of_ble_eq_true rfl⟩); (focus ((repeat (first | exact bnd_nil | refine bnd_cons (by omega) ?_)); done)); intro _ _ _ _ _ _)
  | ((with_reducible refine of_go 0 1000 (by assumption) ?_ ?_ ?_); (exact ⟨Nat.zero_lt_succ _, Nat.le_of_ble_eq_true rfl⟩); (focus ((repeat (first | exact bnd_nil | refine bnd_cons (by omega) ?_)); done)); intro _ _ _ _ _ _)
  | ((with_reducible refine of_go 0 1000000 (by assumption) ?_ ?_ ?_); (exact ⟨Nat.zero_lt_succ _, Nat.le_of_ble_eq_true rfl⟩); (focus ((repeat (first | exact bnd_nil | refine bnd_cons (by omega) ?_)); done)); intro _ _ _ _ _ _))

theorem asc_iff : ∀ ns : List Int, ascB ns = true ↔ ns.Pairwise (· < ·)
  | [] => by simp [ascB]
  | [a] => by simp [ascB]
  | a :: b :: l => by
    have ih := asc_iff (b :: l)
    have e : ascB (a :: b :: l) = (decide (a < b) && ascB (b :: l)) := by simp [ascB]
    rw [e, Bool.and_eq_true, ih, decide_eq_true_eq, List.pairwise_cons (a := a)]
    constructor
    · rintro ⟨h1, h2⟩
      refine ⟨fun x hx => ?_, h2⟩
      rcases List.mem_cons.mp hx with rfl | hx
      · exact h1
      · exact Int.lt_trans h1 ((List.pairwise_cons.mp h2).1 x hx)
    · rintro ⟨h1, h2⟩
      exact ⟨h1 b (List.mem_cons_self ..), h2⟩
/-- more may have been laid behind -/
def FrX (n : Nat) (S S' : Store) : Prop := Well n S' ∧ S.length ≤ S'.length ∧ ∀ m, m < S.length → m ≠ n → S'[m]? = S[m]?
theorem Fr.x {n : Nat} {S S' : Store} (h : Fr n S S') : FrX n S S' := ⟨h.1, by rw [h.2.1]; exact Nat.le_refl _, fun m _ hn => h.2.2 m hn⟩
theorem FrX.trans {n : Nat} {S S' S'' : Store} (h : FrX n S S') (h' : FrX n S' S'') : FrX n S S'' := ⟨h'.1, Nat.le_trans h.2.1 h'.2.1, fun m hm hn => (h'.2.2 m (Nat.lt_of_lt_of_le hm h.2.1) hn).trans (h.2.2 m hm hn)⟩
theorem FrX.cut {n : Nat} {S S' : Store} (h : FrX n S S') (hn : n < S.length) : Fr n S (S'.take S.length) := by
  obtain ⟨⟨g, a, b, hw⟩, hl, hm⟩ := h
  refine ⟨⟨g, a, b, by rw [List.getElem?_take_of_lt hn]; exact hw⟩, by simp; omega, fun m hne => ?_⟩
  by_cases h1 : m < S.length
  · rw [List.getElem?_take_of_lt h1]; exact hm m h1 hne
  · rw [List.getElem?_eq_none (by simp; omega), List.getElem?_eq_none (by omega)]
theorem Well.more {n : Nat} {S : Store} (h : Well n S) (x : List D) : Well n (S ++ [x]) := by
  have := len_of h
  obtain ⟨g, a, b, h⟩ := h
  exact ⟨g, a, b, by rw [List.getElem?_append_left this]; exact h⟩
theorem FrX.lay {n : Nat} {S : Store} (h : Well n S) (x : List D) : FrX n S (S ++ [x]) := ⟨h.more x, by simp, fun m hm _ => List.getElem?_append_left hm⟩
theorem Well.other {n m : Nat} {S : Store} (h : Well n S) (hm : m ≠ n) (x : List D) : Well n (S.set m x) := by
  obtain ⟨g, a, b, h⟩ := h
  exact ⟨g, a, b, by rw [List.getElem?_set_ne hm]; exact h⟩
theorem Fr.back {n : Nat} {S S2 : Store} {x : List D} (hw : Well n S) (h : Fr n (S ++ [x]) S2) : ∃ S3, S2 = S3 ++ [x] ∧ Fr n S S3 := by
  have hn := len_of hw
  have hl : S2.length = S.length + 1 := by rw [h.2.1]; simp
  have e : S2[S.length]? = some x := by rw [h.2.2 _ (by omega)]; simp
  refine ⟨S2.take S.length, ?_, ?_⟩
  · have h2 : S.length < S2.length := by omega
    rw [List.getElem?_eq_getElem h2] at e
    cases e
    have := List.take_succ_eq_append_getElem h2
    rw [← this, List.take_of_length_le (by omega)]
  · obtain ⟨g, a, b, hg⟩ := h.1
    refine ⟨⟨g, a, b, by rw [List.getElem?_take_of_lt hn]; exact hg⟩, by simp; omega, fun m hm => ?_⟩
    by_cases h1 : m < S.length
    · rw [List.getElem?_take_of_lt h1, h.2.2 m hm, List.getElem?_append_left h1]
    · rw [List.getElem?_eq_none (by simp; omega), List.getElem?_eq_none (by omega)]
def okS (s : St) : Prop := (0 ≤ s.1 ∧ s.1 ≤ 1000000) ∧ (0 ≤ s.2.1 ∧ s.2.1 ≤ 1000000) ∧ (0 ≤ s.2.2 ∧ s.2.2 ≤ 1000)
/-- a rule that grows, with no start behind top -/
structure Grow (k : Nat) (rs : List St) (top : Int) : Prop where
  l1 : 1 ≤ rs.length
  lk : rs.length ≤ k
  ok : ∀ s ∈ rs, okS s
  h0 : (rs.getD 0 (0, 0, 0)).1 = 0
  asc : (rs.map (·.1)).Pairwise (· < ·)
  top : ∀ s ∈ rs, s.1 ≤ top
theorem Grow.rule {k : Nat} {rs : List St} {top : Int} (h : Grow k rs top) (hk : k ≤ 6) : Rule rs := ⟨h.l1, Nat.le_trans h.lk hk, h.ok, h.h0, (asc_iff _).mpr h.asc⟩
theorem Grow.one {b r : Int} (hb : 0 ≤ b ∧ b ≤ 1000000) (hr : 0 ≤ r ∧ r ≤ 1000) : Grow 1 [(0, b, r)] 0 := by
  refine ⟨by simp, by simp, ?_, rfl, by simp, ?_⟩
  · intro s hs
    rw [List.mem_singleton] at hs
    subst hs
    exact ⟨⟨Int.le_refl _, (by decide : (0 : Int) ≤ 1000000)⟩, hb, hr⟩
  · intro s hs
    rw [List.mem_singleton] at hs
    subst hs
    exact Int.le_refl _
theorem Grow.up {k m : Nat} {rs : List St} {a b : Int} (h : Grow k rs a) (hk : k ≤ m) (hb : a ≤ b) : Grow m rs b := ⟨h.l1, Nat.le_trans h.lk hk, h.ok, h.h0, h.asc, fun s hs => Int.le_trans (h.top s hs) hb⟩
theorem Grow.add {k : Nat} {rs : List St} {top : Int} (h : Grow k rs top) {s : St} (hs : okS s) (ht : top < s.1) : Grow (k + 1) (rs ++ [s]) s.1 := by
  refine ⟨by simp, by simp; exact h.lk, ?_, ?_, ?_, ?_⟩
  · intro x hx
    rcases List.mem_append.mp hx with hx | hx
    · exact h.ok x hx
    · rw [List.mem_singleton] at hx; subst hx; exact hs
  · have := h.h0
    have l1 := h.l1
    match rs, l1, this with
    | x :: rs, _, h0 => exact h0
  · rw [List.map_append, List.pairwise_append]
    refine ⟨h.asc, by simp, fun x hx y hy => ?_⟩
    obtain ⟨z, hz, rfl⟩ := List.mem_map.mp hx
    simp only [List.map_cons, List.map_nil, List.mem_singleton] at hy
    subst hy
    exact Int.lt_of_le_of_lt (h.top z hz) ht
  · intro x hx
    rcases List.mem_append.mp hx with hx | hx
    · exact Int.le_of_lt (Int.lt_of_le_of_lt (h.top x hx) ht)
    · rw [List.mem_singleton] at hx; subst hx; exact Int.le_refl _
theorem insI_mem (x : Int) : ∀ (l : List Int) (y : Int), y ∈ insI x l ↔ y = x ∨ y ∈ l
  | [], y => by simp [insI]
  | a :: l, y => by
    unfold insI
    split
    · simp
    · simp only [List.mem_cons, insI_mem x l y]
      constructor
      · rintro (h | h | h) <;> simp [h]
      · rintro (h | h | h) <;> simp [h]
theorem insI_len (x : Int) : ∀ l : List Int, (insI x l).length = l.length + 1
  | [] => rfl
  | a :: l => by
    unfold insI
    split
    · simp
    · simp [insI_len x l]
theorem insI_pw (x : Int) : ∀ l : List Int, l.Pairwise (· ≤ ·) → (insI x l).Pairwise (· ≤ ·)
  | [], _ => by simp [insI]
  | a :: l, h => by
    unfold insI
    have h1 := List.pairwise_cons.mp h
    split
    · rename_i hx
      refine List.pairwise_cons.mpr ⟨fun y hy => ?_, h⟩
      rcases List.mem_cons.mp hy with rfl | hy
      · exact hx
      · exact Int.le_trans hx (h1.1 y hy)
    · rename_i hx
      refine List.pairwise_cons.mpr ⟨fun y hy => ?_, insI_pw x l h1.2⟩
      rcases (insI_mem x l y).mp hy with rfl | hy
      · omega
      · exact h1.1 y hy
theorem sortI_len : ∀ l : List Int, (sortI l).length = l.length
  | [] => rfl
  | a :: l => by simp [sortI, insI_len, sortI_len l]
theorem sortI_mem : ∀ (l : List Int) (y : Int), y ∈ sortI l ↔ y ∈ l
  | [], y => by simp [sortI]
  | a :: l, y => by simp [sortI, insI_mem, sortI_mem l y]
theorem sortI_pw : ∀ l : List Int, (sortI l).Pairwise (· ≤ ·)
  | [] => by simp [sortI]
  | a :: l => insI_pw a _ (sortI_pw l)
theorem last_of {rs : List St} (h : 1 ≤ rs.length) : ∃ z, rs.getLast? = some z ∧ z ∈ rs := by
  match hz : rs.getLast?, h with
  | some z, _ => exact ⟨z, rfl, List.mem_of_getLast? hz⟩
  | none, h =>
    rw [List.getLast?_eq_none_iff] at hz
    subst hz
    cases h
theorem feeN_b {rs : List St} (h : Rule rs) {t : Int} (ht : 0 ≤ t) : 0 ≤ feeN rs t := by
  have hm := h.ok _ (last_mem h ht)
  unfold feeN
  have := Int.mul_nonneg hm.2.2.1 ht
  omega
theorem rate_ok {l r s : Int} (hs : 1 ≤ s) (h : r ≤ l * 1000 / s) : (r * s + 999) / 1000 ≤ l := by
  have h1 : r * s ≤ l * 1000 := (Int.le_ediv_iff_mul_le (by omega)).mp h
  omega
theorem level_ok {n : Nat} {S : Store} (h : Well n S) {many wide : Int} (hm : 1 ≤ many ∧ many ≤ 6) (hw : 1 ≤ wide ∧ wide ≤ 100000) :
    Pst (F__law_level_rule [.loc n, .int many, .int wide] S) (fun d S' => ∃ rs, d = ruleD rs ∧ Rule rs ∧ Fr n S S') NoE := by
  unfold F__law_level_rule b__law_level_rule
  refine call_go rfl ?_
  dsimp only [startE, List.map, List.replicate, List.length, List.cons_append, List.nil_append, Nat.reduceAdd, Nat.reduceSub]
  repeat' trivial
  rename_i b S1 b0 b1 f1 w1 r S2 r0 r1 f2 w2
  refine for_of (fun i ρ S' => ∃ rs st x5 x6 x7, ρ = [some (.loc n), some (.int many), some (.int wide), some (.tup (rs.map stepD)), some (.int st), x5, x6, x7] ∧ Grow (i + 1) rs st ∧ 0 ≤ st ∧ Fr n S S') ?_ (fun _ _ _ _ => rfl) ?_ ?_
  · exact ⟨[(0, b, r)], 0, none, none, none, rfl, Grow.one (by omega) (by omega), Int.le_refl _, by repeat (first | assumption | refine Fr.trans ?_ (by assumption))⟩
  · rintro i d ρ S3 hd ⟨rs, st, x5, x6, x7, rfl, hg, hst, hf⟩
    have hi : i + 1 ≤ 5 := by
      have h1 : i < (ranged 0 (many - 1).toNat).length := by
        rcases Nat.lt_or_ge i (ranged 0 (many - 1).toNat).length with h | h
        · exact h
        · rw [List.getElem?_eq_none h] at hd; cases hd
      rw [ranged_len] at h1
      omega
    have w3 := hf.1
    have hr := hg.rule (by omega)
    repeat' trivial
    · rename_i v S4 v0 v1 f4 w4 hle
      refine r_eq (law_fee_eq hr (by omega)) ?_
      have hfee := feeN_b hr (t := st + 1 + v - 1) (by omega)
      repeat' trivial
      obtain ⟨z, hz, hzm⟩ := last_of hg.l1
      obtain ⟨⟨z1, z2⟩, ⟨z3, z4⟩, z5, z6⟩ := hg.ok z hzm
      refine o1_ix ⟨_, _, rfl, (by rw [atI_end, List.getLast?_map, hz]; rfl), ?_⟩
      rw [show stepD z = .tup [.int z.1, .int z.2.1, .int z.2.2] from rfl]
      repeat' trivial
      rename_i q S5 q0 q1 f5 w5 u S6 u0 u1 f6 w6
      have hs1 : 1 ≤ st + 1 + v := by omega
      have key := rate_ok (l := 1 + feeN rs (st + 1 + v - 1)) hs1 (Int.min_le_right u ((1 + feeN rs (st + 1 + v - 1)) * 1000 / (st + 1 + v)))
      have k0 : 0 ≤ (1 + feeN rs (st + 1 + v - 1)) * 1000 / (st + 1 + v) := Int.ediv_nonneg (by omega) (by omega)
      repeat' trivial
      rename_i e S7 e0 e1 f7 w7 c S8 c0 c1 f8 w8
      have hlk := hg.lk
      refine ⟨by rw [List.length_map]; show _ + 1 ≤ 1000000; omega, ?_⟩
      have hok : okS (st + 1 + v, c, min u ((1 + feeN rs (st + 1 + v - 1)) * 1000 / (st + 1 + v))) := ⟨⟨by show 0 ≤ st + 1 + v; omega, hle⟩, ⟨c0, c1⟩, ⟨by show 0 ≤ min _ _; omega, by show min _ _ ≤ 1000; omega⟩⟩
      refine ⟨rs ++ [(st + 1 + v, c, min u ((1 + feeN rs (st + 1 + v - 1)) * 1000 / (st + 1 + v)))], st + 1 + v, _, _, _, (by rw [List.map_append]; rfl), (hg.add hok (by show st < st + 1 + v; omega)), by omega, by repeat (first | assumption | refine Fr.trans ?_ (by assumption))⟩
    · exact ⟨rs, _, _, _, _, rfl, hg.up (by omega) (by omega), by omega, by repeat (first | assumption | refine Fr.trans ?_ (by assumption))⟩
  · rintro ρ S3 ⟨rs, st, x5, x6, x7, rfl, hg, hst, hf⟩
    rw [ranged_len] at hg
    repeat' trivial
    refine ⟨D.pures_iff.mpr fun d hd => ?_, rs, rfl, hg.rule (by omega), ?_⟩
    · obtain ⟨s, _, rfl⟩ := List.mem_map.mp hd
      rfl
    · rw [hf.take]; exact hf

theorem lrule_ok {n : Nat} {S : Store} (h : Well n S) : Pst (F__law_rule [.loc n] S) (fun d S' => ∃ rs, d = ruleD rs ∧ Rule rs ∧ Fr n S S') NoE := by
  unfold F__law_rule b__law_rule
  refine call_go rfl ?_
  dsimp only [startE, List.map, List.replicate, List.length, List.cons_append, List.nil_append, Nat.reduceAdd, Nat.reduceSub]
  repeat' trivial
  · rename_i r S1 r0 r1 f1 w1 e q S2 q0 q1 f2 w2 u S3 u0 u1 f3 w3
    refine Pst.imp (level_ok w3 (by omega) (by omega)) ?_
    rintro _ S4 ⟨rs, rfl, hr, f4⟩
    repeat' trivial
    have hp : (ruleD rs).pure = true := D.pures_iff.mpr fun d hd => by
      obtain ⟨s, _, rfl⟩ := List.mem_map.mp hd
      rfl
    rw [exit_pure hp]
    have ff : Fr n S S4 := by repeat (first | assumption | refine Fr.trans ?_ (by assumption))
    exact ⟨rs, rfl, hr, by rw [ff.take]; exact ff⟩
  · refine r_comp ?_
    repeat' trivial
    rename_i r S1 r0 r1 f1 w1 e q S2 q0 q1 f2 w2
    refine comp_inv (ds := ranged 0 q.toNat) (fun i acc S' => Fr n S2 S' ∧ ∃ ns : List Int, acc = ns.map D.int ∧ ns.length = i ∧ ∀ x ∈ ns, 1 ≤ x ∧ x ≤ 1000000) rfl ?_ rfl ?_ ?_ ?_ ?_
    · rintro i acc S3 ⟨f3, _⟩
      exact ⟨f3.2.1, rfl⟩
    · rw [ranged_len]; show _ ≤ 1000000; omega
    · exact ⟨Fr.refl w2, [], rfl, rfl, fun x hx => by cases hx⟩
    · rintro i d acc S3 hd ⟨f3, ns, rfl, hl, hb⟩
      have w3 := f3.1.more (ns.map D.int)
      dsimp only [wipeE, List.set]
      repeat' trivial
      refine ⟨fun _ => ?_, fun hb => by cases hb⟩
      repeat' trivial
      rename_i u S4 u0 u1 f4 w4 v S5 v0 v1 f5 w5
      obtain ⟨S6, rfl, f6⟩ := Fr.back f3.1 (f4.trans f5)
      refine ⟨S6, rfl, rfl, f3.trans f6, ns ++ [1 + v], by simp, by simp [hl], fun x hx => ?_⟩
      rcases List.mem_append.mp hx with hx | hx
      · exact hb x hx
      · rw [List.mem_singleton] at hx; omega
    rintro acc S3 ⟨f3, ns, rfl, hl, hb⟩
    rw [ranged_len] at hl
    have w3 := f3.1
    repeat' trivial
    refine b1_sorted ?_
    repeat' trivial
    rename_i b S4 b0 b1 f4 w4 c S5 c0 c1 f5 w5 z S6 z0 z1 f6 w6 m0 S60 em eS6 hS6
    subst em
    subst eS6
    have hn6 := len_of w6
    have hL : (sortI ns).length ≤ 5 := by rw [sortI_len]; omega
    refine for_of (fun i ρ S' => ∃ x2 x4 x5 rs top, ρ = [some (.loc n), some (.lst ((sortI ns).map D.int)), x2, some (.loc S6.length), x4, x5] ∧ S'[S6.length]? = some (rs.map stepD) ∧ Grow (i + 1) rs top ∧ (i = 0 → top = 0) ∧ (0 < i → (sortI ns)[i - 1]? = some top) ∧ FrX n S6 S') ?_ (fun _ _ _ _ => rfl) ?_ ?_
    · exact ⟨_, _, _, [(0, c, z)], 0, rfl, (by simp [stepD]), Grow.one (by omega) (by omega), fun _ => rfl, (fun h => by cases h), FrX.lay w6 _⟩
    · rintro i d ρ S7 hd ⟨x2, x4, x5, rs, top, rfl, hm, hg, ht0, ht1, hf⟩
      have w7 := hf.1
      rw [numb_get, List.getElem?_map, Option.map_map] at hd
      obtain ⟨st, hst, rfl⟩ := Option.map_eq_some_iff.mp hd
      have hmem := (sortI_mem ns st).mp (List.mem_of_getElem? hst)
      have hsb := hb st hmem
      have hi5 : i < (sortI ns).length := by
        rcases Nat.lt_or_ge i (sortI ns).length with h | h
        · exact h
        · rw [List.getElem?_eq_none h] at hst; cases hst
      have htop : 0 < i → top ≤ st := fun h0 => by
        have h1 := ht1 h0
        have hp := List.pairwise_iff_getElem.mp (sortI_pw ns) (i - 1) i (by omega) hi5 (by omega)
        rw [List.getElem?_eq_getElem hi5] at hst
        rw [List.getElem?_eq_getElem (by omega)] at h1
        cases hst; cases h1
        exact hp
      dsimp only [Function.comp]
      repeat' trivial
      · rename_i h0 _ _ _ _ _ _ _ _ _ _ _ _ _ _ _ _ _ _
        have htop0 := ht0 (by omega)
        rename_i b' S8 b0' b1' f8 w8 c' S9 c0' c1' f9 w9 z' S10 z0' z1' f10 w10
        have ff : Fr n S7 S10 := f8.trans (f9.trans f10)
        have hm10 : S10[S6.length]? = some (rs.map stepD) := by rw [ff.2.2 _ (by omega)]; exact hm
        have hlk := hg.lk
        have fx := hf.trans ff.x
        refine ⟨_, hm10, ⟨rfl, by rw [List.length_map]; show _ < 1000000; omega⟩, fun hset => ?_⟩
        refine ⟨_, _, _, rs ++ [(st, c', z')], st, rfl, ?_, hg.add ⟨⟨by show 0 ≤ st; omega, hsb.2⟩, ⟨c0', by show c' ≤ 1000000; omega⟩, ⟨z0', by show z' ≤ 1000; omega⟩⟩ (by show top < st; omega), (fun h => by omega), (fun _ => hst), w10.other (by omega) _, (by simp; exact fx.2.1), fun k hk hne => by rw [List.getElem?_set_ne (by omega)]; exact fx.2.2 k hk hne⟩
        rw [hset, List.map_append]
        rfl
      · rename_i h0
        refine o1_ix ⟨_, _, rfl, (by rw [atI_nat _ (by omega), List.getElem?_map, show (((0 + i : Nat) : Int) - 1).toNat = i - 1 by omega, ht1 (by omega)]; rfl), ?_⟩
        repeat' trivial
        · rename_i b' S8 b0' b1' f8 w8 c' S9 c0' c1' f9 w9 z' S10 z0' z1' f10 w10
          have ff : Fr n S7 S10 := f8.trans (f9.trans f10)
          have hm10 : S10[S6.length]? = some (rs.map stepD) := by rw [ff.2.2 _ (by omega)]; exact hm
          have hlk := hg.lk
          have fx := hf.trans ff.x
          refine ⟨_, hm10, ⟨rfl, by rw [List.length_map]; show _ < 1000000; omega⟩, fun hset => ?_⟩
          refine ⟨_, _, _, rs ++ [(st, c', z')], st, rfl, ?_, hg.add ⟨⟨by show 0 ≤ st; omega, hsb.2⟩, ⟨c0', by show c' ≤ 1000000; omega⟩, ⟨z0', by show z' ≤ 1000; omega⟩⟩ (by show top < st; omega), (fun h => by omega), (fun _ => hst), w10.other (by omega) _, (by simp; exact fx.2.1), fun k hk hne => by rw [List.getElem?_set_ne (by omega)]; exact fx.2.2 k hk hne⟩
          rw [hset, List.map_append]
          rfl
        · exact ⟨_, _, _, rs, st, rfl, hm, hg.up (by omega) (htop (by omega)), (fun h => by omega), (fun _ => hst), hf⟩
    · rintro ρ S7 ⟨x2, x4, x5, rs, top, rfl, hm, hg, ht0, ht1, hf⟩
      have hlen : (numb 0 (List.map D.int (sortI ns))).length ≤ 5 := by rw [numb_len, List.length_map]; exact hL
      repeat' trivial
      refine ⟨D.pures_iff.mpr fun d hd => ?_, rs, rfl, hg.rule (by omega), ?_⟩
      · obtain ⟨s, _, rfl⟩ := List.mem_map.mp hd
        rfl
      · have ff : Fr n S S6 := by repeat (first | assumption | refine Fr.trans ?_ (by assumption))
        exact (ff.x.trans hf).cut (len_of h)
end LW
set_option Elab.async false
set_option linter.all false
set_option maxRecDepth 100000
set_option maxHeartbeats 4000000
namespace LW
open PySem L2 Evl PySem.Spec PyProof.Rows PF
local macro_rules | `(tactic| trivial) => `(tactic| first
  | (with_reducible first | refine v0 ?_ | refine v1 ?_ | refine v2 ?_ | refine v3 ?_ | refine v4 ?_ | refine v5 ?_ | refine v6 ?_ | refine v7 ?_ | refine v8 ?_ | refine v9 ?_ | refine v10 ?_ | refine v11 ?_ | refine v12 ?_ | refine v13 ?_ | refine tn0 ?_ | refine tn1 ?_ | refine tn2 ?_ | refine tn3 ?_ | refine tn4 ?_ | refine tn5 ?_ | refine tn6 ?_ | refine tn7 ?_ | refine tn8 ?_ | refine tn9 ?_ | refine tn10 ?_ | refine tn11 ?_ | refine tn12 ?_ | refine tn13 ?_ | refine ss0 ?_ | refine ss1 ?_ | refine ss2 ?_ | refine ss3 ?_ | refine ss4 ?_ | refine ss5 ?_ | refine ss6 ?_ | refine ss7 ?_ | refine ss8 ?_ | refine ss9 ?_ | refine ss10 ?_ | refine ss11 ?_ | refine ss12 ?_ | refine ss13 ?_)
  | (with_reducible first | refine r_k ?_ | refine r_bin ?_ | refine r_cons ?_ | refine r_nil ?_ | refine r_call ?_ | refine r_blt ?_ | refine r_un ?_ | refine r_ok ?_ | refine s_seq ?_ | refine s_ret ?_ | refine s_if ?_ | refine s_expr ?_ | refine s_asg ?_ | refine s_par ?_ | refine s_nil ?_ | refine s_brk ?_ | refine s_ct ?_ | refine s_for ?_ | refine bool_t ?_ | refine bool_and ?_ | refine bool_or ?_ | refine bool_not ?_ | refine bool_yes ?_ | refine r_and ?_ | refine r_or ?_ | refine r_not ?_ | refine r_ife ?_ | refine r_chain ?_ | refine r_isi ?_ | refine r_callK ?_ | refine r_mt ?_ | refine r_alloc ?_ | refine r_sliceA ?_ | refine r_sliceL ?_ | refine r_no ?_ | refine r_part ?_ | refine r_scope ?_ | refine t_nil ?_ | refine t_cons ?_ | refine q_seq ?_ | refine q_range ?_ | refine q_range2 ?_ | refine nx_nx ?_ | refine nx_ret ?_ | refine nx_exc ?_ | refine nx_brk ?_ | refine nx_ct ?_ | refine bl_bl ?_ | refine cs_not ?_ | refine cs_t ?_ | refine cs_f ?_ | refine r_bind ?_ | refine r_nox ?_ | refine t_sub ?_ | refine s_retL ?_ | refine o1_sub ?_ | refine o1_add ?_ | refine o1_lt ?_ | refine o1_le ?_ | refine o1_gt ?_ | refine o1_ge ?_ | refine o1_neg ?_ | refine o1_eq ?_ | refine o1_ne ?_ | refine b1_abs ?_ | refine b1_int ?_ | refine b1_min2 ?_ | refine b1_max2 ?_ | refine o1_eqA ?_ | refine o1_neA ?_ | refine o1_eqS ?_ | refine o1_isN ?_ | refine o1_notN ?_ | refine x_bl ?_ | refine x_int ?_ | refine x_str ?_ | refine x_non ?_ | refine x_nx ?_ | refine x_tup ?_ | refine x_lst ?_ | refine sl_tup ?_ | refine sl_lst ?_ | refine sl_fz ?_ | refine sL_lst ?_ | refine sL_fz ?_)
  | (with_reducible first | refine r_tup ?_ | refine r_lst ?_ | refine o1_addT ?_ | refine o1_addL ?_ | refine b1_len ?_ | refine b1_tuple ?_ | refine b1_list ?_ | refine o1_cat ?_ | refine m1_append ?_ | refine o_pow10_1 ?_ | refine o_pow10_2 ?_ | refine o_pow10_3 ?_ | refine o_pow10_4 ?_ | refine o_pow10_5 ?_ | refine o_pow10_6 ?_ | refine o_pow10_7 ?_ | refine o_pow10_8 ?_ | refine o_pow10_9 ?_ | refine o_pow10_10 ?_ | refine o_pow10_11 ?_ | refine o_pow10_12 ?_ | refine o_pow10_13 ?_ | refine o_pow10_14 ?_ | refine o_pow10_15 ?_ | refine o_pow10_16 ?_ | refine o_pow10_17 ?_ | refine o_pow10_18 ?_ | refine o_pow10_20 ?_ | refine o_pow10_30 ?_)
  | ((with_reducible refine o1_ix ?_); refine ⟨_, _, by first | rfl | assumption, by first | rfl | exact atI_zero, ?_⟩)
  | ((with_reducible refine o1_mul ?_ ?_); first | decide | omega | fail)
  | ((with_reducible refine o1_div ?_ ?_); first | decide | omega | fail)
  | ((with_reducible refine o1_mod ?_ ?_); first | decide | omega | fail)
  | ((with_reducible refine b1_divmod ?_ ?_); first | decide | omega | fail)
  | ((with_reducible refine t_tup ?_ ?_); rfl)
  | (with_reducible refine cs_dec (fun _ => ?_) (fun _ => ?_))
  | (with_reducible refine cs_beq (fun _ => ?_) (fun _ => ?_))
  | ((with_reducible refine cs_te ?_ ?_); rfl)
  | ((with_reducible refine cs_fe ?_ ?_); rfl)
  | ((with_reducible refine put0 (by assumption) ?_ fun _ => ?_); first | rfl | fail)
  | ((with_reducible refine put1 (by assumption) ?_ fun _ => ?_); first | rfl | fail)
  | ((with_reducible refine put2 (by assumption) ?_ fun _ => ?_); first | rfl | fail)
  | exact take_same
  | refine ⟨_, _, by first | rfl | assumption, rfl, ?_⟩
  | (with_reducible refine fun (_ : Nat) (_ : Store) (_ : _ = _) (_ : _ = _) (_ : _ = _) => ?_)
  | refine ⟨_, _, rfl, ?_⟩
  | refine ⟨_, by first | rfl | assumption, ?_⟩
  | ((with_reducible refine And.intro ?_ ?_); first | rfl | exact Nat.le_of_ble_eq_true rfl | decide | omega | fail)
  | ((with_reducible refine draw_go (by assumption) ?_ ?_); omega; intro _ _ _ _ _ _)
  | ((with_reducible refine of_go 1 100000 (by assumption) ?_ ?_ ?_); (exact ⟨Nat.zero_lt_succ _, Nat.le_of_ble_eq_true rfl⟩); (focus ((repeat (first | exact bnd_nil | refine bnd_cons (by omega) ?_)); done)); intro _ _ _ _ _ _)
  | ((with_reducible refine of_go 1 1000000 (by assumption) ?_ ?_ ?_); (exact ⟨Nat.zero_lt_succ _, Nat.le_of_ble_eq_true rfl⟩); (focus ((repeat (first | exact bnd_nil | refine bnd_cons (by omega) ?_)); done)); intro _ _ _ _ _ _)
  | ((with_reducible refine of_go 1 1000001 (by assumption) ?_ ?_ ?_); (exact ⟨Nat.zero_lt_succ _, Nat.le_of_ble_eq_true rfl⟩); (focus ((repeat (first | exact bnd_nil | refine bnd_cons (by omega) ?_)); done)); intro _ _ _ _ _ _)
  | ((with_reducible refine of_go 0 1000 (by assumption) ?_ ?_ ?_); (exact ⟨Nat.zero_lt_succ _, Nat.le_of_ble_eq_true rfl⟩); (focus ((repeat (first | exact bnd_nil | refine bnd_cons (by omega) ?_)); done)); intro _ _ _ _ _ _)
  | ((with_reducible refine of_go 0 1000000 (by assumption) ?_ ?_ ?_); (exact ⟨Nat.zero_lt_succ _, Nat.le_of_ble_eq_true rfl⟩); (focus ((repeat (first | exact bnd_nil | refine bnd_cons (by omega) ?_)); done)); intro _ _ _ _ _ _))

theorem of_any {n : Nat} {S : Store} (h : Well n S) {x : D} {ds : List D} (hx : x = .lst ds ∨ x = .tup ds) (h0 : 0 < ds.length ∧ ds.length < 1000000) (hp : D.pures ds = true) : Pst (F__law_of [.loc n, x] S) (fun d S' => d ∈ ds ∧ d.pure = true ∧ Fr n S S') NoE := by
  rcases hx with rfl | rfl
  · skip
    unfold F__law_of b__law_of
    refine call_go rfl ?_
    dsimp only [startE, List.map, List.replicate, List.length, List.cons_append, List.nil_append, Nat.reduceAdd, Nat.reduceSub]
    repeat' trivial
    rename_i r S1 r0 r1 hf w1
    obtain ⟨d, hd, hm, _⟩ := atI_ok (xs := ds) ⟨r0, r1⟩
    refine o1_ix ⟨_, _, rfl, hd, ?_⟩
    have hq := D.pures_iff.mp hp d hm
    rw [exit_pure hq, hf.take]
    exact ⟨hm, hq, hf⟩
  · exact of_ok h h0 hp
/-- no rule, and plain -/
def Bad (d : D) : Prop := d.pure = true ∧ isRuleD d = false
theorem bad_mid {xs : List D} (hp : D.pures xs = true) {x : D} (hx : x ∈ xs) (h : isStepD x = false) : Bad (.tup xs) := by
  refine ⟨hp, ?_⟩
  have e : xs.all isStepD = false := by
    cases h1 : xs.all isStepD with
    | false => rfl
    | true => rw [List.all_eq_true.mp h1 x hx] at h; cases h
  simp [isRuleD, e]
theorem bad_dup {xs ys : List D} (hp : D.pures (xs ++ ys) = true) {x y : D} (hx : x ∈ xs) (hy : y ∈ ys) (h : startI x = startI y) : Bad (.tup (xs ++ ys)) := by
  refine ⟨hp, ?_⟩
  have e : ascB ((xs ++ ys).map startI) = false := by
    cases h1 : ascB ((xs ++ ys).map startI) with
    | false => rfl
    | true =>
      have h2 := (asc_iff _).mp h1
      rw [List.map_append, List.pairwise_append] at h2
      have := h2.2.2 _ (List.mem_map_of_mem hx) _ (List.mem_map_of_mem hy)
      omega
  simp only [isRuleD, e, Bool.and_false]
def wrongs : List D := [.int (-1), .int (1000000 + 1), .bl true, .non, .str "1", .tup [.int 1], .int 1000000000000000000000000000000, .lst [.int 0]]
theorem wrong_num {w : D} (h : w ∈ wrongs) : numD 0 1000000 w = false := by
  simp only [wrongs, List.mem_cons, List.not_mem_nil, or_false] at h
  rcases h with rfl | rfl | rfl | rfl | rfl | rfl | rfl | rfl <;> rfl
theorem wrong_eq {w : D} (h : w ∈ wrongs) {S : Store} : ∃ b, oEqA w (.int (1000000 + 1)) S = some (.ok (.bl b), S) ∧ numD 0 1000 (if b = true then .int 1001 else w) = false := by
  simp only [wrongs, List.mem_cons, List.not_mem_nil, or_false] at h
  rcases h with rfl | rfl | rfl | rfl | rfl | rfl | rfl | rfl <;> first | (refine ⟨_, rfl, ?_⟩; rfl) | (refine ⟨false, ?_, rfl⟩; simp [oEqA, oEqS, oEq, told, eqOk, D.pure, D.eqv, D.py, SeqAt.shaped, PyData.canLay0, PyData.depth]; decide +kernel)
theorem bad_a {w : D} {b c : D} (h : numD 0 1000000 w = false) : isStepD (.tup [w, b, c]) = false := by
  simp [isStepD, h]
theorem bad_b {w : D} {b c : D} (h : numD 0 1000000 w = false) : isStepD (.tup [b, w, c]) = false := by
  simp [isStepD, h]
theorem bad_c {w : D} {b c : D} (h : numD 0 1000 w = false) : isStepD (.tup [b, c, w]) = false := by
  simp [isStepD, h]

theorem stepD_pure (s : St) : (stepD s).pure = true := rfl
theorem steps_pure (rs : List St) : D.pures (rs.map stepD) = true := D.pures_iff.mpr fun d hd => by
  obtain ⟨s, _, rfl⟩ := List.mem_map.mp hd
  rfl
theorem atI_at {rs : List St} {i : Int} (h : 0 ≤ i ∧ i < rs.length) : ∃ s, atI (rs.map stepD) i = some (stepD s) ∧ s ∈ rs ∧ rs[i.toNat]? = some s := by
  obtain ⟨s, h1, h2, h3⟩ := atI_ok (xs := rs) h
  refine ⟨s, ?_, h2, h3⟩
  rw [atI_nat _ h.1, List.getElem?_map, h3]
  rfl
theorem none_ok {n : Nat} {S : Store} (h : Well n S) {rs : List St} (hr : Rule rs) : Pst (F__law_none [.loc n, ruleD rs] S) (fun d S' => Bad d ∧ Fr n S S') NoE := by
  have l1 := hr.l1
  have l6 := hr.l6
  have hp := steps_pure rs
  have hlen : ∀ a b, (cutL (rs.map stepD) a b).length ≤ 6 := fun a b => Nat.le_trans (cut_len _ a b) (by rw [List.length_map]; exact l6)
  have hlm : (rs.map stepD).length = rs.length := List.length_map ..
  unfold ruleD
  unfold F__law_none b__law_none
  refine call_go rfl ?_
  dsimp only [startE, List.map, List.replicate, List.length, List.cons_append, List.nil_append, Nat.reduceAdd, Nat.reduceSub]
  repeat' trivial
  rename_i at_ S1 a0 a1 f1 w1
  rw [List.length_map] at a1
  obtain ⟨s, hs1, hs2, hs3⟩ := atI_at ⟨a0, a1⟩
  refine o1_ix ⟨_, _, rfl, hs1, ?_⟩
  rw [show stepD s = .tup [.int s.1, .int s.2.1, .int s.2.2] from rfl]
  repeat' trivial
  refine Pst.imp (of_ok w1 (ds := wrongs) ⟨by decide, by decide⟩ rfl) ?_
  rintro w S2 ⟨hw, wp, f2⟩
  have w2 := f2.1
  have e1 := wrong_num hw
  have g1 := hlen none (some at_)
  have g2 := hlen (some (at_ + 1)) none
  have g3 := hlen none (some 1)
  have g4 := hlen none (some (at_ + 1))
  have g5 := hlen (some at_) none
  have p0 : ∀ a b, D.pures (cutL (rs.map stepD) a b) = true := fun a b => cut_pure hp
  repeat' first
    | trivial
    | (refine And.intro (by first | (simp only [List.length_append, List.length_cons, List.length_nil, hlm]; show _ ≤ 1000000; omega) | (show _ ≤ 1000000; omega)) ?_)
    | (refine And.intro (by simp only [D.pures, D.pure, D.pures_append, p0, wp, hp, Bool.and_self, Bool.and_true]) ?_)
    | fail
  rename_i m3 S3 em3 eS3 h3
  obtain ⟨b, hb1, hb2⟩ := wrong_eq hw (S := S3)
  refine r_eq hb1 ?_
  refine bl_bl ?_
  refine cs_pick (fun z => z.pure = true ∧ numD 0 1000 z = false) rfl rfl ⟨by cases b; exact wp; rfl, hb2⟩ ?_
  rintro z ⟨zp, hz⟩
  repeat' first
    | trivial
    | (refine And.intro (by first | (simp only [List.length_append, List.length_cons, List.length_nil, hlm]; show _ ≤ 1000000; omega) | (show _ ≤ 1000000; omega)) ?_)
    | (refine And.intro (by simp only [D.pures, D.pure, D.pures_append, List.cons_append, List.nil_append, p0, wp, hp, zp, Bool.and_self, Bool.and_true]) ?_)
    | fail
  rename_i m4 S4 em4 eS4 h4
  obtain ⟨s0, hs0, hsm, _⟩ := atI_at (rs := rs) (i := 0) ⟨Int.le_refl _, by omega⟩
  refine o1_ix ⟨_, _, rfl, hs0, ?_⟩
  rw [show stepD s0 = .tup [.int s0.1, .int s0.2.1, .int s0.2.2] from rfl]
  repeat' first
    | trivial
    | (refine And.intro (by first | (simp only [List.length_append, List.length_cons, List.length_nil, hlm]; show _ ≤ 1000000; omega) | (show _ ≤ 1000000; omega)) ?_)
    | (refine And.intro (by simp only [D.pures, D.pure, D.pures_append, List.cons_append, List.nil_append, p0, wp, hp, zp, Bool.and_self, Bool.and_true]) ?_)
    | fail
  rename_i m5 S5 em5 eS5 h5
  subst em3 em4 em5
  have x5 : FrX n S2 S5 := by
    rw [eS5, eS4, eS3]
    exact ((FrX.lay w2 _).trans (FrX.lay (w2.more _) _)).trans (FrX.lay ((w2.more _).more _) _)
  have w5 := x5.1
  have e0 : S2.length ≤ S4.length := by rw [eS4, eS3]; simp
  have hmid : ∀ x, x.pure = true → isStepD x = false → Bad (.tup (cutL (rs.map stepD) none (some at_) ++ [x] ++ cutL (rs.map stepD) (some (at_ + 1)) none)) := fun x xp hx =>
    bad_mid (x := x) (by simp only [D.pures, D.pures_append, p0, xp, Bool.and_self, Bool.and_true]) (by simp) hx
  have hcut0 : ∃ x, x ∈ cutL (rs.map stepD) none (some 1) ∧ x ∈ rs.map stepD := by
    rw [cut_to _ (by decide)]
    match rs, l1 with
    | r0 :: rs, _ => exact ⟨stepD r0, by simp, by simp⟩
  have hbads : ∀ d ∈ ([] : List D), Bad d := fun _ h => by cases h
  refine for_of (fun i ρ S' => ∃ x8, ρ = [some (.loc n), some (.tup (rs.map stepD)), some (.int at_), some (.int s.1), some (.int s.2.1), some (.int s.2.2), some w, some (.loc S4.length), x8, none] ∧ ∃ l, S'[S4.length]? = some l ∧ (∀ d ∈ l, Bad d) ∧ l.length ≤ 11 + i ∧ FrX n S2 S') ?_ (fun _ _ _ _ => rfl) ?_ ?_
  · refine ⟨_, rfl, _, h5, ?_, (by simp), x5⟩
    intro d hd
    simp only [List.cons_append, List.nil_append, List.mem_cons, List.not_mem_nil, or_false] at hd
    rcases hd with rfl | rfl | rfl | rfl | rfl | rfl | rfl | rfl | rfl | rfl | rfl
    · exact hmid _ (by simp only [D.pure, D.pures, wp, Bool.and_self, Bool.and_true]) (bad_a e1)
    · exact hmid _ (by simp only [D.pure, D.pures, wp, Bool.and_self, Bool.and_true]) (bad_b e1)
    · exact hmid _ (by simp only [D.pure, D.pures, zp, Bool.and_self, Bool.and_true]) (bad_c hz)
    · exact ⟨hp, rfl⟩
    · exact ⟨rfl, rfl⟩
    · exact ⟨rfl, rfl⟩
    · obtain ⟨x, hx1, hx2⟩ := hcut0
      exact bad_dup (by rw [D.pures_append, hp, p0]; rfl) hx2 hx1 rfl
    · refine bad_dup (x := stepD s) (y := stepD s) (by rw [D.pures_append, p0, p0]; rfl) ?_ ?_ rfl
      · rw [cut_to _ (by omega)]
        refine List.mem_of_getElem? (i := at_.toNat) ?_
        rw [List.getElem?_take_of_lt (by omega), List.getElem?_map, hs3]; rfl
      · rw [cut_from _ a0]
        refine List.mem_of_getElem? (i := 0) ?_
        rw [List.getElem?_drop, Nat.add_zero, List.getElem?_map, hs3]; rfl
    · exact bad_mid rfl (x := .int s0.1) (by simp) rfl
    · exact ⟨rfl, rfl⟩
    · exact ⟨rfl, by simp [isRuleD, startI]⟩
  · rintro i d ρ S6 hd ⟨x8, rfl, l, hl, hb, hll, hf⟩
    have hd2 : d.pure = true ∧ isStepD d = false := by
      have hm := List.mem_of_getElem? hd
      simp only [List.mem_cons, List.not_mem_nil, or_false] at hm
      rcases hm with rfl | rfl | rfl | rfl <;> exact ⟨rfl, rfl⟩
    have hi : i < 4 := by
      rcases Nat.lt_or_ge i 4 with h | h
      · exact h
      · rw [List.getElem?_eq_none (by simpa using h)] at hd; cases hd
    repeat' first
      | trivial
      | (refine And.intro (by first | (simp only [List.length_append, List.length_cons, List.length_nil, hlm]; show _ ≤ 1000000; omega) | (show _ ≤ 1000000; omega)) ?_)
      | fail
    refine ⟨⟨(hmid d hd2.1 hd2.2).1, (by show _ < 1000000; omega)⟩, fun hset => ?_⟩
    refine ⟨_, rfl, _, hset, fun x hx => ?_, by simp; omega, hf.1.other ?_ _, by simp; exact hf.2.1, fun k hk hne => ?_⟩
    · rcases List.mem_append.mp hx with hx | hx
      · exact hb x hx
      · rw [List.mem_singleton] at hx; subst hx; exact hmid d hd2.1 hd2.2
    · have := len_of w2; omega
    · rw [List.getElem?_set_ne (by omega)]; exact hf.2.2 k hk hne
  · rintro ρ S6 ⟨x8, rfl, l, hl, hb, hll, hf⟩
    have w6 := hf.1
    have hl4 : l.length ≤ 15 := hll
    repeat' trivial
    refine r_comp ?_
    repeat' trivial
    refine r_eq (comp_map (so := .items [.int 0, .int 1, .int 2, .int 3, .int 4, .int 5, .int 6]) ([0, 1, 2, 3, 4, 5, 6] : List Int) D.int (fun i => .tup [.int i, .int 0, .int 0]) rfl rfl (fun _ => rfl) (by decide) ?_) ?_
    · intro i hi acc
      refine ⟨rfl, ?_⟩
      dsimp only [wipeE, List.set]
      repeat' trivial
    dsimp only [List.map]
    repeat' first
      | trivial
      | (refine And.intro (by first | (simp only [List.length_append, List.length_cons, List.length_nil, hlm]; show _ ≤ 1000000; omega) | (show _ ≤ 1000000; omega)) ?_)
      | fail
    have hall : ∀ d ∈ l ++ [D.tup [.tup [.int 0, .int 0, .int 0], .tup [.int 1, .int 0, .int 0], .tup [.int 2, .int 0, .int 0], .tup [.int 3, .int 0, .int 0], .tup [.int 4, .int 0, .int 0], .tup [.int 5, .int 0, .int 0], .tup [.int 6, .int 0, .int 0]]], Bad d := by
      intro d hd
      rcases List.mem_append.mp hd with hd | hd
      · exact hb d hd
      · rw [List.mem_singleton] at hd; subst hd; exact ⟨rfl, rfl⟩
    refine Pst.imp (of_any w6 (.inl rfl) ⟨by simp, by simp; omega⟩ (D.pures_iff.mpr fun d hd => (hall d hd).1)) ?_
    rintro d S7 ⟨hd, dp, f7⟩
    repeat' trivial
    rw [exit_pure dp]
    refine ⟨hall d hd, ?_⟩
    have ff : Fr n S S2 := by repeat (first | assumption | refine Fr.trans ?_ (by assumption))
    exact (ff.x.trans (hf.trans f7.x)).cut (len_of h)
end LW
set_option Elab.async false
set_option linter.all false
set_option maxRecDepth 100000
set_option maxHeartbeats 4000000
namespace LW
open PySem L2 Evl PySem.Spec PyProof.Rows PF
local macro_rules | `(tactic| trivial) => `(tactic| first
  | (with_reducible first | refine v0 ?_ | refine v1 ?_ | refine v2 ?_ | refine v3 ?_ | refine v4 ?_ | refine v5 ?_ | refine v6 ?_ | refine v7 ?_ | refine v8 ?_ | refine v9 ?_ | refine v10 ?_ | refine v11 ?_ | refine v12 ?_ | refine v13 ?_ | refine tn0 ?_ | refine tn1 ?_ | refine tn2 ?_ | refine tn3 ?_ | refine tn4 ?_ | refine tn5 ?_ | refine tn6 ?_ | refine tn7 ?_ | refine tn8 ?_ | refine tn9 ?_ | refine tn10 ?_ | refine tn11 ?_ | refine tn12 ?_ | refine tn13 ?_ | refine ss0 ?_ | refine ss1 ?_ | refine ss2 ?_ | refine ss3 ?_ | refine ss4 ?_ | refine ss5 ?_ | refine ss6 ?_ | refine ss7 ?_ | refine ss8 ?_ | refine ss9 ?_ | refine ss10 ?_ | refine ss11 ?_ | refine ss12 ?_ | refine ss13 ?_)
  | (with_reducible first | refine r_k ?_ | refine r_bin ?_ | refine r_cons ?_ | refine r_nil ?_ | refine r_call ?_ | refine r_blt ?_ | refine r_un ?_ | refine r_ok ?_ | refine s_seq ?_ | refine s_ret ?_ | refine s_if ?_ | refine s_expr ?_ | refine s_asg ?_ | refine s_par ?_ | refine s_nil ?_ | refine s_brk ?_ | refine s_ct ?_ | refine s_for ?_ | refine bool_t ?_ | refine bool_and ?_ | refine bool_or ?_ | refine bool_not ?_ | refine bool_yes ?_ | refine r_and ?_ | refine r_or ?_ | refine r_not ?_ | refine r_ife ?_ | refine r_chain ?_ | refine r_isi ?_ | refine r_callK ?_ | refine r_mt ?_ | refine r_alloc ?_ | refine r_sliceA ?_ | refine r_sliceL ?_ | refine r_no ?_ | refine r_part ?_ | refine r_scope ?_ | refine t_nil ?_ | refine t_cons ?_ | refine q_seq ?_ | refine q_range ?_ | refine q_range2 ?_ | refine nx_nx ?_ | refine nx_ret ?_ | refine nx_exc ?_ | refine nx_brk ?_ | refine nx_ct ?_ | refine bl_bl ?_ | refine cs_not ?_ | refine cs_t ?_ | refine cs_f ?_ | refine r_bind ?_ | refine r_nox ?_ | refine t_sub ?_ | refine s_retL ?_ | refine o1_sub ?_ | refine o1_add ?_ | refine o1_lt ?_ | refine o1_le ?_ | refine o1_gt ?_ | refine o1_ge ?_ | refine o1_neg ?_ | refine o1_eq ?_ | refine o1_ne ?_ | refine b1_abs ?_ | refine b1_int ?_ | refine b1_min2 ?_ | refine b1_max2 ?_ | refine o1_eqA ?_ | refine o1_neA ?_ | refine o1_eqS ?_ | refine o1_isN ?_ | refine o1_notN ?_ | refine x_bl ?_ | refine x_int ?_ | refine x_str ?_ | refine x_non ?_ | refine x_nx ?_ | refine x_tup ?_ | refine x_lst ?_ | refine sl_tup ?_ | refine sl_lst ?_ | refine sl_fz ?_ | refine sL_lst ?_ | refine sL_fz ?_)
  | (with_reducible first | refine r_tup ?_ | refine r_lst ?_ | refine o1_addT ?_ | refine o1_addL ?_ | refine b1_len ?_ | refine b1_tuple ?_ | refine b1_list ?_ | refine o1_cat ?_ | refine m1_append ?_ | refine o_pow10_1 ?_ | refine o_pow10_2 ?_ | refine o_pow10_3 ?_ | refine o_pow10_4 ?_ | refine o_pow10_5 ?_ | refine o_pow10_6 ?_ | refine o_pow10_7 ?_ | refine o_pow10_8 ?_ | refine o_pow10_9 ?_ | refine o_pow10_10 ?_ | refine o_pow10_11 ?_ | refine o_pow10_12 ?_ | refine o_pow10_13 ?_ | refine o_pow10_14 ?_ | refine o_pow10_15 ?_ | refine o_pow10_16 ?_ | refine o_pow10_17 ?_ | refine o_pow10_18 ?_ | refine o_pow10_20 ?_ | refine o_pow10_30 ?_)
  | ((with_reducible refine o1_ix ?_); refine ⟨_, _, by first | rfl | assumption, by first | rfl | exact atI_zero, ?_⟩)
  | ((with_reducible refine o1_mul ?_ ?_); first | decide | omega | fail)
  | ((with_reducible refine o1_div ?_ ?_); first | decide | omega | fail)
  | ((with_reducible refine o1_mod ?_ ?_); first | decide | omega | fail)
  | ((with_reducible refine b1_divmod ?_ ?_); first | decide | omega | fail)
  | ((with_reducible refine t_tup ?_ ?_); rfl)
  | (with_reducible refine cs_dec (fun _ => ?_) (fun _ => ?_))
  | (with_reducible refine cs_beq (fun _ => ?_) (fun _ => ?_))
  | ((with_reducible refine cs_te ?_ ?_); rfl)
  | ((with_reducible refine cs_fe ?_ ?_); rfl)
  | ((with_reducible refine put0 (by assumption) ?_ fun _ => ?_); first | rfl | fail)
  | ((with_reducible refine put1 (by assumption) ?_ fun _ => ?_); first | rfl | fail)
  | ((with_reducible refine put2 (by assumption) ?_ fun _ => ?_); first | rfl | fail)
  | exact take_same
  | refine ⟨_, _, by first | rfl | assumption, rfl, ?_⟩
  | (with_reducible refine fun (_ : Nat) (_ : Store) (_ : _ = _) (_ : _ = _) (_ : _ = _) => ?_)
  | refine ⟨_, _, rfl, ?_⟩
  | refine ⟨_, by first | rfl | assumption, ?_⟩
  | ((with_reducible refine And.intro ?_ ?_); first | rfl | exact ⟨rfl, rfl⟩ | exact Nat.le_of_ble_eq_true rfl | decide | omega | fail)
  | ((with_reducible refine draw_go (by assumption) ?_ ?_); omega; intro _ _ _ _ _ _)
  | ((with_reducible refine of_go 1 100000 (by assumption) ?_ ?_ ?_); (exact ⟨Nat.zero_lt_succ _, Nat.le_of_ble_eq_true rfl⟩); (focus ((repeat (first | exact bnd_nil | refine bnd_cons (by omega) ?_)); done)); intro _ _ _ _ _ _)
  | ((with_reducible refine of_go 1 1000000 (by assumption) ?_ ?_ ?_); (exact ⟨Nat.zero_lt_succ _, Nat.le_of_ble_eq_true rfl⟩); (focus ((repeat (first | exact bnd_nil | refine bnd_cons (by omega) ?_)); done)); intro _ _ _ _ _ _)
  | ((with_reducible refine of_go 1 1000001 (by assumption) ?_ ?_ ?_); (exact ⟨Nat.zero_lt_succ _, Nat.le_of_ble_eq_true rfl⟩); (focus ((repeat (first | exact bnd_nil | refine bnd_cons (by omega) ?_)); done)); intro _ _ _ _ _ _)
  | ((with_reducible refine of_go 0 1000 (by assumption) ?_ ?_ ?_); (exact ⟨Nat.zero_lt_succ _, Nat.le_of_ble_eq_true rfl⟩); (focus ((repeat (first | exact bnd_nil | refine bnd_cons (by omega) ?_)); done)); intro _ _ _ _ _ _)
  | ((with_reducible refine of_go 0 1000000 (by assumption) ?_ ?_ ?_); (exact ⟨Nat.zero_lt_succ _, Nat.le_of_ble_eq_true rfl⟩); (focus ((repeat (first | exact bnd_nil | refine bnd_cons (by omega) ?_)); done)); intro _ _ _ _ _ _))

theorem ints_short : ∀ {L : List Int}, (∀ x ∈ L, x.natAbs < 10 ^ 12) → PyData.leavesShortAll 13 (D.pys (L.map D.int)) = true
  | [], _ => rfl
  | x :: L, h => by
    have ih := ints_short (L := L) fun y hy => h y (List.mem_cons_of_mem _ hy)
    have h1 := int_text_length_le10 (k := 12) (by decide) (h x (List.mem_cons_self ..))
    have h2 : (PyData.shown (.int x)).length ≤ 13 := by
      show (Str.ofString (toString x)).length ≤ 13
      rw [PySem.ofString_length]
      exact h1
    simp only [List.map_cons, D.pys, D.py, PyData.leavesShortAll, PyData.leavesShort, ih, h2, decide_true, Bool.and_self]
theorem ints_show : ∀ {L : List Int}, (∀ x ∈ L, x.natAbs < 10 ^ 12) → PyData.showableAll (D.pys (L.map D.int)) = true
  | [], _ => rfl
  | x :: L, h => by
    have ih := ints_show (L := L) fun y hy => h y (List.mem_cons_of_mem _ hy)
    have h1 := h x (List.mem_cons_self ..)
    have h2 : x.natAbs.log2 < 1920 := by
      by_cases h0 : x.natAbs = 0
      · rw [h0]; decide
      · exact (Nat.log2_lt h0).mpr (Nat.lt_of_lt_of_le h1 (by decide +kernel))
    simp only [List.map_cons, D.pys, D.py, PyData.showableAll, PyData.showable, ih, h2, decide_true, Bool.and_self]
theorem ints_weight : ∀ {L : List Int}, (∀ x ∈ L, x.natAbs < 10 ^ 12) → PyData.weightAll (D.pys (L.map D.int)) ≤ 42 * L.length
  | [], _ => by simp [D.pys, PyData.weightAll]
  | x :: L, h => by
    have ih := ints_weight (L := L) fun y hy => h y (List.mem_cons_of_mem _ hy)
    have h1 := h x (List.mem_cons_self ..)
    have h2 : PyData.weight (.int x) ≤ 41 := by
      simp only [PyData.weight]
      split
      · omega
      · rename_i hx
        have h0 : x.natAbs ≠ 0 := by simpa using hx
        have := (Nat.log2_lt h0 (k := 40)).mpr (Nat.lt_of_lt_of_le h1 (by decide +kernel))
        omega
    simp only [List.map_cons, D.pys, D.py, PyData.weightAll, List.length_cons]
    omega
theorem ints_depth : ∀ {L : List Int}, PyData.depthAll (D.pys (L.map D.int)) = 0
  | [] => rfl
  | x :: L => by simp [D.pys, D.py, PyData.depthAll, PyData.depth, ints_depth (L := L)]
theorem repr_ints {L : List Int} (hl : L.length ≤ 1000) (h : ∀ x ∈ L, x.natAbs < 10 ^ 12) : reprOk (.lst (L.map D.int)) = true := by
  have h1 := PyData.shown_le 13 (by decide) (.list (D.pys (L.map D.int))) (by rw [PyData.leavesShort]; exact ints_short h)
  have h2 := ints_weight h
  have h3 : PyData.weight (.list (D.pys (L.map D.int))) = PyData.weightAll (D.pys (L.map D.int)) := by rw [PyData.weight]
  have e : sizeLine = 16777216 := rfl
  unfold reprOk
  simp only [Bool.and_eq_true, decide_eq_true_eq]
  refine ⟨⟨⟨by rw [D.pure]; exact pures_mapI, by rw [D.py, PyData.showable]; exact ints_show h⟩, ?_⟩, ?_⟩
  · rw [D.py, PyData.depth, ints_depth]; decide
  · rw [D.py, e]; omega
theorem law_is_same (L : List D) (h : reprOk (.lst L) = true) {S : Store} : F__law_is [.lst L, .lst L] S = some (.ok (.bl true), S) := by
  have e : bRepr [.lst L] S = some (.ok (.str (D.lst L).py.shown), S) := by
    simp only [bRepr, told, h, if_true]
  unfold F__law_is b__law_is
  refine call_eq rfl ?_
  dsimp only [startE, List.map, List.replicate, List.length, List.cons_append, List.nil_append, Nat.reduceAdd, Nat.reduceSub]
  repeat' trivial
  refine r_eq e ?_
  repeat' trivial
  refine r_eq e ?_
  repeat' trivial
  rw [beq_self_eq_true]
  repeat' trivial

/-! the well -/
theorem well_ok {ns : List Int} (hl : ns.length ≤ 63) {lap : Int} (h0 : 0 ≤ lap) {S : Store} : Pst (F__law_well [.fz (ns.map D.int), .int lap] S) (fun d S' => (∃ g a b, d = .lst [.int g, .int a, .int b]) ∧ S' = S) NoE := by
  unfold F__law_well b__law_well
  refine call_go rfl ?_
  dsimp only [startE, List.map, List.replicate, List.length, List.cons_append, List.nil_append, Nat.reduceAdd, Nat.reduceSub]
  repeat' trivial
  refine for_of (fun i ρ S' => ∃ st x3, ρ = [some (.fz (ns.map D.int)), some (.int lap), some (.int st), x3, none] ∧ S' = S) ?_ (fun _ _ _ _ => rfl) ?_ ?_
  · exact ⟨_, _, rfl, rfl⟩
  · rintro i d ρ S' hd ⟨st, x3, rfl, rfl⟩
    obtain ⟨v, _, rfl⟩ := List.mem_map.mp (cut_mem (List.mem_of_getElem? hd))
    repeat' trivial
  · rintro ρ S' ⟨st, x3, rfl, rfl⟩
    repeat' trivial
    · rename_i hlt
      obtain ⟨d, hd, hm, _⟩ := atI_ok (xs := ns.map D.int) ⟨h0, hlt⟩
      obtain ⟨v, _, rfl⟩ := List.mem_map.mp hm
      refine o1_ix ⟨_, _, rfl, hd, ?_⟩
      repeat' trivial
      all_goals exact ⟨⟨_, _, _, rfl⟩, take_same⟩
    · exact ⟨⟨_, _, _, rfl⟩, take_same⟩
/-! one lap -/
theorem right_ok {n : Nat} {S : Store} (h : Well n S) : Pst (F__law_right [.loc n] S) (fun d S' => d = .bl true ∧ Fr n S S') NoE := by
  unfold F__law_right b__law_right
  refine call_go rfl ?_
  dsimp only [startE, List.map, List.replicate, List.length, List.cons_append, List.nil_append, Nat.reduceAdd, Nat.reduceSub]
  repeat' trivial
  refine for_of (fun i ρ S' => ∃ x1 x2 x3 x4 x5 x6 x7 x8 x9, ρ = [some (.loc n), x1, x2, x3, x4, x5, x6, x7, x8, x9] ∧ Fr n S S') ?_ (fun _ _ _ _ => rfl) ?_ ?_
  · exact ⟨_, _, _, _, _, _, _, _, _, rfl, Fr.refl h⟩
  · rintro i d ρ S1 hd ⟨x1, x2, x3, x4, x5, x6, x7, x8, x9, rfl, f1⟩
    have w1 := f1.1
    repeat' trivial
    refine Pst.imp (lrule_ok w1) ?_
    rintro _ S2 ⟨rs, rfl, hr, f2⟩
    have w2 := f2.1
    have l1 := hr.l1
    have l6 := hr.l6
    unfold ruleD
    repeat' trivial
    rename_i t1 S3 t10 t11 f3 w3 t2 S4 t20 t21 f4 w4
    refine for_of (fun i ρ S' => ∃ (ts : List Int) (x4 x5 x6 : Option D), ρ = [some (.loc n), some d, some (.tup (rs.map stepD)), some (.lst (ts.map D.int)), x4, x5, x6, x7, x8, x9] ∧ (∀ t ∈ ts, 0 ≤ t ∧ t ≤ 1000000000) ∧ ts.length ≤ 4 + 3 * i ∧ S' = S4) ?_ (fun _ _ _ _ => rfl) ?_ ?_
    · refine ⟨[0, 1000000000, t1, t2], _, _, _, rfl, ?_, (by simp), rfl⟩
      intro t ht
      simp only [List.mem_cons, List.not_mem_nil, or_false] at ht
      omega
    · rintro i d ρ S5 hd ⟨ts, x4, x5, x6, rfl, ht, htl, rfl⟩
      have hi : i < 6 := by
        have : i < (cutL (rs.map stepD) (some 1) none).length := by
          rcases Nat.lt_or_ge i (cutL (rs.map stepD) (some 1) none).length with h | h
          · exact h
          · rw [List.getElem?_eq_none h] at hd; cases hd
        have h2 := cut_len (rs.map stepD) (some 1) none
        rw [List.length_map] at h2
        omega
      have hd := List.mem_of_getElem? hd
      rw [cut_from _ (by decide), ← List.map_drop] at hd
      obtain ⟨s, hs, rfl⟩ := List.mem_map.mp hd
      have hok := hr.ok s (List.mem_of_mem_drop hs)
      have hs1 : 1 ≤ s.1 := by
        have h0 := hr.h0
        have hp := (asc_iff _).mp hr.asc
        match rs, l1 with
        | r0 :: rs, _ =>
          have h1 := (List.pairwise_cons.mp hp).1 s.1 (List.mem_map_of_mem hs)
          have h0 : r0.1 = 0 := h0
          have h1 : r0.1 < s.1 := h1
          omega
      unfold stepD
      repeat' trivial
      refine ⟨(by rw [List.length_map]; show _ + 3 ≤ 1000000; omega), ts ++ [s.1 - 1, s.1, s.1 + 1], _, _, _, (by rw [List.map_append]; rfl), fun t h => ?_, (by simp; omega), rfl⟩
      rcases List.mem_append.mp h with h | h
      · exact ht t h
      · simp only [List.mem_cons, List.not_mem_nil, or_false] at h
        omega
    · rintro ρ S5 ⟨ts, x4, x5, x6, rfl, ht, htl, rfl⟩
      repeat' trivial
      refine for_of (fun i ρ S' => ∃ (x7 x8 x9 : Option D), ρ = [some (.loc n), some d, some (.tup (rs.map stepD)), some (.lst (ts.map D.int)), x4, x5, x6, x7, x8, x9] ∧ S' = S5) ?_ (fun _ _ _ _ => rfl) ?_ ?_
      · exact ⟨_, _, _, rfl, rfl⟩
      · rintro i d ρ S6 hd ⟨x7, x8, x9, rfl, rfl⟩
        obtain ⟨t, htm, rfl⟩ := List.mem_map.mp (List.mem_of_getElem? hd)
        have htb := ht t htm
        repeat' trivial
        refine r_eq (law_fee_eq hr htb.1) ?_
        repeat' trivial
        refine r_eq (fee_eq hr htb) ?_
        repeat' trivial
        refine r_eq (net_eq hr htb) ?_
        repeat' trivial
        dsimp only [kn0_g]
        refine r_eq (fee_eq hr htb) ?_
        repeat' trivial
        dsimp only [kn1_g]
        refine r_eq (net_eq hr htb) ?_
        repeat' trivial
        have hm := hr.ok _ (last_mem hr htb.1)
        have hf : 0 ≤ feeN rs t ∧ feeN rs t ≤ 2000000000 := by
          refine ⟨feeN_b hr htb.1, ?_⟩
          unfold feeN
          have h1 : (lastS rs t).2.2 * t ≤ 1000 * 1000000000 := Int.mul_le_mul hm.2.2.2 htb.2 htb.1 (by decide)
          omega
        refine r_eq (law_is_same _ (repr_ints (L := [feeN rs t, t - feeN rs t, feeN rs t, t - feeN rs t]) (by simp) ?_)) ?_
        · intro x hx
          simp only [List.mem_cons, List.not_mem_nil, or_false] at hx
          have e : (10 : Nat) ^ 12 = 1000000000000 := by decide
          rw [e]
          omega
        repeat' trivial
        exact ⟨_, _, _, rfl, rfl⟩
      · rintro ρ S6 ⟨x7, x8, x9, rfl, rfl⟩
        repeat' trivial
        refine r_eq (rule_eq _) ?_
        rw [show isRuleD (.tup (rs.map stepD)) = true from rule_is hr]
        repeat' trivial
        dsimp only [kn2_g]
        refine r_eq (rule_eq _) ?_
        rw [show isRuleD (.tup (rs.map stepD)) = true from rule_is hr]
        repeat' trivial
        refine Pst.imp (none_ok w4 hr) ?_
        rintro v S7 ⟨hv, f7⟩
        have w7 := f7.1
        repeat' trivial
        refine r_eq (rule_eq _) ?_
        rw [hv.2]
        repeat' trivial
        refine r_eq (law_is_same [.bl true, .bl true, .bl false] (by decide +kernel)) ?_
        repeat' trivial
        exact ⟨_, _, _, _, _, _, _, _, _, rfl, by repeat (first | assumption | refine Fr.trans ?_ (by assumption))⟩
  · rintro ρ S1 ⟨x1, x2, x3, x4, x5, x6, x7, x8, x9, rfl, f1⟩
    repeat' trivial
    rw [f1.take]
    exact f1
theorem law_ends (ns : List Int) (hl : ns.length ≤ 63) : F_law [.fz (ns.map D.int)] [] = some (.ok (.bl true), []) := by
  refine Pst.eq.mp ?_
  unfold F_law b_law
  refine call_go rfl ?_
  dsimp only [startE, List.map, List.replicate, List.length, List.cons_append, List.nil_append, Nat.reduceAdd, Nat.reduceSub]
  repeat' trivial
  refine r_comp ?_
  repeat' trivial
  rw [show (List.map D.int ns).length = ns.length from List.length_map ..]
  refine comp_inv (fun i acc S1 => S1 = [] ∧ acc = (List.replicate i true).map D.bl) rfl ?_ rfl ?_ ⟨rfl, rfl⟩ ?_ ?_
  · rintro i acc S1 ⟨rfl, rfl⟩
    exact ⟨rfl, rfl⟩
  · rw [ranged_len]; show _ ≤ 1000000; omega
  · rintro i d acc S1 hd ⟨rfl, rfl⟩
    have hi : i < (max 1 (min (ns.length : Int) 3)).toNat := by
      rcases Nat.lt_or_ge i (max 1 (min (ns.length : Int) 3)).toNat with h | h
      · exact h
      · rw [List.getElem?_eq_none (by rw [ranged_len]; exact h)] at hd; cases hd
    rw [ranged_get _ _ _ hi] at hd
    cases hd
    dsimp only [wipeE, List.set]
    repeat' trivial
    refine ⟨fun _ => ?_, fun hb => by cases hb⟩
    repeat' trivial
    refine Pst.imp (well_ok hl (by omega)) ?_
    rintro _ S2 ⟨⟨g, a, b, rfl⟩, rfl⟩
    repeat' trivial
    rename_i m S3 em eS h3
    refine Pst.imp (right_ok (n := m) ⟨g, a, b, h3⟩) ?_
    rintro _ S4 ⟨rfl, f4⟩
    refine ⟨rfl, [], ?_, rfl, rfl, by simp [List.replicate_succ']⟩
    subst em eS
    have hl4 : S4.length = 2 := by rw [f4.2.1]; simp
    have h0 := f4.2.2 0 (by simp)
    match S4, hl4, h0 with
    | [x, y], _, h0 => simp at h0; subst h0; simp
  · rintro acc S1 ⟨rfl, rfl⟩
    repeat' trivial
    refine r_eq b_all ?_
    repeat' trivial
    simp
end LW
set_option Elab.async false
set_option linter.all false
set_option maxRecDepth 100000
set_option maxHeartbeats 0
namespace LW
open PySem L2 Evl PySem.Spec PyProof.Rows PF
def df_is_whole : He.DefD := ⟨("is_whole", none), "is_whole", "is_whole", defArgs s_is_whole, defBody s_is_whole, defScope s_is_whole, [], []⟩
def df_is_number : He.DefD := ⟨("is_number", none), "is_number", "is_number", defArgs s_is_number, defBody s_is_number, defScope s_is_number, [], []⟩
def df_check_number : He.DefD := ⟨("check_number", none), "check_number", "check_number", defArgs s_check_number, defBody s_check_number, defScope s_check_number, [], []⟩
def df_upper : He.DefD := ⟨("upper", none), "upper", "upper", defArgs s_upper, defBody s_upper, defScope s_upper, [], []⟩
def df_is_tuple_of : He.DefD := ⟨("is_tuple_of", none), "is_tuple_of", "is_tuple_of", defArgs s_is_tuple_of, defBody s_is_tuple_of, defScope s_is_tuple_of, [], []⟩
def df_is_ascending : He.DefD := ⟨("is_ascending", none), "is_ascending", "is_ascending", defArgs s_is_ascending, defBody s_is_ascending, defScope s_is_ascending, [], []⟩
def df_step_at : He.DefD := ⟨("step_at", none), "step_at", "step_at", defArgs s_step_at, defBody s_step_at, defScope s_step_at, [], []⟩
def df_fee_of : He.DefD := ⟨("fee_of", none), "fee_of", "fee_of", defArgs s_fee_of, defBody s_fee_of, defScope s_fee_of, [], []⟩
def df_net_of : He.DefD := ⟨("net_of", none), "net_of", "net_of", defArgs s_net_of, defBody s_net_of, defScope s_net_of, [], []⟩
def df_is_step : He.DefD := ⟨("is_step", none), "is_step", "is_step", defArgs s_is_step, defBody s_is_step, defScope s_is_step, [], []⟩
def df_is_rule : He.DefD := ⟨("is_rule", none), "is_rule", "is_rule", defArgs s_is_rule, defBody s_is_rule, defScope s_is_rule, [], []⟩
def df_check_rule : He.DefD := ⟨("check_rule", none), "check_rule", "check_rule", defArgs s_check_rule, defBody s_check_rule, defScope s_check_rule, [], []⟩
def df_fee : He.DefD := ⟨("fee", none), "fee", "fee", defArgs s_fee, defBody s_fee, defScope s_fee, [], []⟩
def df_net : He.DefD := ⟨("net", none), "net", "net", defArgs s_net, defBody s_net, defScope s_net, [], []⟩
def df__law_well : He.DefD := ⟨("_law_well", none), "_law_well", "_law_well", defArgs s__law_well, defBody s__law_well, defScope s__law_well, [], []⟩
def df__law_draw : He.DefD := ⟨("_law_draw", none), "_law_draw", "_law_draw", defArgs s__law_draw, defBody s__law_draw, defScope s__law_draw, [], []⟩
def df__law_of : He.DefD := ⟨("_law_of", none), "_law_of", "_law_of", defArgs s__law_of, defBody s__law_of, defScope s__law_of, [], []⟩
def df__law_is : He.DefD := ⟨("_law_is", none), "_law_is", "_law_is", defArgs s__law_is, defBody s__law_is, defScope s__law_is, [], []⟩
def df__law_fee : He.DefD := ⟨("_law_fee", none), "_law_fee", "_law_fee", defArgs s__law_fee, defBody s__law_fee, defScope s__law_fee, [], []⟩
def df__law_level_rule : He.DefD := ⟨("_law_level_rule", none), "_law_level_rule", "_law_level_rule", defArgs s__law_level_rule, defBody s__law_level_rule, defScope s__law_level_rule, [], []⟩
def df__law_rule : He.DefD := ⟨("_law_rule", none), "_law_rule", "_law_rule", defArgs s__law_rule, defBody s__law_rule, defScope s__law_rule, [], []⟩
def df__law_none : He.DefD := ⟨("_law_none", none), "_law_none", "_law_none", defArgs s__law_none, defBody s__law_none, defScope s__law_none, [], []⟩
def df__law_right : He.DefD := ⟨("_law_right", none), "_law_right", "_law_right", defArgs s__law_right, defBody s__law_right, defScope s__law_right, [], []⟩
def df_law : He.DefD := ⟨("law", none), "law", "law", defArgs s_law, defBody s_law, defScope s_law, [], []⟩
def fns : List He.DefD := ([df_is_whole, df_is_number, df_check_number, df_upper, df_is_tuple_of, df_is_ascending, df_step_at, df_fee_of, df_net_of, df_is_step, df_is_rule, df_check_rule, df_fee, df_net, df__law_well, df__law_draw, df__law_of, df__law_is, df__law_fee, df__law_level_rule, df__law_rule, df__law_none, df__law_right, df_law] : List He.DefD)
def fas : List He.Fa := ([.glo "is_whole", .glo "is_number", .glo "check_number", .glo "upper", .glo "is_tuple_of", .glo "is_ascending", .glo "step_at", .glo "fee_of", .glo "net_of", .glo "is_step", .glo "is_rule", .glo "check_rule", .glo "fee", .glo "net", .glo "_law_well", .glo "_law_draw", .glo "_law_of", .glo "_law_is", .glo "_law_fee", .glo "_law_level_rule", .glo "_law_rule", .glo "_law_none", .glo "_law_right", .glo "law", .free "abs", .free "all", .free "bool", .free "divmod", .free "enumerate", .free "int"] : List He.Fa) ++ ([.free "isinstance", .free "len", .free "list", .free "max", .free "min", .free "range", .free "repr", .free "sorted", .free "tuple", .free "zip", .int "MOST_BEGIN" 1000000, .int "MOST_RATE" 1000, .int "MOST_STEPS" 6, .int "MOST_TOTAL" 1000000000, .int "WHOLE" 1000] : List He.Fa)
def loose : List Str := (["PledgeError", "InvalidRule", "InvalidNumber", "is_whole", "is_number", "check_number", "upper", "is_tuple_of", "is_ascending", "WHOLE", "step_at", "fee_of", "net_of", "MOST_STEPS", "MOST_BEGIN", "MOST_RATE", "MOST_TOTAL", "is_step", "is_rule", "check_rule", "fee", "net", "_law_well", "_law_draw", "_law_of", "_law_is", "_law_fee", "_law_level_rule", "_law_rule", "_law_none"] : List Str) ++ (["_law_right"] : List Str)
abbrev R : PySem.W.OpenRow := PySem.W.OpenLaw.row PySem.Challenge.rw_pledgehall_k02_whole_fees_by_own_reckoni
abbrev hk : PySem.W.Hook := He.hookD 4 fas fns
def obs (s : PySem.W.SharedT) : He.AlD := He.obsDG 4 fas fns (HandSHeadRun.getT s)
theorem obs_eq (s : PySem.W.SharedT) : obs s = hk.obs s.abs := He.obsDG_eq (HandSHeadRun.getT_eq s)
theorem run (w : World) : HandSHeadRun.RunEq R (PySem.W.view R.prog [36]) hk obs 100000 loose w := by
  intro os
  kernel_rfl
theorem facts_of {K : PySem.W.Frag} {h : Heap} {mg : Str → Option Value} (X : K.In h) (G : h.Ns mainGlobals mg) (c : He.SaysD fas fns K) : Facts K mg := by
  refine { n_abs := ?n_abs, n_all := ?n_all, n_bool := ?n_bool, n_divmod := ?n_divmod, n_enumerate := ?n_enumerate, n_int := ?n_int, n_isinstance := ?n_isinstance, n_len := ?n_len, n_list := ?n_list, n_max := ?n_max, n_min := ?n_min, n_range := ?n_range, n_repr := ?n_repr, n_sorted := ?n_sorted, n_tuple := ?n_tuple, n_zip := ?n_zip, k_MOST_BEGIN := ?k_MOST_BEGIN, k_MOST_RATE := ?k_MOST_RATE, k_MOST_STEPS := ?k_MOST_STEPS, k_MOST_TOTAL := ?k_MOST_TOTAL, k_WHOLE := ?k_WHOLE, d_is_whole := ?d_is_whole, d_is_number := ?d_is_number, d_check_number := ?d_check_number, d_upper := ?d_upper, d_is_tuple_of := ?d_is_tuple_of, d_is_ascending := ?d_is_ascending, d_step_at := ?d_step_at, d_fee_of := ?d_fee_of, d_net_of := ?d_net_of, d_is_step := ?d_is_step, d_is_rule := ?d_is_rule, d_check_rule := ?d_check_rule, d_fee := ?d_fee, d_net := ?d_net, d__law_well := ?d__law_well, d__law_draw := ?d__law_draw, d__law_of := ?d__law_of, d__law_is := ?d__law_is, d__law_fee := ?d__law_fee, d__law_level_rule := ?d__law_level_rule, d__law_rule := ?d__law_rule, d__law_none := ?d__law_none, d__law_right := ?d__law_right, d_law := ?d_law }
  case n_abs => exact He.free_ok X G (c.fact 24 (f := .free "abs") rfl)
  case n_all => exact He.free_ok X G (c.fact 25 (f := .free "all") rfl)
  case n_bool => exact He.free_ok X G (c.fact 26 (f := .free "bool") rfl)
  case n_divmod => exact He.free_ok X G (c.fact 27 (f := .free "divmod") rfl)
  case n_enumerate => exact He.free_ok X G (c.fact 28 (f := .free "enumerate") rfl)
  case n_int => exact He.free_ok X G (c.fact 29 (f := .free "int") rfl)
  case n_isinstance => exact He.free_ok X G (c.fact 30 (f := .free "isinstance") rfl)
  case n_len => exact He.free_ok X G (c.fact 31 (f := .free "len") rfl)
  case n_list => exact He.free_ok X G (c.fact 32 (f := .free "list") rfl)
  case n_max => exact He.free_ok X G (c.fact 33 (f := .free "max") rfl)
  case n_min => exact He.free_ok X G (c.fact 34 (f := .free "min") rfl)
  case n_range => exact He.free_ok X G (c.fact 35 (f := .free "range") rfl)
  case n_repr => exact He.free_ok X G (c.fact 36 (f := .free "repr") rfl)
  case n_sorted => exact He.free_ok X G (c.fact 37 (f := .free "sorted") rfl)
  case n_tuple => exact He.free_ok X G (c.fact 38 (f := .free "tuple") rfl)
  case n_zip => exact He.free_ok X G (c.fact 39 (f := .free "zip") rfl)
  case k_MOST_BEGIN => exact globInt (He.int_ok X G (c.fact 40 (f := .int "MOST_BEGIN" 1000000) rfl))
  case k_MOST_RATE => exact globInt (He.int_ok X G (c.fact 41 (f := .int "MOST_RATE" 1000) rfl))
  case k_MOST_STEPS => exact globInt (He.int_ok X G (c.fact 42 (f := .int "MOST_STEPS" 6) rfl))
  case k_MOST_TOTAL => exact globInt (He.int_ok X G (c.fact 43 (f := .int "MOST_TOTAL" 1000000000) rfl))
  case k_WHOLE => exact globInt (He.int_ok X G (c.fact 44 (f := .int "WHOLE" 1000) rfl))
  case d_is_whole =>
    obtain ⟨fd, FD⟩ := c.def_ 0 (d := df_is_whole) rfl
    exact ⟨_, fd, FD, He.glo_ok X G (c.fact 0 (f := .glo "is_whole") rfl)⟩
  case d_is_number =>
    obtain ⟨fd, FD⟩ := c.def_ 1 (d := df_is_number) rfl
    exact ⟨_, fd, FD, He.glo_ok X G (c.fact 1 (f := .glo "is_number") rfl)⟩
  case d_check_number =>
    obtain ⟨fd, FD⟩ := c.def_ 2 (d := df_check_number) rfl
    exact ⟨_, fd, FD, He.glo_ok X G (c.fact 2 (f := .glo "check_number") rfl)⟩
  case d_upper =>
    obtain ⟨fd, FD⟩ := c.def_ 3 (d := df_upper) rfl
    exact ⟨_, fd, FD, He.glo_ok X G (c.fact 3 (f := .glo "upper") rfl)⟩
  case d_is_tuple_of =>
    obtain ⟨fd, FD⟩ := c.def_ 4 (d := df_is_tuple_of) rfl
    exact ⟨_, fd, FD, He.glo_ok X G (c.fact 4 (f := .glo "is_tuple_of") rfl)⟩
  case d_is_ascending =>
    obtain ⟨fd, FD⟩ := c.def_ 5 (d := df_is_ascending) rfl
    exact ⟨_, fd, FD, He.glo_ok X G (c.fact 5 (f := .glo "is_ascending") rfl)⟩
  case d_step_at =>
    obtain ⟨fd, FD⟩ := c.def_ 6 (d := df_step_at) rfl
    exact ⟨_, fd, FD, He.glo_ok X G (c.fact 6 (f := .glo "step_at") rfl)⟩
  case d_fee_of =>
    obtain ⟨fd, FD⟩ := c.def_ 7 (d := df_fee_of) rfl
    exact ⟨_, fd, FD, He.glo_ok X G (c.fact 7 (f := .glo "fee_of") rfl)⟩
  case d_net_of =>
    obtain ⟨fd, FD⟩ := c.def_ 8 (d := df_net_of) rfl
    exact ⟨_, fd, FD, He.glo_ok X G (c.fact 8 (f := .glo "net_of") rfl)⟩
  case d_is_step =>
    obtain ⟨fd, FD⟩ := c.def_ 9 (d := df_is_step) rfl
    exact ⟨_, fd, FD, He.glo_ok X G (c.fact 9 (f := .glo "is_step") rfl)⟩
  case d_is_rule =>
    obtain ⟨fd, FD⟩ := c.def_ 10 (d := df_is_rule) rfl
    exact ⟨_, fd, FD, He.glo_ok X G (c.fact 10 (f := .glo "is_rule") rfl)⟩
  case d_check_rule =>
    obtain ⟨fd, FD⟩ := c.def_ 11 (d := df_check_rule) rfl
    exact ⟨_, fd, FD, He.glo_ok X G (c.fact 11 (f := .glo "check_rule") rfl)⟩
  case d_fee =>
    obtain ⟨fd, FD⟩ := c.def_ 12 (d := df_fee) rfl
    exact ⟨_, fd, FD, He.glo_ok X G (c.fact 12 (f := .glo "fee") rfl)⟩
  case d_net =>
    obtain ⟨fd, FD⟩ := c.def_ 13 (d := df_net) rfl
    exact ⟨_, fd, FD, He.glo_ok X G (c.fact 13 (f := .glo "net") rfl)⟩
  case d__law_well =>
    obtain ⟨fd, FD⟩ := c.def_ 14 (d := df__law_well) rfl
    exact ⟨_, fd, FD, He.glo_ok X G (c.fact 14 (f := .glo "_law_well") rfl)⟩
  case d__law_draw =>
    obtain ⟨fd, FD⟩ := c.def_ 15 (d := df__law_draw) rfl
    exact ⟨_, fd, FD, He.glo_ok X G (c.fact 15 (f := .glo "_law_draw") rfl)⟩
  case d__law_of =>
    obtain ⟨fd, FD⟩ := c.def_ 16 (d := df__law_of) rfl
    exact ⟨_, fd, FD, He.glo_ok X G (c.fact 16 (f := .glo "_law_of") rfl)⟩
  case d__law_is =>
    obtain ⟨fd, FD⟩ := c.def_ 17 (d := df__law_is) rfl
    exact ⟨_, fd, FD, He.glo_ok X G (c.fact 17 (f := .glo "_law_is") rfl)⟩
  case d__law_fee =>
    obtain ⟨fd, FD⟩ := c.def_ 18 (d := df__law_fee) rfl
    exact ⟨_, fd, FD, He.glo_ok X G (c.fact 18 (f := .glo "_law_fee") rfl)⟩
  case d__law_level_rule =>
    obtain ⟨fd, FD⟩ := c.def_ 19 (d := df__law_level_rule) rfl
    exact ⟨_, fd, FD, He.glo_ok X G (c.fact 19 (f := .glo "_law_level_rule") rfl)⟩
  case d__law_rule =>
    obtain ⟨fd, FD⟩ := c.def_ 20 (d := df__law_rule) rfl
    exact ⟨_, fd, FD, He.glo_ok X G (c.fact 20 (f := .glo "_law_rule") rfl)⟩
  case d__law_none =>
    obtain ⟨fd, FD⟩ := c.def_ 21 (d := df__law_none) rfl
    exact ⟨_, fd, FD, He.glo_ok X G (c.fact 21 (f := .glo "_law_none") rfl)⟩
  case d__law_right =>
    obtain ⟨fd, FD⟩ := c.def_ 22 (d := df__law_right) rfl
    exact ⟨_, fd, FD, He.glo_ok X G (c.fact 22 (f := .glo "_law_right") rfl)⟩
  case d_law =>
    obtain ⟨fd, FD⟩ := c.def_ 23 (d := df_law) rfl
    exact ⟨_, fd, FD, He.glo_ok X G (c.fact 23 (f := .glo "law") rfl)⟩
theorem main_ (end_ : ∀ ns : List Int, ns.length ≤ 63 → F_law [.fz (ns.map D.int)] [] = some (.ok (.bl true), [])) : PySem.Challenge.rw_pledgehall_k02_whole_fees_by_own_reckoni.Holds := by
  open PySem.W in
  w_on; o_law
  refine HandSHeadRun.head_any (r := PySem.W.OpenLaw.row PySem.Challenge.rw_pledgehall_k02_whole_fees_by_own_reckoni) (q := PySem.W.view (PySem.W.OpenLaw.row PySem.Challenge.rw_pledgehall_k02_whole_fees_by_own_reckoni).prog [36]) (H := hk) (ob := obs) (M := 100000) (loose := loose) (d := HandSHeadRun.topDef (PySem.W.OpenLaw.row PySem.Challenge.rw_pledgehall_k02_whole_fees_by_own_reckoni).prog 36) (kwd := []) obs_eq
    (by kernel_rfl) (fun s => by kernel_rfl) run (by kernel_rfl) (by kernel_rfl) (by kernel_rfl) (by rfl) (by first | assumption | decide +kernel) (by decide +kernel) ⟨rfl, rfl, rfl, rfl, rfl, by decide +kernel⟩ ?hw ?hc
  case hw => w_witness2
  case hc =>
    refine walk_pf (l := PySem.Challenge.rw_pledgehall_k02_whole_fees_by_own_reckoni) (k := 8) (x := "script") (o := F_law) rfl (by kernel_rfl) ⟨rfl, by decide, by decide⟩ end_ ?F
    intro w mg fa h Y G hmg0
    obtain ⟨K, KX, c⟩ := Y
    have hmg : mg ("law" : PySem.Str) = some (.ref fa) := by
      have e : (HandSHeadRun.topDef (PySem.W.OpenLaw.row PySem.Challenge.rw_pledgehall_k02_whole_fees_by_own_reckoni).prog 36).name = ("law" : PySem.Str) := by kernel_rfl
      rw [← e]
      exact hmg0
    have Z := facts_of KX G c
    obtain ⟨f, fd, FD, hf⟩ := Z.d_law
    have e := hmg.symm.trans hf
    cases e
    refine ⟨K, fd, KX, fun s u => FunD.bindsA (ps := ["script"]) FD pn_law s [u] rfl, fun base kb gb => ?_⟩
    exact def_g FD sc_law (r_law Z)
end LW
theorem PySem.Challenge.cw_pledgehall_k02_whole_fees_by_own_reckoni_holds : PySem.Challenge.rw_pledgehall_k02_whole_fees_by_own_reckoni.Holds := by
  exact LW.main_ LW.law_ends
