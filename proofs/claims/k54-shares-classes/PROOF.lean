import PyProof.Rows.All
import Wide.All
import OpenK.AllK
import Wide.FinOn
import HandS.ForMost
import HandS.Evl
import HandS.Exc
import HandS.Lambda
import HandS.IsInst
import HandS.Zip
import HandS.SortInts
import HandS.Defaults
import HandS.CallSlots
import HandS.Wide
import HandS.TupAny
import HandS.RaiseMore
import PyProof.ReprRoads
import HandS.HeadEnd
import HandS.HeadHook1
import HandS.HeadHook2
import HandS.Head0
import HandS.Head1
import HandS.Head2
import HandS.Style
import HandS.Iter
import HandS.Conv
import KE.GoesEnum
import KE.GoesMore
import HandS.TupMul
import HandS.Flt
import HandS.HeadHook4
import HandS.Star
import HandS.TupLe
import HandS.Flow
import HandS.Dict
import HandS.More
import KE.KIndexOf
import KE.KDictZip
import PySem.Challenge.RW_pledgehall_k54_whole_shares_by_classes
set_option Elab.async false
set_option linter.all false
set_option maxRecDepth 100000
set_option maxHeartbeats 4000000
/-! PF1: data, stores, outcomes, the relation to the abstract heap. -/
namespace PF
open PySem L2 Evl

/-- a lambda's place in the text -/
structure LamSite where
  params : Arguments
  body : Expr
  scope : Scope
  qual : Str
/-- what is known of a function that was made of a lambda without captures -/
def FunO (f : Addr) (l : LamSite) (pm : Value) (c' : Addr) (ctv : Value) : HO := .ext fun h => h.get? f = some (PySem.W.kla_obj "<lambda>" l.qual l.params l.body l.scope [] pm c' ctv)
/-- data: tuples and lists as values; loc n: the n-th list of the store (it may change); fz: a list that is read alone (the script) -/
inductive D where
  | non | bl (b : Bool) | int (i : Int) | str (s : Str) | tup (xs : List D) | lst (xs : List D) | loc (n : Nat) | fz (xs : List D) | fn (l : LamSite) | tpn (xs : List D) | dct (ks : List (Int × Int))

mutual
def D.pure : D → Bool
  | .tup xs => D.pures xs
  | .lst xs => D.pures xs
  | .loc _ => false
  | .fz _ => false
  | .fn _ => false
  | .tpn xs => D.pures xs
  | .dct _ => false
  | .non => true
  | .bl _ => true
  | .int _ => true
  | .str _ => true
def D.pures : List D → Bool
  | [] => true
  | d :: ds => d.pure && D.pures ds
end
theorem D.pures_iff : ∀ {ds : List D}, D.pures ds = true ↔ ∀ d ∈ ds, d.pure = true
  | [] => by simp [D.pures]
  | d :: ds => by simp [D.pures, D.pures_iff (ds := ds)]
theorem D.pures_append {xs ys : List D} : D.pures (xs ++ ys) = (D.pures xs && D.pures ys) := by
  induction xs with
  | nil => simp [D.pures]
  | cons x xs ih => simp [D.pures, ih, Bool.and_assoc]

abbrev Store := List (List D)
/-- an exception: the module's name of its class, what it was made with -/
structure XV where
  cls : Str
  fields : List (Str × D)
abbrev Out (α : Type) := Option (Except XV α × Store)
def bindO {α β : Type} (r : Out α) (k : α → Store → Out β) : Out β :=
  match r with
  | none => none
  | some (.ok a, S) => k a S
  | some (.error x, S) => some (.error x, S)
@[simp] theorem bindO_ok {α β : Type} (a : α) (S : Store) (k : α → Store → Out β) : bindO (some (.ok a, S)) k = k a S := rfl
@[simp] theorem bindO_none {α β : Type} (k : α → Store → Out β) : bindO none k = none := rfl
@[simp] theorem bindO_err {α β : Type} (x : XV) (S : Store) (k : α → Store → Out β) : bindO (some (.error x, S)) k = some (.error x, S) := rfl
abbrev Env := List (Option D)
abbrev EX := Env → Store → Out D
abbrev AX := Env → Store → Out (List D)
def ret {α : Type} (a : α) (S : Store) : Out α := some (.ok a, S)

mutual
inductive Rep (K : PySem.W.Frag) (F : Hp) (μ : List Addr) : D → V → Prop
  | non : Rep K F μ .non .non
  | bl (b : Bool) : Rep K F μ (.bl b) (.bl b)
  | int (i : Int) : Rep K F μ (.int i) (.int i)
  | str (x : Str) : Rep K F μ (.str x) (.str x)
  | tup {a : Addr} {xs : List V} {ds : List D} : SqT K F a xs → Reps K F μ ds xs → Rep K F μ (.tup ds) (.ref a)
  | lst {a : Addr} {xs : List V} {ds : List D} : F a = some (.lst xs) → Reps K F μ ds xs → Rep K F μ (.lst ds) (.ref a)
  | fz {a : Addr} {xs : List V} {ds : List D} : SqL K F a xs → Reps K F μ ds xs → Rep K F μ (.fz ds) (.ref a)
  | loc {n : Nat} {a : Addr} : μ[n]? = some a → Rep K F μ (.loc n) (.ref a)
  | fn {f c' : Addr} {l : LamSite} {pm ctv : Value} : F f = some (FunO f l pm c' ctv) → F c' = some (LamX.CodeO c' l.qual) → Rep K F μ (.fn l) (.ref f)
  | tpn {a : Addr} {o : Obj} {xs : List V} {ds : List D} : F a = some (.frz o (.tup xs)) → o.dict = none → Reps K F μ ds xs → Rep K F μ (.tpn ds) (.ref a)
  | dct {a : Addr} {ks : List (Int × Int)} : F a = some (.dK (ks.map fun p => (Sum.inl p.1, V.int p.2))) → Rep K F μ (.dct ks) (.ref a)
inductive Reps (K : PySem.W.Frag) (F : Hp) (μ : List Addr) : List D → List V → Prop
  | nil : Reps K F μ [] []
  | cons {d : D} {ds : List D} {v : V} {vs : List V} : Rep K F μ d v → Reps K F μ ds vs → Reps K F μ (d :: ds) (v :: vs)
end

section
variable {K : PySem.W.Frag} {F F' H : Hp} {μ μ' : List Addr} {d : D} {ds es : List D} {v : V} {vs ws : List V}
theorem pre_get {n : Nat} {a : Addr} (p : μ <+: μ') (h : μ[n]? = some a) : μ'[n]? = some a := by
  obtain ⟨t, rfl⟩ := p
  have := (List.getElem?_eq_some_iff.mp h).1
  rw [List.getElem?_append_left this]; exact h
mutual
theorem Rep.mono (e : Ex F F') (p : μ <+: μ') : ∀ {d : D} {v : V}, Rep K F μ d v → Rep K F' μ' d v
  | _, _, .non => .non
  | _, _, .bl b => .bl b
  | _, _, .int i => .int i
  | _, _, .str x => .str x
  | _, _, .tup h r => .tup (ex_t e h) (Reps.mono e p r)
  | _, _, .lst h r => .lst (e _ _ h) (Reps.mono e p r)
  | _, _, .fz h r => .fz (ex_l e h) (Reps.mono e p r)
  | _, _, .loc h => .loc (pre_get p h)
  | _, _, .fn h g => .fn (e _ _ h) (e _ _ g)
  | _, _, .tpn h k r => .tpn (e _ _ h) k (Reps.mono e p r)
  | _, _, .dct h => .dct (e _ _ h)
theorem Reps.mono (e : Ex F F') (p : μ <+: μ') : ∀ {ds : List D} {vs : List V}, Reps K F μ ds vs → Reps K F' μ' ds vs
  | _, _, .nil => .nil
  | _, _, .cons h r => .cons (Rep.mono e p h) (Reps.mono e p r)
end
mutual
/-- what has no location does not lean on the store -/
theorem Rep.free : ∀ {d : D} {v : V}, Rep K F μ d v → d.pure = true → Rep K F μ' d v
  | _, _, .non, _ => .non
  | _, _, .bl b, _ => .bl b
  | _, _, .int i, _ => .int i
  | _, _, .str x, _ => .str x
  | _, _, .tup h r, p => .tup h (Reps.free r (by simpa [D.pure] using p))
  | _, _, .lst h r, p => .lst h (Reps.free r (by simpa [D.pure] using p))
  | _, _, .loc h, p => by simp [D.pure] at p
  | _, _, .fz h r, p => by simp [D.pure] at p
  | _, _, .fn h r, p => by simp [D.pure] at p
  | _, _, .tpn h k r, p => .tpn h k (Reps.free r (by simpa [D.pure] using p))
  | _, _, .dct h, p => by simp [D.pure] at p
theorem Reps.free : ∀ {ds : List D} {vs : List V}, Reps K F μ ds vs → D.pures ds = true → Reps K F μ' ds vs
  | _, _, .nil, _ => .nil
  | _, _, .cons h r, p => .cons (Rep.free h (by simp [D.pures] at p; exact p.1)) (Reps.free r (by simp [D.pures] at p; exact p.2))
end
theorem Reps.length : ∀ {ds : List D} {vs : List V}, Reps K F μ ds vs → ds.length = vs.length
  | _, _, .nil => rfl
  | _, _, .cons _ r => by simp [Reps.length r]
theorem Reps.get : ∀ {ds : List D} {vs : List V} {i : Nat} {d : D}, Reps K F μ ds vs → ds[i]? = some d → ∃ v, vs[i]? = some v ∧ Rep K F μ d v
  | _, _, _, _, .nil, h => by simp at h
  | _, _, 0, _, .cons h r, e => by simp at e; subst e; exact ⟨_, rfl, h⟩
  | _, _, i + 1, _, .cons h r, e => by simpa using Reps.get (i := i) r (by simpa using e)
theorem Reps.getV : ∀ {ds : List D} {vs : List V} {i : Nat} {v : V}, Reps K F μ ds vs → vs[i]? = some v → ∃ d, ds[i]? = some d ∧ Rep K F μ d v
  | _, _, _, _, .nil, h => by simp at h
  | _, _, 0, _, .cons h r, e => by simp at e; subst e; exact ⟨_, rfl, h⟩
  | _, _, i + 1, _, .cons h r, e => by simpa using Reps.getV (i := i) r (by simpa using e)
theorem Reps.append : ∀ {ds : List D} {vs : List V} {es : List D} {ws : List V}, Reps K F μ ds vs → Reps K F μ es ws → Reps K F μ (ds ++ es) (vs ++ ws)
  | _, _, _, _, .nil, s => s
  | _, _, _, _, .cons h r, s => .cons h (Reps.append r s)
theorem Reps.drop : ∀ {ds : List D} {vs : List V} (n : Nat), Reps K F μ ds vs → Reps K F μ (ds.drop n) (vs.drop n)
  | _, _, 0, r => r
  | _, _, n + 1, .nil => .nil
  | _, _, n + 1, .cons _ r => Reps.drop n r
theorem Reps.take : ∀ {ds : List D} {vs : List V} (n : Nat), Reps K F μ ds vs → Reps K F μ (ds.take n) (vs.take n)
  | _, _, 0, r => .nil
  | _, _, n + 1, .nil => .nil
  | _, _, n + 1, .cons h r => .cons h (Reps.take n r)
theorem Reps.set : ∀ {ds : List D} {vs : List V} {d : D} {v : V} (n : Nat), Reps K F μ ds vs → Rep K F μ d v → Reps K F μ (ds.set n d) (vs.set n v)
  | _, _, _, _, _, .nil, _ => .nil
  | _, _, _, _, 0, .cons h r, q => .cons q r
  | _, _, _, _, n + 1, .cons h r, q => .cons h (Reps.set n r q)
theorem Reps.eraseIdx : ∀ {ds : List D} {vs : List V} (n : Nat), Reps K F μ ds vs → Reps K F μ (ds.eraseIdx n) (vs.eraseIdx n)
  | _, _, _, .nil => .nil
  | _, _, 0, .cons h r => r
  | _, _, n + 1, .cons h r => .cons h (Reps.eraseIdx n r)
theorem Reps.reverse : ∀ {ds : List D} {vs : List V}, Reps K F μ ds vs → Reps K F μ ds.reverse vs.reverse
  | _, _, .nil => .nil
  | _, _, .cons h r => by
    rw [List.reverse_cons, List.reverse_cons]
    exact (Reps.reverse r).append (.cons h .nil)
theorem Reps.one (h : Rep K F μ d v) : Reps K F μ [d] [v] := .cons h .nil
end

/-! ### the store's relation to the heap -/
/-- T: the tables of code objects (lambdas); F: what is frozen; μ: where the store's lists stand -/
structure SR (K : PySem.W.Frag) (T : List (Addr × Str)) (F : Hp) (μ : List Addr) (S : Store) (H : Hp) : Prop where
  ex : Ex F H
  len : μ.length = S.length
  nd : μ.Nodup
  ob : ∀ (n : Nat) (a : Addr) (ds : List D), μ[n]? = some a → S[n]? = some ds → F a = none ∧ D.pures ds = true ∧ ∃ vs, H a = some (.lst vs) ∧ Reps K F μ ds vs
  tab : LamX.Tabs T H
  tabF : ∀ p ∈ T, F p.1 = none

section
variable {K : PySem.W.Frag} {T : List (Addr × Str)} {F F' H H' : Hp} {μ μ' : List Addr} {S : Store} {a : Addr} {o : HO}
theorem Tabs.keep {T : List (Addr × Str)} {H H' : Hp} (t : LamX.Tabs T H) (e : ∀ b o, H b = some o → (∀ xs, o ≠ .lst xs) → H' b = some o) : LamX.Tabs T H' := fun p hp => by
  obtain ⟨ps, h1, h2, h3⟩ := t p hp
  refine ⟨ps, e _ _ h1 (by intro xs z; cases z), h2, fun pos cv hc => ?_⟩
  obtain ⟨c, e1, e2⟩ := h3 pos cv hc
  exact ⟨c, e1, e _ _ e2 (by intro xs z; unfold LamX.CodeO at z; cases z)⟩
/-- a new frozen object -/
theorem SR.new (s : SR K T F μ S H) (hn : H a = none) : SR K T (upd F a o) μ S (upd H a o) := by
  have hF : F a = none := fresh_back s.ex hn
  have hm : ∀ (n : Nat) (b : Addr), μ[n]? = some b → b ≠ a := fun n b e z => by
    subst z
    have hl : n < S.length := by rw [← s.len]; exact (List.getElem?_eq_some_iff.mp e).1
    obtain ⟨_, _, vs, h, _⟩ := s.ob n b S[n] e (List.getElem?_eq_getElem hl)
    rw [hn] at h; cases h
  refine ⟨fun b u e => ?_, s.len, s.nd, fun n b ds e1 e2 => ?_, s.tab.ext fun b u e => ?_, fun p hp => ?_⟩
  · by_cases hb : b = a
    · subst hb; rw [upd_same] at e ⊢; exact e
    · rw [upd_ne hb] at e ⊢; exact s.ex b u e
  · obtain ⟨h1, h2, vs, h3, h4⟩ := s.ob n b ds e1 e2
    have nb := hm n b e1
    exact ⟨by rw [upd_ne nb]; exact h1, h2, vs, by rw [upd_ne nb]; exact h3, h4.mono (Ex.new hF) (List.prefix_refl _)⟩
  · rw [upd_ne (ne_of_none e hn)]; exact e
  · obtain ⟨ps, h1, _⟩ := s.tab p hp
    rw [upd_ne (ne_of_none h1 hn)]; exact s.tabF p hp
/-- a new list that is not frozen yet -/
theorem SR.lay (s : SR K T F μ S H) (hn : H a = none) : SR K T F μ S (upd H a o) := by
  refine ⟨s.ex.trans (Ex.new hn), s.len, s.nd, fun n b ds e1 e2 => ?_, s.tab.ext fun b u e => ?_, s.tabF⟩
  · obtain ⟨h1, h2, vs, h3, h4⟩ := s.ob n b ds e1 e2
    exact ⟨h1, h2, vs, by rw [upd_ne (ne_of_none h3 hn)]; exact h3, h4⟩
  · rw [upd_ne (ne_of_none e hn)]; exact e
/-- a list that nobody else holds is frozen -/
theorem SR.freeze (s : SR K T F μ S H) {xs : List V} (hF : F a = none) (hm : a ∉ μ) (hH : H a = some (.lst xs)) : SR K T (upd F a (.lst xs)) μ S H := by
  refine ⟨fun b u e => ?_, s.len, s.nd, fun n b ds e1 e2 => ?_, s.tab, fun p hp => ?_⟩
  · by_cases hb : b = a
    · subst hb; rw [upd_same] at e; cases e; exact hH
    · rw [upd_ne hb] at e; exact s.ex b u e
  · obtain ⟨h1, h2, vs, h3, h4⟩ := s.ob n b ds e1 e2
    have nb : b ≠ a := fun z => hm (by rw [← z]; exact List.mem_of_getElem? e1)
    exact ⟨by rw [upd_ne nb]; exact h1, h2, vs, h3, h4.mono (Ex.new hF) (List.prefix_refl _)⟩
  · obtain ⟨ps, h1, _⟩ := s.tab p hp
    rw [upd_ne (fun z => by rw [z, hH] at h1; cases h1)]
    exact s.tabF p hp
/-- .. or becomes a list of the store -/
theorem SR.alloc (s : SR K T F μ S H) {xs : List V} {ds : List D} (hF : F a = none) (hm : a ∉ μ) (hH : H a = some (.lst xs)) (hr : Reps K F μ ds xs) (hp : D.pures ds = true) : SR K T F (μ ++ [a]) (S ++ [ds]) H := by
  refine ⟨s.ex, by simp [s.len], ?_, fun n b es e1 e2 => ?_, s.tab, s.tabF⟩
  · rw [List.nodup_append]
    refine ⟨s.nd, by simp, fun x hx y hy e => ?_⟩
    simp at hy; subst hy; subst e; exact hm hx
  · by_cases hn : n < μ.length
    · rw [List.getElem?_append_left hn] at e1
      rw [List.getElem?_append_left (by rw [← s.len]; exact hn)] at e2
      obtain ⟨h1, h2, vs, h3, h4⟩ := s.ob n b es e1 e2
      exact ⟨h1, h2, vs, h3, h4.mono (Ex.refl _) (List.prefix_append _ _)⟩
    · have hl := (List.getElem?_eq_some_iff.mp e1).1
      have en : n = μ.length := by simp at hl; omega
      subst en
      rw [List.getElem?_append_right (Nat.le_refl _)] at e1
      rw [s.len, List.getElem?_append_right (Nat.le_refl _)] at e2
      simp at e1 e2
      subst e1; subst e2
      exact ⟨hF, hp, xs, hH, hr.mono (Ex.refl _) (List.prefix_append _ _)⟩
/-- the store's n-th list is changed -/
theorem SR.put (s : SR K T F μ S H) {n : Nat} {xs : List V} {ds : List D} (hm : μ[n]? = some a) (hr : Reps K F μ ds xs) (hp : D.pures ds = true) : SR K T F μ (S.set n ds) (upd H a (.lst xs)) := by
  have hl : n < S.length := by rw [← s.len]; exact (List.getElem?_eq_some_iff.mp hm).1
  obtain ⟨hF, _, ys, hHa, _⟩ := s.ob n a S[n] hm (List.getElem?_eq_getElem hl)
  refine ⟨Ex.mut s.ex hF, by simp [s.len], s.nd, fun m b es e1 e2 => ?_, Tabs.keep s.tab fun b u e nl => ?_, s.tabF⟩
  · by_cases hb : m = n
    · subst hb
      rw [hm] at e1; cases e1
      rw [List.getElem?_set_self hl] at e2; cases e2
      exact ⟨hF, hp, xs, upd_same, hr⟩
    · rw [List.getElem?_set_ne (Ne.symm hb)] at e2
      obtain ⟨h1, h2, vs, h3, h4⟩ := s.ob m b es e1 e2
      have nb : b ≠ a := fun z => by
        subst z
        have h1 := (List.getElem?_eq_some_iff.mp e1)
        have h2 := (List.getElem?_eq_some_iff.mp hm)
        exact hb ((List.getElem_inj s.nd).mp (h1.2.trans h2.2.symm))
      exact ⟨h1, h2, vs, by rw [upd_ne nb]; exact h3, h4⟩
  · by_cases hb : b = a
    · subst hb; rw [hHa] at e; cases e; exact absurd rfl (nl _)
    · rw [upd_ne hb]; exact e
/-- the store's later lists are forgotten -/
theorem SR.cut (s : SR K T F μ S H) (k : Nat) : SR K T F (μ.take k) (S.take k) H := by
  refine ⟨s.ex, by simp [s.len], s.nd.sublist (List.take_sublist _ _), fun n a ds e1 e2 => ?_, s.tab, s.tabF⟩
  have hk : n < k := by
    have := (List.getElem?_eq_some_iff.mp e1).1
    rw [List.length_take] at this; omega
  rw [List.getElem?_take_of_lt hk] at e1 e2
  obtain ⟨h1, h2, vs, h3, h4⟩ := s.ob n a ds e1 e2
  exact ⟨h1, h2, vs, h3, h4.free h2⟩
theorem SR.get (s : SR K T F μ S H) {n : Nat} (hm : μ[n]? = some a) : ∃ ds vs, S[n]? = some ds ∧ H a = some (.lst vs) ∧ Reps K F μ ds vs ∧ F a = none ∧ D.pures ds = true := by
  have hl : n < S.length := by rw [← s.len]; exact (List.getElem?_eq_some_iff.mp hm).1
  obtain ⟨h1, h2, vs, h3, h4⟩ := s.ob n a S[n] hm (List.getElem?_eq_getElem hl)
  exact ⟨S[n], vs, List.getElem?_eq_getElem hl, h3, h4, h1, h2⟩
theorem SR.sqT (s : SR K T F μ S H) {xs : List V} (h : SqT K F a xs) : SqT K H a xs := ex_t s.ex h
theorem SR.sqL (s : SR K T F μ S H) {xs : List V} (h : SqL K F a xs) : SqL K H a xs := ex_l s.ex h
end

/-! ### outcomes -/
/-- a list that was just made, held by nobody else -/
def Fresh (K : PySem.W.Frag) (F : Hp) (μ : List Addr) (H : Hp) (d : D) (v : V) : Prop :=
  ∃ ds a vs, d = .lst ds ∧ v = .ref a ∧ F a = none ∧ a ∉ μ ∧ H a = some (.lst vs) ∧ Reps K F μ ds vs
def RX (K : PySem.W.Frag) (fr : Bool) (F : Hp) (μ : List Addr) (H : Hp) (d : D) (v : V) : Prop := match fr with
  | true => Fresh K F μ H d v
  | false => Rep K F μ d v
/-- an exception of an own class that keeps what it was made with -/
def XRep (K : PySem.W.Frag) (mg : Str → Option Value) (F : Hp) (μ : List Addr) (x : XV) (cls : Value) (dd : Option Addr) : Prop :=
  ∃ C, cls = .ref C ∧ mg x.cls = some (.ref C) ∧ (x.fields = [] ∨ ∃ d vs, dd = some d ∧ Reps K F μ (x.fields.map (·.2)) vs ∧ F d = some (.xd ((x.fields.map (·.1)).zip vs)))
def GP {α : Type} (K : PySem.W.Frag) (T : List (Addr × Str)) (F : Hp) (μ : List Addr) (r : Out α) (ok : α → Hp → List Addr → Hp → Store → Prop) (er : XV → Hp → List Addr → Hp → Prop) : Prop :=
  match r with
  | none => False
  | some (.ok a, S) => ∀ F' μ' H', Ex F F' → μ <+: μ' → SR K T F' μ' S H' → ok a F' μ' H' S
  | some (.error x, S) => ∀ F' μ' H', Ex F F' → μ <+: μ' → SR K T F' μ' S H' → er x F' μ' H'
section
variable {α β : Type} {K : PySem.W.Frag} {T : List (Addr × Str)} {F F' H H' : Hp} {μ μ' : List Addr} {S : Store} {r : Out α} {k : α → Store → Out β}
  {ok : β → Hp → List Addr → Hp → Store → Prop} {ok1 ok2 : α → Hp → List Addr → Hp → Store → Prop} {er : XV → Hp → List Addr → Hp → Prop}
theorem GP.mono (h : GP K T F μ r ok1 er) (e : Ex F F') (p : μ <+: μ') : GP K T F' μ' r ok1 er := by
  match r, h with
  | some (.ok a, S), h => exact fun F2 μ2 H2 e2 p2 s2 => h F2 μ2 H2 (e.trans e2) (p.trans p2) s2
  | some (.error x, S), h => exact fun F2 μ2 H2 e2 p2 s2 => h F2 μ2 H2 (e.trans e2) (p.trans p2) s2
theorem GP.bind (h : GP K T F μ (bindO r k) ok er) : GP K T F μ r (fun a F' μ' H' S' => SR K T F' μ' S' H' ∧ Ex F F' ∧ μ <+: μ' ∧ GP K T F' μ' (k a S') ok er) er := by
  match r, h with
  | some (.ok a, S), h => exact fun F2 μ2 H2 e2 p2 s2 => ⟨s2, e2, p2, GP.mono h e2 p2⟩
  | some (.error x, S), h => exact h
theorem GP.imp (h : GP K T F μ r ok1 er) (f : ∀ a F' μ' H' S', Ex F F' → μ <+: μ' → SR K T F' μ' S' H' → ok1 a F' μ' H' S' → ok2 a F' μ' H' S') : GP K T F μ r ok2 er := by
  match r, h with
  | some (.ok a, S), h => exact fun F2 μ2 H2 e2 p2 s2 => f _ _ _ _ _ e2 p2 s2 (h F2 μ2 H2 e2 p2 s2)
  | some (.error x, S), h => exact h
/-- bind, and go on -/
theorem GP.seq (h : GP K T F μ (bindO r k) ok er) (f : ∀ a F' μ' H' S', Ex F F' → μ <+: μ' → SR K T F' μ' S' H' → GP K T F' μ' (k a S') ok er → ok2 a F' μ' H' S') : GP K T F μ r ok2 er :=
  GP.imp (GP.bind h) fun a F' μ' H' S' e p s ⟨_, _, _, q⟩ => f a F' μ' H' S' e p s q
theorem GP.here {a : α} (h : GP K T F μ (some (.ok a, S)) ok1 er) (s : SR K T F μ S H) : ok1 a F μ H S := h F μ H (Ex.refl _) (List.prefix_refl _) s
/-- a state that stands behind one that was reached -/
theorem GP.at {a : α} (h : GP K T F μ (some (.ok a, S)) ok1 er) (e : Ex F F') (p : μ <+: μ') (s : SR K T F' μ' S H') : ok1 a F' μ' H' S := h F' μ' H' e p s
end
/-- the slots -/
def EnvR (K : PySem.W.Frag) (F : Hp) (μ : List Addr) (ρ : Env) (σ : L2.St) : Prop := ρ.length = σ.length ∧ ∀ (i : Nat) (d : D), ρ[i]? = some (some d) → ∃ v, σ[i]? = some (some v) ∧ Rep K F μ d v
section
variable {K : PySem.W.Frag} {F F' : Hp} {μ μ' : List Addr} {ρ : Env} {σ : L2.St}
theorem EnvR.mono (h : EnvR K F μ ρ σ) (e : Ex F F') (p : μ <+: μ') : EnvR K F' μ' ρ σ := ⟨h.1, fun i d q => by
  obtain ⟨v, h1, h2⟩ := h.2 i d q
  exact ⟨v, h1, h2.mono e p⟩⟩
theorem EnvR.set (h : EnvR K F μ ρ σ) {i : Nat} {d : D} {v : V} (r : Rep K F μ d v) : EnvR K F μ (ρ.set i (some d)) (σ.set i (some v)) := ⟨by simp [h.1], fun j e q => by
  by_cases hj : j = i
  · subst hj
    have hl : j < ρ.length := by
      have := (List.getElem?_eq_some_iff.mp q).1
      simpa using this
    rw [List.getElem?_set_self hl] at q
    cases q
    exact ⟨v, by rw [List.getElem?_set_self (by rw [← h.1]; exact hl)], r⟩
  · rw [List.getElem?_set_ne (Ne.symm hj)] at q ⊢
    exact h.2 j e q⟩
theorem EnvR.none (h : EnvR K F μ ρ σ) (i : Nat) : EnvR K F μ (ρ.set i none) (σ.set i none) := ⟨by simp [h.1], fun j e q => by
  by_cases hj : j = i
  · subst hj
    have hl : j < ρ.length := by
      have := (List.getElem?_eq_some_iff.mp q).1
      simpa using this
    rw [List.getElem?_set_self hl] at q
    cases q
  · rw [List.getElem?_set_ne (Ne.symm hj)] at q ⊢
    exact h.2 j e q⟩
def wipeE (ρ : Env) : List Nat → Env
  | [] => ρ
  | v :: vs => (wipeE ρ vs).set v none
theorem EnvR.wipe (h : EnvR K F μ ρ σ) : ∀ vs : List Nat, EnvR K F μ (wipeE ρ vs) (wipe σ vs)
  | [] => h
  | v :: vs => (EnvR.wipe h vs).none v
end
end PF
set_option Elab.async false
set_option linter.all false
set_option maxRecDepth 100000
set_option maxHeartbeats 4000000
/-! PF2: expressions. -/
namespace PF
open PySem L2 Evl
section
variable (K : PySem.W.Frag) (mg : Str → Option Value)
def OkV (fr : Bool) (Q : VK) : D → Hp → List Addr → Hp → Store → Prop := fun d F μ H _ => ∀ v, RX K fr F μ H d v → Q v H
def OkA (Q : List V → Hp → Prop) : List D → Hp → List Addr → Hp → Store → Prop := fun ds F μ H _ => ∀ vs, Reps K F μ ds vs → Q vs H
def ErW (W : Value → Option Addr → Hp → Prop) : XV → Hp → List Addr → Hp → Prop := fun x F μ H => ∀ cls dd, XRep K mg F μ x cls dd → W cls dd H
end
abbrev BX := Env → Store → Out Bool
def RE (T : List (Addr × Str)) (fr : Bool) (X : Cx) (W : WX) (e : Expr) (c : EX) : Prop := ∃ t, PE X e t ∧
  ∀ σ ρ F μ S H Q, SR X.K T F μ S H → EnvR X.K F μ ρ σ → GP X.K T F μ (c ρ S) (OkV X.K fr Q) (ErW X.K X.mg fun cls dd H' => W cls dd σ H') → t σ H Q
def RT (T : List (Addr × Str)) (X : Cx) (W : WX) (e : Expr) (c : BX) : Prop := ∃ t, PT X e t ∧
  ∀ σ ρ F μ S H (Q : Bool → Hp → Prop), SR X.K T F μ S H → EnvR X.K F μ ρ σ → GP X.K T F μ (c ρ S) (fun b _ _ H' _ => Q b H') (ErW X.K X.mg fun cls dd H' => W cls dd σ H') → t σ H Q
/-- a test within and, or -/
def RW (T : List (Addr × Str)) (X : Cx) (W : WX) (e : Expr) (c : BX) : Prop := ∃ t, PW X e t ∧
  ∀ σ ρ F μ S H (Q : Bool → Hp → Prop), SR X.K T F μ S H → EnvR X.K F μ ρ σ → GP X.K T F μ (c ρ S) (fun b _ _ H' _ => Q b H') (ErW X.K X.mg fun cls dd H' => W cls dd σ H') → t σ H Q
def RA (T : List (Addr × Str)) (X : Cx) (W : WX) (es : List Expr) (c : AX) : Prop := ∃ t, PA X es t ∧
  ∀ σ ρ F μ S H Q, SR X.K T F μ S H → EnvR X.K F μ ρ σ → GP X.K T F μ (c ρ S) (OkA X.K Q) (ErW X.K X.mg fun cls dd H' => W cls dd σ H') → t σ H Q
/-- keywords -/
def RK (T : List (Addr × Str)) (X : Cx) (W : WX) (kws : List Keyword) (c : AX) : Prop := ∃ t, PK X kws t ∧
  ∀ σ ρ F μ S H Q, SR X.K T F μ S H → EnvR X.K F μ ρ σ → GP X.K T F μ (c ρ S) (OkA X.K Q) (ErW X.K X.mg fun cls dd H' => W cls dd σ H') → t σ H Q

/-! ### ends -/
section
variable {K : PySem.W.Frag} {T : List (Addr × Str)} {F H : Hp} {μ : List Addr} {S : Store} {Q : VK} {er : XV → Hp → List Addr → Hp → Prop} {d : D} {v : V} {ds : List D} {vs : List V}
theorem gp_val (h : GP K T F μ (some (.ok d, S)) (OkV K false Q) er) (s : SR K T F μ S H) (r : Rep K F μ d v) : Q v H := h F μ H (Ex.refl _) (List.prefix_refl _) s v r
theorem gp_tup (h : GP K T F μ (some (.ok (.tup ds), S)) (OkV K false Q) er) (s : SR K T F μ S H) (r : Reps K F μ ds vs) : ∀ p, H p = none → Q (.ref p) (upd H p (.tup vs)) := fun p hp =>
  h (upd F p (.tup vs)) μ _ (Ex.new (fresh_back s.ex hp)) (List.prefix_refl _) (s.new hp) _ (.tup (st_of upd_same) (r.mono (Ex.new (fresh_back s.ex hp)) (List.prefix_refl _)))
theorem SR.notin (s : SR K T F μ S H) {p : Addr} (hp : H p = none) : p ∉ μ := fun hm => by
  obtain ⟨n, hn, e⟩ := List.mem_iff_getElem.mp hm
  obtain ⟨_, vs, _, h, _⟩ := s.get (n := n) (a := p) (by rw [List.getElem?_eq_getElem hn, e])
  rw [hp] at h; cases h
theorem gp_lst (h : GP K T F μ (some (.ok (.lst ds), S)) (OkV K true Q) er) (s : SR K T F μ S H) (r : Reps K F μ ds vs) : ∀ p, H p = none → Q (.ref p) (upd H p (.lst vs)) := fun p hp =>
  h F μ _ (Ex.refl _) (List.prefix_refl _) (s.lay hp) _ ⟨ds, p, vs, rfl, rfl, fresh_back s.ex hp, s.notin hp, upd_same, r⟩
/-- a list that was just made is a value -/
theorem ok_of_fresh {a : D} {F' H' : Hp} {μ' : List Addr} {S' : Store} (s : SR K T F' μ' S' H') (h : GP K T F' μ' (some (.ok a, S')) (OkV K false Q) er) : OkV K true Q a F' μ' H' S' := fun v hf => by
  obtain ⟨es, p, ws, rfl, rfl, hF, hm, hH, r⟩ := hf
  exact h (upd F' p (.lst ws)) μ' H' (Ex.new hF) (List.prefix_refl _) (s.freeze hF hm hH) _ (.lst upd_same (r.mono (Ex.new hF) (List.prefix_refl _)))
theorem gp_freeze {r : Out D} (h : GP K T F μ r (OkV K false Q) er) : GP K T F μ r (OkV K true Q) er := by
  match r, h with
  | some (.ok a, S), h => exact fun F' μ' H' e p s => ok_of_fresh s (GP.mono h e p)
  | some (.error x, S), h => exact h
end

section
variable {T : List (Addr × Str)} {X : Cx} {W : WX} {fr : Bool}
theorem RE.frozen {e : Expr} {c : EX} (h : RE T true X W e c) : RE T false X W e c := by
  obtain ⟨t, p, f⟩ := h
  exact ⟨t, p, fun σ ρ F μ S H Q s hE g => f σ ρ F μ S H Q s hE (gp_freeze g)⟩
/-- a new list becomes a list of the store -/
def cAlloc (c : EX) : EX := fun ρ S => bindO (c ρ S) fun d S => match d with
  | .lst ds => if D.pures ds = true then some (.ok (.loc S.length), S ++ [ds]) else none
  | _ => none
theorem RE.alloc {e : Expr} {c : EX} (h : RE T true X W e c) : RE T false X W e (cAlloc c) := by
  obtain ⟨t, p, f⟩ := h
  refine ⟨t, p, fun σ ρ F μ S H Q s hE g => f σ ρ F μ S H Q s hE (GP.seq g fun d F' μ' H' S' e p s' q v hf => ?_)⟩
  obtain ⟨ds, a, vs, rfl, rfl, hF, hm, hH, r⟩ := hf
  dsimp only at q
  split at q
  · rename_i hp
    exact q F' (μ' ++ [a]) H' (Ex.refl _) (List.prefix_append _ _) (s'.alloc hF hm hH r hp) _ (.loc (by rw [← s'.len, List.getElem?_append_right (Nat.le_refl _)]; simp))
  · exact q.elim
/-- what was allocated meanwhile is forgotten -/
def cScope (c : EX) : EX := fun ρ S => match c ρ S with
  | none => none
  | some (.ok d, S') => if d.pure = true then some (.ok d, S'.take S.length) else none
  | some (.error x, S') => if D.pures (x.fields.map (·.2)) = true then some (.error x, S'.take S.length) else none
theorem take_pre {μ μ' : List Addr} {S : Store} {K : PySem.W.Frag} {F H : Hp} (s : SR K T F μ S H) (p : μ <+: μ') : μ'.take S.length = μ := by
  obtain ⟨t, rfl⟩ := p
  rw [← s.len]; simp
theorem RE.scope {e : Expr} {c : EX} (h : RE T false X W e c) : RE T false X W e (cScope c) := by
  obtain ⟨t, p, f⟩ := h
  refine ⟨t, p, fun σ ρ F μ S H Q s hE g => f σ ρ F μ S H Q s hE ?_⟩
  unfold cScope at g
  match hc : c ρ S with
  | none => rw [hc] at g; exact g
  | some (.ok d, S') =>
    rw [hc] at g
    dsimp only at g
    split at g
    · rename_i hp
      intro F' μ' H' e p s' v r
      have s2 := s'.cut S.length
      rw [take_pre s p] at s2
      exact g F' μ H' e (List.prefix_refl _) s2 v (Rep.free r hp)
    · exact g.elim
  | some (.error x, S') =>
    rw [hc] at g
    dsimp only at g
    split at g
    · rename_i hp
      intro F' μ' H' e p s' cls dd r
      have s2 := s'.cut S.length
      rw [take_pre s p] at s2
      obtain ⟨C, h1, h2, h3⟩ := r
      refine g F' μ H' e (List.prefix_refl _) s2 cls dd ⟨C, h1, h2, h3.imp id fun ⟨d, vs, a1, a2, a3⟩ => ⟨d, vs, a1, a2.free hp, a3⟩⟩
    · exact g.elim

/-! ### names, constants -/
def cVar (i : Nat) : EX := fun ρ S => match ρ[i]? with
  | some (some d) => some (.ok d, S)
  | _ => none
theorem re_var {i : Nat} {x : Str} {pos : Pos} (hN : X.N[i]? = some x := by rfl) (hv : Vis X.env.scope x := by first | exact Or.inl rfl | exact Or.inr (Or.inl rfl) | exact Or.inr (Or.inr rfl)) (hd : (x == ("__debug__" : Str)) = false := by decide)
    (hcd : (x == ("__classdict__" : Str)) = false := by decide) : RE T false X W (.Name x pos) (cVar i) := by
  refine ⟨_, pe_var hN hv hd hcd, fun σ ρ F μ S H Q s hE g => ?_⟩
  unfold cVar at g
  split at g
  · rename_i d hd
    obtain ⟨v, h1, h2⟩ := hE.2 i d hd
    exact ⟨v, h1, gp_val g s h2⟩
  · exact g.elim
def cK (d : D) : EX := fun _ S => some (.ok d, S)
theorem re_int {i : Int} {j pos} : RE T false X W (.Constant (.int i) j pos) (cK (.int i)) := ⟨_, pe_int, fun σ ρ F μ S H Q s hE g => gp_val g s (.int i)⟩
theorem re_bl {b : Bool} {j pos} : RE T false X W (.Constant (.bool b) j pos) (cK (.bl b)) := ⟨_, pe_bl, fun σ ρ F μ S H Q s hE g => gp_val g s (.bl b)⟩
theorem re_non {j pos} : RE T false X W (.Constant .none j pos) (cK .non) := ⟨_, pe_non, fun σ ρ F μ S H Q s hE g => gp_val g s .non⟩
theorem re_str {x : Str} {j pos} : RE T false X W (.Constant (.str x) j pos) (cK (.str x)) := ⟨_, pe_str, fun σ ρ F μ S H Q s hE g => gp_val g s (.str x)⟩
/-- a module's constant: k says that K's value of the name is the datum -/
def GlobK (K : PySem.W.Frag) (mg : Str → Option Value) (x : Str) (d : D) : Prop := ∃ u v, mg x = some u ∧ RelV v u ∧ ∀ F μ, Rep K F μ d v
theorem re_glob {x : Str} {d : D} {pos : Pos} (k : GlobK X.K X.mg x d) (hg : Gl X x := by rfl) (hd : (x == ("__debug__" : Str)) = false := by decide) : RE T false X W (.Name x pos) (cK d) := by
  obtain ⟨u, v, h1, h2, h3⟩ := k
  exact ⟨_, pe_glob hg h1 h2 hd, fun σ ρ F μ S H Q s hE g => gp_val g s (h3 F μ)⟩

/-! ### operators -/
abbrev Op2 := D → D → Store → Out D
def OpOk (X : Cx) (T : List (Addr × Str)) (fr : Bool) (r : R2) (o : Op2) : Prop := ∀ F μ S H x y v u Q er, SR X.K T F μ S H → Rep X.K F μ x v → Rep X.K F μ y u → GP X.K T F μ (o x y S) (OkV X.K fr Q) er → r v u H Q
def cBin (o : Op2) (a b : EX) : EX := fun ρ S => bindO (a ρ S) fun x S => bindO (b ρ S) fun y S => o x y S
theorem two {e1 e2 : Expr} {a b : EX} {ta tb : TE} {r : R2} {o : Op2}
    (fa : ∀ σ ρ F μ S H Q, SR X.K T F μ S H → EnvR X.K F μ ρ σ → GP X.K T F μ (a ρ S) (OkV X.K false Q) (ErW X.K X.mg fun cls dd H' => W cls dd σ H') → ta σ H Q)
    (fb : ∀ σ ρ F μ S H Q, SR X.K T F μ S H → EnvR X.K F μ ρ σ → GP X.K T F μ (b ρ S) (OkV X.K false Q) (ErW X.K X.mg fun cls dd H' => W cls dd σ H') → tb σ H Q)
    (ho : OpOk X T fr r o) {σ ρ F μ S H Q} (s : SR X.K T F μ S H) (hE : EnvR X.K F μ ρ σ) (g : GP X.K T F μ (cBin o a b ρ S) (OkV X.K fr Q) (ErW X.K X.mg fun cls dd H' => W cls dd σ H')) :
    ta σ H fun x H1 => tb σ H1 fun y H2 => r x y H2 Q := by
  refine fa σ ρ F μ S H _ s hE (GP.seq g fun x F1 μ1 H1 S1 e1 p1 s1 g1 v rx => ?_)
  refine fb σ ρ F1 μ1 S1 H1 _ s1 (hE.mono e1 p1) (GP.seq g1 fun y F2 μ2 H2 S2 e2 p2 s2 g2 u ry => ?_)
  exact ho F2 μ2 S2 H2 x y v u Q _ s2 (Rep.mono e2 p2 rx) ry g2
theorem re_bin {op : Operator} {r : R2} {o : Op2} {e1 e2 : Expr} {a b : EX} {pos : Pos} (hr : OpR X (binaryOp op) r) (ho : OpOk X T fr r o) (ha : RE T false X W e1 a) (hb : RE T false X W e2 b) : RE T fr X W (.BinOp e1 op e2 pos) (cBin o a b) := by
  obtain ⟨ta, pa, fa⟩ := ha
  obtain ⟨tb, pb, fb⟩ := hb
  exact ⟨_, pe_op hr pa pb, fun σ ρ F μ S H Q s hE g => two (e1 := e1) (e2 := e2) fa fb ho s hE g⟩
theorem re_cmp {op : CmpOp} {r : R2} {o : Op2} {e1 e2 : Expr} {a b : EX} {pos : Pos} (hr : OpR X (compareOp op) r) (ho : OpOk X T false r o) (ha : RE T false X W e1 a) (hb : RE T false X W e2 b) (hm : behindInMarks op e2 = false) : RE T false X W (.Compare e1 [op] [e2] pos) (cBin o a b) := by
  obtain ⟨ta, pa, fa⟩ := ha
  obtain ⟨tb, pb, fb⟩ := hb
  exact ⟨_, pe_cmpR hr pa pb hm, fun σ ρ F μ S H Q s hE g => two (e1 := e1) (e2 := e2) fa fb ho s hE g⟩
/-- a value as a test -/
def cTest (c : EX) : BX := fun ρ S => bindO (c ρ S) fun d S => match d with
  | .bl b => some (.ok b, S)
  | _ => none
theorem testV {t : TE} {c : EX} {σ ρ F μ S H} {Q : Bool → Hp → Prop} (f : ∀ σ ρ F μ S H Q, SR X.K T F μ S H → EnvR X.K F μ ρ σ → GP X.K T F μ (c ρ S) (OkV X.K false Q) (ErW X.K X.mg fun cls dd H' => W cls dd σ H') → t σ H Q)
    (s : SR X.K T F μ S H) (hE : EnvR X.K F μ ρ σ) (g : GP X.K T F μ (cTest c ρ S) (fun b _ _ H' _ => Q b H') (ErW X.K X.mg fun cls dd H' => W cls dd σ H')) : t σ H fun x H' => ∃ k, x = .bl k ∧ Q k H' := by
  refine f σ ρ F μ S H _ s hE (GP.seq g fun x F1 μ1 H1 S1 e1 p1 s1 g1 v rx => ?_)
  cases rx with
  | bl b => exact ⟨b, rfl, GP.here g1 s1⟩
  | _ => exact g1.elim
theorem rt_cmp {op : CmpOp} {r : R2} {o : Op2} {e1 e2 : Expr} {a b : EX} {pos : Pos} (hr : OpR X (compareOp op) r) (ho : OpOk X T false r o) (ha : RE T false X W e1 a) (hb : RE T false X W e2 b) (hm : behindInMarks op e2 = false) : RT T X W (.Compare e1 [op] [e2] pos) (cTest (cBin o a b)) := by
  obtain ⟨ta, pa, fa⟩ := ha
  obtain ⟨tb, pb, fb⟩ := hb
  exact ⟨_, pt_cmpR hr pa pb hm, fun σ ρ F μ S H Q s hE g => testV (fun σ ρ F μ S H Q s hE g => two (e1 := e1) (e2 := e2) fa fb ho s hE g) s hE g⟩
theorem rt_val {e : Expr} {c : EX} (h : RE T false X W e c) (he : ∀ whole, isTrue e X.env whole = (do let v ← whole; standAt e.pos; holding [v] (truthy v)) := by intro _; rfl) : RT T X W e (cTest c) := by
  obtain ⟨t, p, f⟩ := h
  exact ⟨_, pt_val p he, fun σ ρ F μ S H Q s hE g => testV f s hE g⟩
/-- a < b < c -/
def cChain (o o' : Op2) (a b c : EX) : EX := fun ρ S => bindO (a ρ S) fun x S => bindO (b ρ S) fun y S => bindO (o x y S) fun z S => match z with
  | .bl true => bindO (c ρ S) fun w S => o' y w S
  | .bl false => some (.ok (.bl false), S)
  | _ => none
theorem chain3 {a b c : EX} {ta tb tc : TE} {r r' : R2} {o o' : Op2}
    (fa : ∀ σ ρ F μ S H Q, SR X.K T F μ S H → EnvR X.K F μ ρ σ → GP X.K T F μ (a ρ S) (OkV X.K false Q) (ErW X.K X.mg fun cls dd H' => W cls dd σ H') → ta σ H Q)
    (fb : ∀ σ ρ F μ S H Q, SR X.K T F μ S H → EnvR X.K F μ ρ σ → GP X.K T F μ (b ρ S) (OkV X.K false Q) (ErW X.K X.mg fun cls dd H' => W cls dd σ H') → tb σ H Q)
    (fc : ∀ σ ρ F μ S H Q, SR X.K T F μ S H → EnvR X.K F μ ρ σ → GP X.K T F μ (c ρ S) (OkV X.K false Q) (ErW X.K X.mg fun cls dd H' => W cls dd σ H') → tc σ H Q)
    (ho : OpOk X T false r o) (ho' : OpOk X T false r' o') {σ ρ F μ S H Q} (s : SR X.K T F μ S H) (hE : EnvR X.K F μ ρ σ) (g : GP X.K T F μ (cChain o o' a b c ρ S) (OkV X.K false Q) (ErW X.K X.mg fun cls dd H' => W cls dd σ H')) :
    tChain r r' ta tb tc σ H Q := by
  refine fa σ ρ F μ S H _ s hE (GP.seq g fun x F1 μ1 H1 S1 e1 p1 s1 g1 v rx => ?_)
  refine fb σ ρ F1 μ1 S1 H1 _ s1 (hE.mono e1 p1) (GP.seq g1 fun y F2 μ2 H2 S2 e2 p2 s2 g2 u ry => ?_)
  refine ho F2 μ2 S2 H2 x y v u _ _ s2 (Rep.mono e2 p2 rx) ry (GP.seq g2 fun z F3 μ3 H3 S3 e3 p3 s3 g3 w rz => ?_)
  cases rz with
  | bl k =>
    refine ⟨k, rfl, ?_⟩
    cases k with
    | true =>
      rw [if_pos rfl]
      refine fc σ ρ F3 μ3 S3 H3 _ s3 (((hE.mono e1 p1).mono e2 p2).mono e3 p3) (GP.seq g3 fun q F4 μ4 H4 S4 e4 p4 s4 g4 w' rw' => ?_)
      exact ho' F4 μ4 S4 H4 y q u w' Q _ s4 (Rep.mono e4 p4 (Rep.mono e3 p3 ry)) rw' g4
    | false =>
      rw [if_neg Bool.false_ne_true]
      exact gp_val g3 s3 (.bl false)
  | _ => exact g3.elim
theorem re_chain {op op' : CmpOp} {r r' : R2} {o o' : Op2} {e1 e2 e3 : Expr} {a b c : EX} {pos : Pos} (hr : OpR X (compareOp op) r) (hr' : OpR X (compareOp op') r') (ho : OpOk X T false r o) (ho' : OpOk X T false r' o')
    (ha : RE T false X W e1 a) (hb : RE T false X W e2 b) (hc : RE T false X W e3 c) (hm : lastMarks [op, op'] [e2, e3] = false := by with_unfolding_all rfl) : RE T false X W (.Compare e1 [op, op'] [e2, e3] pos) (cChain o o' a b c) := by
  obtain ⟨ta, pa, fa⟩ := ha
  obtain ⟨tb, pb, fb⟩ := hb
  obtain ⟨tc, pc, fc⟩ := hc
  exact ⟨_, pe_chain hr hr' pa pb pc hm, fun σ ρ F μ S H Q s hE g => chain3 fa fb fc ho ho' s hE g⟩
theorem rt_chain {op op' : CmpOp} {r r' : R2} {o o' : Op2} {e1 e2 e3 : Expr} {a b c : EX} {pos : Pos} (hr : OpR X (compareOp op) r) (hr' : OpR X (compareOp op') r') (ho : OpOk X T false r o) (ho' : OpOk X T false r' o')
    (ha : RE T false X W e1 a) (hb : RE T false X W e2 b) (hc : RE T false X W e3 c) (hm : lastMarks [op, op'] [e2, e3] = false := by with_unfolding_all rfl) : RT T X W (.Compare e1 [op, op'] [e2, e3] pos) (cTest (cChain o o' a b c)) := by
  obtain ⟨ta, pa, fa⟩ := ha
  obtain ⟨tb, pb, fb⟩ := hb
  obtain ⟨tc, pc, fc⟩ := hc
  exact ⟨_, pt_chain hr hr' pa pb pc hm, fun σ ρ F μ S H Q s hE g => testV (fun σ ρ F μ S H Q s hE g => chain3 fa fb fc ho ho' s hE g) s hE g⟩

/-! ### and, or, not -/
def bAnd (a b : BX) : BX := fun ρ S => bindO (a ρ S) fun x S => match x with
  | true => b ρ S
  | false => some (.ok false, S)
def bOr (a b : BX) : BX := fun ρ S => bindO (a ρ S) fun x S => match x with
  | true => some (.ok true, S)
  | false => b ρ S
def bNot (a : BX) : BX := fun ρ S => bindO (a ρ S) fun x S => some (.ok (!x), S)
theorem rw_and1 {e : Expr} {c : BX} {pos : Pos} (h : RT T X W e c) : RW T X W (.BoolOp .And [e] pos) c := let ⟨t, p, f⟩ := h; ⟨t, pw_and1 p, f⟩
theorem rw_or1 {e : Expr} {c : BX} {pos : Pos} (h : RT T X W e c) : RW T X W (.BoolOp .Or [e] pos) c := let ⟨t, p, f⟩ := h; ⟨t, pw_or1 p, f⟩
theorem rw_and {e e2 : Expr} {es : List Expr} {a b : BX} {pos : Pos} (h : RT T X W e a) (h2 : RW T X W (.BoolOp .And (e2 :: es) pos) b) : RW T X W (.BoolOp .And (e :: e2 :: es) pos) (bAnd a b) := by
  obtain ⟨ta, pa, fa⟩ := h
  obtain ⟨tb, pb, fb⟩ := h2
  refine ⟨_, pw_and pa pb, fun σ ρ F μ S H Q s hE g => ?_⟩
  refine fa σ ρ F μ S H _ s hE (GP.seq g fun x F1 μ1 H1 S1 e1 p1 s1 g1 => ?_)
  cases x with
  | true => rw [if_pos rfl]; exact fb σ ρ F1 μ1 S1 H1 Q s1 (hE.mono e1 p1) g1
  | false => rw [if_neg Bool.false_ne_true]; exact GP.here g1 s1
theorem rw_or {e e2 : Expr} {es : List Expr} {a b : BX} {pos : Pos} (h : RT T X W e a) (h2 : RW T X W (.BoolOp .Or (e2 :: es) pos) b) : RW T X W (.BoolOp .Or (e :: e2 :: es) pos) (bOr a b) := by
  obtain ⟨ta, pa, fa⟩ := h
  obtain ⟨tb, pb, fb⟩ := h2
  refine ⟨_, pw_or pa pb, fun σ ρ F μ S H Q s hE g => ?_⟩
  refine fa σ ρ F μ S H _ s hE (GP.seq g fun x F1 μ1 H1 S1 e1 p1 s1 g1 => ?_)
  cases x with
  | true => rw [if_pos rfl]; exact GP.here g1 s1
  | false => rw [if_neg Bool.false_ne_true]; exact fb σ ρ F1 μ1 S1 H1 Q s1 (hE.mono e1 p1) g1
theorem RW.t {e : Expr} {c : BX} (h : RW T X W e c) : RT T X W e c := let ⟨t, p, f⟩ := h; ⟨t, p.pt, f⟩
theorem rt_not {e : Expr} {c : BX} {pos : Pos} (h : RT T X W e c) : RT T X W (.UnaryOp .Not e pos) (bNot c) := by
  obtain ⟨ta, pa, fa⟩ := h
  refine ⟨_, pt_not pa, fun σ ρ F μ S H Q s hE g => ?_⟩
  exact fa σ ρ F μ S H _ s hE (GP.seq g fun x F1 μ1 H1 S1 e1 p1 s1 g1 => GP.here g1 s1)
/-- as values: the first ones are bools -/
def cAnd (a b : EX) : EX := fun ρ S => bindO (a ρ S) fun x S => match x with
  | .bl true => b ρ S
  | .bl false => some (.ok (.bl false), S)
  | _ => none
def cOr (a b : EX) : EX := fun ρ S => bindO (a ρ S) fun x S => match x with
  | .bl true => some (.ok (.bl true), S)
  | .bl false => b ρ S
  | _ => none
def cNot (a : EX) : EX := fun ρ S => bindO (a ρ S) fun x S => match x with
  | .bl b => some (.ok (.bl (!b)), S)
  | _ => none
theorem re_one {e : Expr} {c : EX} {op} {pos : Pos} (h : RE T false X W e c) : RE T false X W (.BoolOp op [e] pos) c := let ⟨t, p, f⟩ := h; ⟨t, pe_one p, f⟩
theorem re_and {e e2 : Expr} {es : List Expr} {a b : EX} {pos : Pos} (h : RE T false X W e a) (h2 : RE T false X W (.BoolOp .And (e2 :: es) pos) b) : RE T false X W (.BoolOp .And (e :: e2 :: es) pos) (cAnd a b) := by
  obtain ⟨ta, pa, fa⟩ := h
  obtain ⟨tb, pb, fb⟩ := h2
  refine ⟨_, pe_and pa pb, fun σ ρ F μ S H Q s hE g => ?_⟩
  refine fa σ ρ F μ S H _ s hE (GP.seq g fun x F1 μ1 H1 S1 e1 p1 s1 g1 v rv => ?_)
  cases rv with
  | bl k =>
    refine ⟨k, rfl, ?_⟩
    cases k with
    | true => rw [if_pos rfl]; exact fb σ ρ F1 μ1 S1 H1 Q s1 (hE.mono e1 p1) g1
    | false => rw [if_neg Bool.false_ne_true]; exact gp_val g1 s1 (.bl false)
  | _ => exact g1.elim
theorem re_or {e e2 : Expr} {es : List Expr} {a b : EX} {pos : Pos} (h : RE T false X W e a) (h2 : RE T false X W (.BoolOp .Or (e2 :: es) pos) b) : RE T false X W (.BoolOp .Or (e :: e2 :: es) pos) (cOr a b) := by
  obtain ⟨ta, pa, fa⟩ := h
  obtain ⟨tb, pb, fb⟩ := h2
  refine ⟨_, pe_or pa pb, fun σ ρ F μ S H Q s hE g => ?_⟩
  refine fa σ ρ F μ S H _ s hE (GP.seq g fun x F1 μ1 H1 S1 e1 p1 s1 g1 v rv => ?_)
  cases rv with
  | bl k =>
    refine ⟨k, rfl, ?_⟩
    cases k with
    | true => rw [if_pos rfl]; exact gp_val g1 s1 (.bl true)
    | false => rw [if_neg Bool.false_ne_true]; exact fb σ ρ F1 μ1 S1 H1 Q s1 (hE.mono e1 p1) g1
  | _ => exact g1.elim
theorem re_not {e : Expr} {c : EX} {pos : Pos} (h : RE T false X W e c) : RE T false X W (.UnaryOp .Not e pos) (cNot c) := by
  obtain ⟨ta, pa, fa⟩ := h
  refine ⟨_, pe_not pa, fun σ ρ F μ S H Q s hE g => ?_⟩
  refine fa σ ρ F μ S H _ s hE (GP.seq g fun x F1 μ1 H1 S1 e1 p1 s1 g1 v rv => ?_)
  cases rv with
  | bl k => exact ⟨k, rfl, gp_val g1 s1 (.bl _)⟩
  | _ => exact g1.elim
def cIfE (c : BX) (a b : EX) : EX := fun ρ S => bindO (c ρ S) fun x S => match x with
  | true => a ρ S
  | false => b ρ S
theorem re_if {t e1 e2 : Expr} {c : BX} {a b : EX} {pos : Pos} (h : RT T X W t c) (ha : RE T fr X W e1 a) (hb : RE T fr X W e2 b) : RE T fr X W (.IfExp t e1 e2 pos) (cIfE c a b) := by
  obtain ⟨tc, pc, fc⟩ := h
  obtain ⟨ta, pa, fa⟩ := ha
  obtain ⟨tb, pb, fb⟩ := hb
  refine ⟨_, pe_ifExp pc pa pb, fun σ ρ F μ S H Q s hE g => ?_⟩
  refine fc σ ρ F μ S H _ s hE (GP.seq g fun x F1 μ1 H1 S1 e1 p1 s1 g1 => ?_)
  cases x with
  | true => rw [if_pos rfl]; exact fa σ ρ F1 μ1 S1 H1 Q s1 (hE.mono e1 p1) g1
  | false => rw [if_neg Bool.false_ne_true]; exact fb σ ρ F1 μ1 S1 H1 Q s1 (hE.mono e1 p1) g1
/-- -a -/
def oNeg : D → Store → Out D
  | .int i, S => some (.ok (.int (-i)), S)
  | _, _ => none
def cUn (o : D → Store → Out D) (a : EX) : EX := fun ρ S => bindO (a ρ S) fun x S => o x S
theorem re_neg {e : Expr} {c : EX} {pos : Pos} (h : RE T false X W e c) : RE T false X W (.UnaryOp .USub e pos) (cUn oNeg c) := by
  obtain ⟨ta, pa, fa⟩ := h
  refine ⟨_, pe_un un_neg pa, fun σ ρ F μ S H Q s hE g => ?_⟩
  refine fa σ ρ F μ S H _ s hE (GP.seq g fun x F1 μ1 H1 S1 e1 p1 s1 g1 v rv => ?_)
  cases rv with
  | int i => exact ⟨i, rfl, gp_val g1 s1 (.int _)⟩
  | _ => exact g1.elim

/-! ### argument lists, displays -/
def aNil : AX := fun _ S => some (.ok [], S)
def aCons (a : EX) (r : AX) : AX := fun ρ S => bindO (a ρ S) fun x S => bindO (r ρ S) fun xs S => some (.ok (x :: xs), S)
theorem ra_nil : RA T X W [] aNil := ⟨_, pa_nil, fun σ ρ F μ S H Q s hE g => GP.here g s [] .nil⟩
theorem acons {a : EX} {r : AX} {ta : TE} {tr : TA}
    (fa : ∀ σ ρ F μ S H Q, SR X.K T F μ S H → EnvR X.K F μ ρ σ → GP X.K T F μ (a ρ S) (OkV X.K false Q) (ErW X.K X.mg fun cls dd H' => W cls dd σ H') → ta σ H Q)
    (fr : ∀ σ ρ F μ S H Q, SR X.K T F μ S H → EnvR X.K F μ ρ σ → GP X.K T F μ (r ρ S) (OkA X.K Q) (ErW X.K X.mg fun cls dd H' => W cls dd σ H') → tr σ H Q)
    {σ ρ F μ S H Q} (s : SR X.K T F μ S H) (hE : EnvR X.K F μ ρ σ) (g : GP X.K T F μ (aCons a r ρ S) (OkA X.K Q) (ErW X.K X.mg fun cls dd H' => W cls dd σ H')) : tCons ta tr σ H Q := by
  refine fa σ ρ F μ S H _ s hE (GP.seq g fun x F1 μ1 H1 S1 e1 p1 s1 g1 v rx => ?_)
  refine fr σ ρ F1 μ1 S1 H1 _ s1 (hE.mono e1 p1) (GP.seq g1 fun xs F2 μ2 H2 S2 e2 p2 s2 g2 vs rs => ?_)
  exact GP.here g2 s2 _ (.cons (Rep.mono e2 p2 rx) rs)
theorem ra_cons {e : Expr} {es : List Expr} {a : EX} {r : AX} (h : RE T false X W e a) (hr : RA T X W es r) (hs : starEach (e :: es) X.env = (false, eval e X.env) :: starEach es X.env := by rfl) : RA T X W (e :: es) (aCons a r) := by
  obtain ⟨ta, pa, fa⟩ := h
  obtain ⟨tr, pr, fr⟩ := hr
  exact ⟨_, pa_cons pa pr hs, fun σ ρ F μ S H Q s hE g => acons fa fr s hE g⟩
theorem rk_nil : RK T X W [] aNil := ⟨_, pk_nil, fun σ ρ F μ S H Q s hE g => GP.here g s [] .nil⟩
theorem rk_cons {e : Expr} {nm : Option Str} {kpos : Pos} {es : List Keyword} {a : EX} {r : AX} (h : RE T false X W e a) (hr : RK T X W es r) : RK T X W (⟨nm, e, kpos⟩ :: es) (aCons a r) := by
  obtain ⟨ta, pa, fa⟩ := h
  obtain ⟨tr, pr, fr⟩ := hr
  exact ⟨_, pk_cons pa pr, fun σ ρ F μ S H Q s hE g => acons fa fr s hE g⟩
/-- sizes that are let -/
abbrev lim : Nat := 1000000
theorem lim_ok {n : Nat} (h : n ≤ lim) : n ≤ sizeLine := Nat.le_trans h (by decide)
def cTup (r : AX) : EX := fun ρ S => bindO (r ρ S) fun xs S => if xs.length ≤ lim then some (.ok (.tup xs), S) else none
def cLst (r : AX) : EX := fun ρ S => bindO (r ρ S) fun xs S => if xs.length ≤ lim then some (.ok (.lst xs), S) else none
theorem re_tup {es : List Expr} {x1 : Nat} {pos : Pos} {r : AX} (h : RA T X W es r) : RE T false X W (.Tuple es x1 pos) (cTup r) := by
  obtain ⟨t, p, f⟩ := h
  refine ⟨_, pe_tup p, fun σ ρ F μ S H Q s hE g => ?_⟩
  refine f σ ρ F μ S H _ s hE (GP.seq g fun xs F1 μ1 H1 S1 e1 p1 s1 g1 vs rs => ?_)
  split at g1
  · rename_i hz
    exact ⟨by rw [← rs.length]; exact lim_ok hz, gp_tup g1 s1 rs⟩
  · exact g1.elim
theorem re_lst {es : List Expr} {pos : Pos} {r : AX} (h : RA T X W es r) : RE T true X W (.List es pos) (cLst r) := by
  obtain ⟨t, p, f⟩ := h
  refine ⟨_, pe_lst p, fun σ ρ F μ S H Q s hE g => ?_⟩
  refine f σ ρ F μ S H _ s hE (GP.seq g fun xs F1 μ1 H1 S1 e1 p1 s1 g1 vs rs => ?_)
  split at g1
  · rename_i hz
    exact ⟨by rw [← rs.length]; exact lim_ok hz, gp_lst g1 s1 rs⟩
  · exact g1.elim
end
end PF
set_option Elab.async false
set_option linter.all false
set_option maxRecDepth 100000
set_option maxHeartbeats 4000000
/-! PF3: operators by data, indexes, slices, built-in functions. -/
namespace PF
open PySem L2 Evl
/-! ### sequences -/
def asL : D → Store → Option (List D)
  | .lst xs, _ => some xs
  | .loc n, S => S[n]?
  | .fz xs, _ => some xs
  | _, _ => none
def asT : D → Option (List D)
  | .tup xs => some xs
  | _ => none
def asS : D → Store → Option (List D)
  | .tup xs, _ => some xs
  | d, S => asL d S
section
variable {K : PySem.W.Frag} {T : List (Addr × Str)} {F H : Hp} {μ : List Addr} {S : Store} {d : D} {v : V} {ds : List D}
theorem asL_ok (s : SR K T F μ S H) (r : Rep K F μ d v) (h : asL d S = some ds) : ∃ a vs, v = .ref a ∧ SqL K H a vs ∧ Reps K F μ ds vs := by
  cases r with
  | lst hq rs => simp [asL] at h; subst h; exact ⟨_, _, rfl, sq_of (s.ex _ _ hq), rs⟩
  | fz hq rs => simp [asL] at h; subst h; exact ⟨_, _, rfl, s.sqL hq, rs⟩
  | loc hm =>
    simp [asL] at h
    obtain ⟨es, vs, h1, h2, h3, _⟩ := s.get hm
    rw [h1] at h; cases h
    exact ⟨_, vs, rfl, sq_of h2, h3⟩
  | _ => simp [asL] at h
theorem asT_ok (s : SR K T F μ S H) (r : Rep K F μ d v) (h : asT d = some ds) : ∃ a vs, v = .ref a ∧ SqT K H a vs ∧ Reps K F μ ds vs := by
  cases r with
  | tup hq rs => simp [asT] at h; subst h; exact ⟨_, _, rfl, s.sqT hq, rs⟩
  | _ => simp [asT] at h
theorem asS_ok (s : SR K T F μ S H) (r : Rep K F μ d v) (h : asS d S = some ds) : ∃ a vs, v = .ref a ∧ (SqL K H a vs ∨ SqT K H a vs) ∧ Reps K F μ ds vs := by
  cases r with
  | tup hq rs => simp [asS] at h; subst h; exact ⟨_, _, rfl, .inr (s.sqT hq), rs⟩
  | lst hq rs =>
    obtain ⟨a, vs, h1, h2, h3⟩ := asL_ok s (.lst hq rs) (ds := ds) (by simpa [asS] using h)
    exact ⟨a, vs, h1, .inl h2, h3⟩
  | fz hq rs =>
    obtain ⟨a, vs, h1, h2, h3⟩ := asL_ok s (.fz hq rs) (ds := ds) (by simpa [asS] using h)
    exact ⟨a, vs, h1, .inl h2, h3⟩
  | loc hm =>
    obtain ⟨a, vs, h1, h2, h3⟩ := asL_ok s (.loc hm) (ds := ds) (by simpa [asS] using h)
    exact ⟨a, vs, h1, .inl h2, h3⟩
  | _ => simp [asS, asL] at h
end
section
variable {X : Cx} {T : List (Addr × Str)}
/-! ### numbers -/
def oI (C : Int → Int → Bool) (g : Int → Int → D) : Op2 := fun x y S => match x, y with
  | .int i, .int j => if C i j = true then some (.ok (g i j), S) else none
  | _, _ => none
theorem oI_ok {C : Int → Int → Bool} {P : Int → Int → Prop} {g : Int → Int → V} {g' : Int → Int → D} (hC : ∀ i j, C i j = true → P i j) (hg : ∀ K F μ i j, Rep K F μ (g' i j) (g i j)) : OpOk X T false (rI P g) (oI C g') := by
  intro F μ S H x y v u Q er s rx ry h
  unfold oI at h
  cases rx with
  | int i =>
    cases ry with
    | int j =>
      dsimp only at h
      split at h
      · rename_i hc
        exact ⟨i, j, rfl, rfl, hC i j hc, gp_val h s (hg _ _ _ i j)⟩
      · exact h.elim
    | _ => exact h.elim
  | _ => exact h.elim
theorem oI0_ok {g : Int → Int → V} {g' : Int → Int → D} (hg : ∀ K F μ i j, Rep K F μ (g' i j) (g i j)) : OpOk X T false (rI0 g) (oI (fun _ _ => true) g') := by
  intro F μ S H x y v u Q er s rx ry h
  unfold oI at h
  cases rx with
  | int i =>
    cases ry with
    | int j => exact ⟨i, j, rfl, rfl, gp_val h s (hg _ _ _ i j)⟩
    | _ => exact h.elim
  | _ => exact h.elim
abbrev lim64 : Nat := 18446744073709551616
def oSub : Op2 := oI (fun _ _ => true) fun i j => .int (i - j)
theorem oSub_ok : OpOk X T false (rI0 fun i j => .int (i - j)) oSub := oI0_ok fun _ _ _ _ _ => .int _
def oMul : Op2 := oI (fun i j => decide (i.natAbs < lim64 ∨ j.natAbs < lim64)) fun i j => .int (i * j)
theorem oMul_ok : OpOk X T false (rI CMul fun i j => .int (i * j)) oMul := oI_ok (fun i j h => by
  have h := of_decide_eq_true h
  unfold CMul
  unfold lim64 at h
  rcases h with h | h
  · left; omega
  · right; omega) fun _ _ _ _ _ => .int _
def oDiv : Op2 := oI (fun _ j => decide (j ≠ 0 ∧ j.natAbs < 1073741824)) fun i j => .int (i.fdiv j)
theorem oDiv_ok : OpOk X T false (rI CDivN fun i j => .int (i.fdiv j)) oDiv := oI_ok (fun i j h => (of_decide_eq_true h : j ≠ 0 ∧ j.natAbs < 1073741824)) fun _ _ _ _ _ => .int _
def oMod : Op2 := oI (fun _ j => decide (j ≠ 0)) fun i j => .int (i.fmod j)
theorem oMod_ok : OpOk X T false (rI (fun _ j => j ≠ 0) fun i j => .int (i.fmod j)) oMod := oI_ok (fun i j h => of_decide_eq_true h) fun _ _ _ _ _ => .int _
def oPow : Op2 := oI (fun i j => decide (0 ≤ j ∧ j ≤ 1000 ∧ i.natAbs < lim64)) fun i j => .int (i ^ j.toNat)
theorem oPow_ok : OpOk X T false (rI CPow fun i j => .int (i ^ j.toNat)) oPow := oI_ok (fun i j h => by
  have h := of_decide_eq_true h
  unfold lim64 at h
  exact ⟨h.1, by omega, by omega⟩) fun _ _ _ _ _ => .int _
def oLt : Op2 := oI (fun _ _ => true) fun i j => .bl (decide (i < j))
theorem oLt_ok : OpOk X T false (rI0 fun i j => .bl (decide (i < j))) oLt := oI0_ok fun _ _ _ _ _ => .bl _
def oLe : Op2 := oI (fun _ _ => true) fun i j => .bl (decide (i ≤ j))
theorem oLe_ok : OpOk X T false (rI0 fun i j => .bl (decide (i ≤ j))) oLe := oI0_ok fun _ _ _ _ _ => .bl _
def oGt : Op2 := oI (fun _ _ => true) fun i j => .bl (decide (j < i))
theorem oGt_ok : OpOk X T false (rI0 fun i j => .bl (decide (j < i))) oGt := oI0_ok fun _ _ _ _ _ => .bl _
def oGe : Op2 := oI (fun _ _ => true) fun i j => .bl (decide (j ≤ i))
theorem oGe_ok : OpOk X T false (rI0 fun i j => .bl (decide (j ≤ i))) oGe := oI0_ok fun _ _ _ _ _ => .bl _
theorem OpOk.or {fr : Bool} {r r' : R2} {o o' : Op2} {o2 : Op2} (h : OpOk X T fr r o) (h' : OpOk X T fr r' o') (e : ∀ x y S, o2 x y S = o x y S ∨ o2 x y S = o' x y S) : OpOk X T fr (fun x y H Q => r x y H Q ∨ r' x y H Q) o2 := by
  intro F μ S H x y v u Q er s rx ry g
  rcases e x y S with q | q
  · rw [q] at g; exact .inl (h F μ S H x y v u Q er s rx ry g)
  · rw [q] at g; exact .inr (h' F μ S H x y v u Q er s rx ry g)
/-! ### + -/
def oAdd : Op2 := fun x y S => match x, y with
  | .int i, .int j => some (.ok (.int (i + j)), S)
  | .str i, .str j => if i.length + j.length ≤ lim then some (.ok (.str (i ++ j)), S) else none
  | .tup i, .tup j => if i.length + j.length ≤ lim then some (.ok (.tup (i ++ j)), S) else none
  | _, _ => none
def rAdd3 (K : PySem.W.Frag) : R2 := fun x y H Q => (∃ i j, x = .int i ∧ y = .int j ∧ Q (.int (i + j)) H) ∨ (∃ i j, x = .str i ∧ y = .str j ∧ i.length + j.length ≤ sizeLine ∧ Q (.str (i ++ j)) H) ∨ rCatA K x y H Q
theorem op_add3 : OpR X (binaryOp .Add) (rAdd3 X.K) := op_add.or (op_add_str.or op_catA)
theorem oAdd_ok : OpOk X T false (rAdd3 X.K) oAdd := by
  intro F μ S H x y v u Q er s rx ry h
  unfold oAdd at h
  cases rx with
  | int i =>
    cases ry with
    | int j => exact .inl ⟨i, j, rfl, rfl, gp_val h s (.int _)⟩
    | _ => exact h.elim
  | str i =>
    cases ry with
    | str j =>
      dsimp only at h
      split at h
      · rename_i hz
        exact .inr (.inl ⟨i, j, rfl, rfl, lim_ok hz, gp_val h s (.str _)⟩)
      · exact h.elim
    | _ => exact h.elim
  | @tup a xs ds h1 r1 =>
    cases ry with
    | @tup b ys es h2 r2 =>
      dsimp only at h
      split at h
      · rename_i hz
        refine .inr (.inr ⟨a, b, xs, ys, rfl, rfl, s.sqT h1, s.sqT h2, by rw [← r1.length, ← r2.length]; exact lim_ok hz, fun z => ?_, fun _ z => ?_, fun _ _ => gp_tup h s (r1.append r2)⟩)
        · subst z
          have e : ds = [] := by cases r1; rfl
          subst e
          exact gp_val h s (.tup h2 (by simpa using r2))
        · subst z
          have e : es = [] := by cases r2; rfl
          subst e
          exact gp_val h s (.tup h1 (by simpa using r1))
      · exact h.elim
    | _ => exact h.elim
  | _ => exact h.elim
/-- two lists: a new one -/
def asM : D → Store → Option (List D)
  | .lst xs, _ => some xs
  | .loc n, S => S[n]?
  | _, _ => none
theorem asM_ok {K : PySem.W.Frag} {F H : Hp} {μ : List Addr} {S : Store} {d : D} {v : V} {ds : List D} (s : SR K T F μ S H) (r : Rep K F μ d v) (h : asM d S = some ds) : ∃ a vs, v = .ref a ∧ H a = some (.lst vs) ∧ Reps K F μ ds vs := by
  cases r with
  | lst hq rs => simp [asM] at h; subst h; exact ⟨_, _, rfl, s.ex _ _ hq, rs⟩
  | loc hm =>
    simp [asM] at h
    obtain ⟨es, vs, h1, h2, h3, _⟩ := s.get hm
    rw [h1] at h; cases h
    exact ⟨_, vs, rfl, h2, h3⟩
  | _ => simp [asM] at h
def oCat : Op2 := fun x y S => match asM x S with
  | some i => (match asM y S with
    | some j => if i.length + j.length ≤ lim then some (.ok (.lst (i ++ j)), S) else none
    | none => none)
  | none => none
theorem oCat_ok : OpOk X T true rCat oCat := by
  intro F μ S H x y v u Q er s rx ry h
  unfold oCat at h
  split at h
  · rename_i i hi
    split at h
    · rename_i j hj
      split at h
      · rename_i hz
        obtain ⟨a, xs, rfl, h1, r1⟩ := asM_ok s rx hi
        obtain ⟨b, ys, rfl, h2, r2⟩ := asM_ok s ry hj
        exact ⟨a, b, xs, ys, rfl, rfl, h1, h2, by rw [← r1.length, ← r2.length]; exact lim_ok hz, gp_lst h s (r1.append r2)⟩
      · exact h.elim
    · exact h.elim
  · exact h.elim
/-- xs * k -/
def oRepL : Op2 := fun x y S => match asM x S, y with
  | some i, .int k => if k ≤ 10000 ∧ -10000 ≤ k ∧ i.length * k.toNat ≤ lim then some (.ok (.lst (List.replicate k.toNat i).flatten), S) else none
  | _, _ => none
theorem Reps.rep {K : PySem.W.Frag} {F : Hp} {μ : List Addr} {ds : List D} {vs : List V} (r : Reps K F μ ds vs) : ∀ k : Nat, Reps K F μ (List.replicate k ds).flatten (List.replicate k vs).flatten
  | 0 => .nil
  | k + 1 => by
    rw [List.replicate_succ, List.replicate_succ, List.flatten_cons, List.flatten_cons]
    exact r.append (Reps.rep r k)
theorem oRepL_ok : OpOk X T true rRep oRepL := by
  intro F μ S H x y v u Q er s rx ry h
  unfold oRepL at h
  split at h
  · rename_i i k hi
    split at h
    · rename_i hz
      obtain ⟨a, xs, rfl, h1, r1⟩ := asM_ok s rx hi
      cases ry
      exact ⟨a, k, xs, rfl, rfl, h1, by omega, by omega, by rw [← r1.length]; exact lim_ok hz.2.2, gp_lst h s (r1.rep _)⟩
    · exact h.elim
  · exact h.elim
/-! ### == -/
mutual
def D.eqv : D → D → Bool
  | .non, .non => true
  | .bl a, .bl b => a == b
  | .bl a, .int j => (if a then 1 else 0) == j
  | .int i, .bl b => i == (if b then 1 else 0)
  | .int i, .int j => i == j
  | .str x, .str y => x == y
  | .lst xs, .lst ys => D.eqvs xs ys
  | .tup xs, .tup ys => D.eqvs xs ys
  | .tpn xs, .tpn ys => D.eqvs xs ys
  | .tup xs, .tpn ys => D.eqvs xs ys
  | .tpn xs, .tup ys => D.eqvs xs ys
  | _, _ => false
def D.eqvs : List D → List D → Bool
  | [], [] => true
  | x :: xs, y :: ys => D.eqv x y && D.eqvs xs ys
  | _, _ => false
end
mutual
def D.py : D → PyData
  | .non => .none
  | .bl b => .bool b
  | .int i => .int i
  | .str x => .str x
  | .tup xs => .tuple (D.pys xs)
  | .lst xs => .list (D.pys xs)
  | .loc _ => .none
  | .fz _ => .none
  | .fn _ => .none
  | .tpn xs => .tuple (D.pys xs)
  | .dct _ => .none
def D.pys : List D → List PyData
  | [] => []
  | x :: xs => D.py x :: D.pys xs
end
mutual
theorem py_eqv : ∀ (d e : D), d.pure = true → e.pure = true → PyData.eqv d.py e.py = D.eqv d e
  | .tup xs, .tup ys, h, k => by
    rw [D.pure] at h k
    simp only [D.py, PyData.eqv, D.eqv]; exact pys_eqv xs ys h k
  | .lst xs, .lst ys, h, k => by
    rw [D.pure] at h k
    simp only [D.py, PyData.eqv, D.eqv]; exact pys_eqv xs ys h k
  | .non, e, h, k => by cases e <;> simp [D.py, PyData.eqv, D.eqv, D.pure] at k ⊢
  | .bl b, e, h, k => by cases e <;> simp [D.py, PyData.eqv, D.eqv, D.pure] at k ⊢
  | .int b, e, h, k => by cases e <;> simp [D.py, PyData.eqv, D.eqv, D.pure] at k ⊢
  | .str b, e, h, k => by cases e <;> simp [D.py, PyData.eqv, D.eqv, D.pure] at k ⊢
  | .loc n, e, h, k => by simp [D.pure] at h
  | .fz n, e, h, k => by simp [D.pure] at h
  | .fn n, e, h, k => by simp [D.pure] at h
  | .dct n, e, h, k => by simp [D.pure] at h
  | .tup xs, .dct b, h, k => by simp [D.pure] at k
  | .lst xs, .dct b, h, k => by simp [D.pure] at k
  | .tpn xs, .dct b, h, k => by simp [D.pure] at k
  | .tup xs, .fn b, h, k => by simp [D.pure] at k
  | .lst xs, .fn b, h, k => by simp [D.pure] at k
  | .tup xs, .fz b, h, k => by simp [D.pure] at k
  | .lst xs, .fz b, h, k => by simp [D.pure] at k
  | .tup xs, .non, h, k => by simp [D.py, PyData.eqv, D.eqv]
  | .tup xs, .bl b, h, k => by simp [D.py, PyData.eqv, D.eqv]
  | .tup xs, .int b, h, k => by simp [D.py, PyData.eqv, D.eqv]
  | .tup xs, .str b, h, k => by simp [D.py, PyData.eqv, D.eqv]
  | .tup xs, .lst b, h, k => by simp [D.py, PyData.eqv, D.eqv]
  | .tup xs, .loc b, h, k => by simp [D.pure] at k
  | .lst xs, .non, h, k => by simp [D.py, PyData.eqv, D.eqv]
  | .lst xs, .bl b, h, k => by simp [D.py, PyData.eqv, D.eqv]
  | .lst xs, .int b, h, k => by simp [D.py, PyData.eqv, D.eqv]
  | .lst xs, .str b, h, k => by simp [D.py, PyData.eqv, D.eqv]
  | .lst xs, .tup b, h, k => by simp [D.py, PyData.eqv, D.eqv]
  | .lst xs, .loc b, h, k => by simp [D.pure] at k
  | .tpn xs, .tpn ys, h, k => by
    rw [D.pure] at h k
    simp only [D.py, PyData.eqv, D.eqv]; exact pys_eqv xs ys h k
  | .tup xs, .tpn ys, h, k => by
    rw [D.pure] at h
    rw [D.pure] at k
    simp only [D.py, PyData.eqv, D.eqv]; exact pys_eqv xs ys h k
  | .tpn xs, .tup ys, h, k => by
    rw [D.pure] at h
    rw [D.pure] at k
    simp only [D.py, PyData.eqv, D.eqv]; exact pys_eqv xs ys h k
  | .lst xs, .tpn b, h, k => by simp [D.py, PyData.eqv, D.eqv]
  | .tpn xs, .lst b, h, k => by simp [D.py, PyData.eqv, D.eqv]
  | .tpn xs, .non, h, k => by simp [D.py, PyData.eqv, D.eqv]
  | .tpn xs, .bl b, h, k => by simp [D.py, PyData.eqv, D.eqv]
  | .tpn xs, .int b, h, k => by simp [D.py, PyData.eqv, D.eqv]
  | .tpn xs, .str b, h, k => by simp [D.py, PyData.eqv, D.eqv]
  | .tpn xs, .loc b, h, k => by simp [D.pure] at k
  | .tpn xs, .fz b, h, k => by simp [D.pure] at k
  | .tpn xs, .fn b, h, k => by simp [D.pure] at k
theorem pys_eqv : ∀ (xs ys : List D), D.pures xs = true → D.pures ys = true → PyData.eqvAll (D.pys xs) (D.pys ys) = D.eqvs xs ys
  | [], [], _, _ => by simp [D.pys, PyData.eqvAll, D.eqvs]
  | [], y :: ys, _, _ => by simp [D.pys, PyData.eqvAll, D.eqvs]
  | x :: xs, [], _, _ => by simp [D.pys, PyData.eqvAll, D.eqvs]
  | x :: xs, y :: ys, h, k => by
    simp only [D.pures, Bool.and_eq_true] at h k
    simp only [D.pys, PyData.eqvAll, D.eqvs]
    rw [py_eqv x y h.1 k.1, pys_eqv xs ys h.2 k.2]
end
/-- the datum with the store's list at its top told -/
def told (S : Store) : D → D
  | .loc n => match S[n]? with
    | some ds => .lst ds
    | none => .loc n
  | d => d
mutual
theorem dp_of {K : PySem.W.Frag} {F H : Hp} {μ : List Addr} (e : Ex F H) : ∀ {d : D} {v : V}, Rep K F μ d v → d.pure = true → Dp K H v d.py
  | _, _, .non, _ => by rw [D.py]; exact .non
  | _, _, .bl b, _ => by rw [D.py]; exact .bl b
  | _, _, .int i, _ => by rw [D.py]; exact .int i
  | _, _, .str x, _ => by rw [D.py]; exact .str x
  | _, _, .tup h r, p => by rw [D.pure] at p; rw [D.py]; exact .tup (ex_t e h) (dps_of e r p)
  | _, _, .lst h r, p => by rw [D.pure] at p; rw [D.py]; exact .lst (sq_of (e _ _ h)) (dps_of e r p)
  | _, _, .loc h, p => by simp [D.pure] at p
  | _, _, .fz h r, p => by simp [D.pure] at p
  | _, _, .fn h r, p => by simp [D.pure] at p
  | _, _, .dct h, p => by simp [D.pure] at p
  | _, _, .tpn h k r, p => by rw [D.pure] at p; rw [D.py]; exact .tup (ex_t e (.inl (.inr ⟨_, h⟩))) (dps_of e r p)
theorem dps_of {K : PySem.W.Frag} {F H : Hp} {μ : List Addr} (e : Ex F H) : ∀ {ds : List D} {vs : List V}, Reps K F μ ds vs → D.pures ds = true → DpAll K H vs (D.pys ds)
  | _, _, .nil, _ => by rw [D.pys]; exact .nil
  | _, _, .cons h r, p => by
    simp only [D.pures, Bool.and_eq_true] at p
    rw [D.pys]; exact .cons (dp_of e h p.1) (dps_of e r p.2)
end
theorem dp_told {K : PySem.W.Frag} {F H : Hp} {μ : List Addr} {S : Store} {d : D} {v : V} (s : SR K T F μ S H) (r : Rep K F μ d v) (p : (told S d).pure = true) : Dp K H v (told S d).py := by
  cases r with
  | loc hm =>
    obtain ⟨es, vs, h1, h2, h3, _⟩ := s.get hm
    simp only [told, h1] at p ⊢
    rw [D.pure] at p
    rw [D.py]
    exact .lst (sq_of h2) (dps_of s.ex h3 p)
  | tup h r => exact dp_of s.ex (.tup h r) p
  | tpn h k r => exact dp_of s.ex (.tpn h k r) p
  | lst h r => exact dp_of s.ex (.lst h r) p
  | fz h r => simp [told, D.pure] at p
  | fn h r => simp [told, D.pure] at p
  | dct h => simp [told, D.pure] at p
  | non => exact dp_of (μ := μ) s.ex .non p
  | bl b => exact dp_of (μ := μ) s.ex (.bl b) p
  | int b => exact dp_of (μ := μ) s.ex (.int b) p
  | str b => exact dp_of (μ := μ) s.ex (.str b) p
def eqOk (d : D) : Bool := d.pure && SeqAt.shaped d.py
def oEq : Op2 := fun x y S => if eqOk (told S x) = true ∧ eqOk (told S y) = true then some (.ok (.bl (D.eqv (told S x) (told S y))), S) else none
def oNe : Op2 := fun x y S => if eqOk (told S x) = true ∧ eqOk (told S y) = true then some (.ok (.bl (!D.eqv (told S x) (told S y))), S) else none
theorem oEq_ok : OpOk X T false (rEqD X.K) oEq := by
  intro F μ S H x y v u Q er s rx ry h
  unfold oEq at h
  split at h
  · rename_i hc
    obtain ⟨h1, h2⟩ := hc
    unfold eqOk at h1 h2
    rw [Bool.and_eq_true] at h1 h2
    refine ⟨_, _, dp_told s rx h1.1, dp_told s ry h2.1, h1.2, h2.2, ?_⟩
    rw [py_eqv _ _ h1.1 h2.1]
    exact gp_val h s (.bl _)
  · exact h.elim
theorem oNe_ok : OpOk X T false (rNeD X.K) oNe := by
  intro F μ S H x y v u Q er s rx ry h
  unfold oNe at h
  split at h
  · rename_i hc
    obtain ⟨h1, h2⟩ := hc
    unfold eqOk at h1 h2
    rw [Bool.and_eq_true] at h1 h2
    refine ⟨_, _, dp_told s rx h1.1, dp_told s ry h2.1, h1.2, h2.2, ?_⟩
    rw [py_eqv _ _ h1.1 h2.1]
    exact gp_val h s (.bl _)
  · exact h.elim
/-- is None, is not None -/
def oIsN : Op2 := fun x y S => match y with
  | .non => some (.ok (.bl (match x with | .non => true | _ => false)), S)
  | _ => none
def oNotN : Op2 := fun x y S => match y with
  | .non => some (.ok (.bl (match x with | .non => false | _ => true)), S)
  | _ => none
theorem oIsN_ok : OpOk X T false (fun x y H Q => y = .non ∧ Q (.bl (decide (x = .non))) H) oIsN := by
  intro F μ S H x y v u Q er s rx ry h
  unfold oIsN at h
  cases ry with
  | non =>
    refine ⟨rfl, ?_⟩
    cases rx <;> exact gp_val h s (.bl _)
  | _ => exact h.elim
theorem oNotN_ok : OpOk X T false (fun x y H Q => y = .non ∧ Q (.bl (!decide (x = .non))) H) oNotN := by
  intro F μ S H x y v u Q er s rx ry h
  unfold oNotN at h
  cases ry with
  | non =>
    refine ⟨rfl, ?_⟩
    cases rx <;> exact gp_val h s (.bl _)
  | _ => exact h.elim
/-! ### in, not in: flat things -/
def flatD : D → Bool
  | .non => true
  | .bl _ => true
  | .int _ => true
  | .str _ => true
  | _ => false
theorem flat_rep {K : PySem.W.Frag} {F : Hp} {μ : List Addr} {d : D} {v : V} (r : Rep K F μ d v) (h : flatD d = true) : flatV v = true := by cases r <;> first | rfl | cases h
theorem flats_rep {K : PySem.W.Frag} {F : Hp} {μ : List Addr} : ∀ {ds : List D} {vs : List V}, Reps K F μ ds vs → ds.all flatD = true → vs.all flatV = true
  | _, _, .nil, _ => rfl
  | _, _, .cons h r, p => by
    simp only [List.all_cons, Bool.and_eq_true] at p ⊢
    exact ⟨flat_rep h p.1, flats_rep r p.2⟩
theorem eqv_flat {K : PySem.W.Frag} {F : Hp} {μ : List Addr} {d e : D} {v u : V} (r : Rep K F μ d v) (q : Rep K F μ e u) (h : flatD d = true) (k : flatD e = true) : eqV v u = D.eqv d e := by
  cases r <;> cases q <;> first | cases h | cases k | skip
  all_goals simp [eqV, D.eqv]
theorem inV_rep {K : PySem.W.Frag} {F : Hp} {μ : List Addr} {d : D} {v : V} (r : Rep K F μ d v) (h : flatD d = true) : ∀ {ds : List D} {vs : List V}, Reps K F μ ds vs → ds.all flatD = true → inV v vs = ds.any fun e => D.eqv e d
  | _, _, .nil, _ => rfl
  | _, _, .cons h1 r1, p => by
    simp only [List.all_cons, Bool.and_eq_true] at p
    have ih := inV_rep r h r1 p.2
    unfold inV at ih ⊢
    simp only [List.any_cons, ih, eqv_flat h1 r p.1 h]
def oIn (neg : Bool) : Op2 := fun x y S => match asS y S with
  | some ds => if flatD x = true ∧ ds.all flatD = true then some (.ok (.bl (if neg then !(ds.any fun e => D.eqv e x) else ds.any fun e => D.eqv e x)), S) else none
  | none => none
theorem oIn_ok {neg : Bool} : OpOk X T false (rIn X.K neg) (oIn neg) := by
  intro F μ S H x y v u Q er s rx ry h
  unfold oIn at h
  split at h
  · rename_i ds hq
    split at h
    · rename_i hc
      obtain ⟨a, vs, rfl, h1, h2⟩ := asS_ok s ry hq
      refine ⟨a, vs, rfl, h1, flat_rep rx hc.1, flats_rep h2 hc.2, ?_⟩
      rw [inV_rep rx hc.1 h2 hc.2]
      exact gp_val h s (.bl _)
    · exact h.elim
  · exact h.elim
/-- a sign in a text -/
def oInS (neg : Bool) : Op2 := fun x y S => match x, y with
  | .str i, .str j => some (.ok (.bl (if neg then !(!(Builtin.Str.occurrences j i 0 j.length 1).isEmpty) else !(Builtin.Str.occurrences j i 0 j.length 1).isEmpty)), S)
  | _, _ => none

/-! ### indexes -/
def oIx : Op2 := fun x y S => match y with
  | .int i => (match x with
    | .str z => if z.length ≤ lim then (match atI z.cps.toList i with
      | some c => some (.ok (.str ⟨#[c]⟩), S)
      | none => none) else none
    | x => match asS x S with
      | some ds => (match atI ds i with
        | some d => some (.ok d, S)
        | none => none)
      | none => none)
  | _ => none
theorem atI_rep {K : PySem.W.Frag} {F : Hp} {μ : List Addr} {ds : List D} {vs : List V} {i : Int} {d : D} (r : Reps K F μ ds vs) (h : atI ds i = some d) : ∃ v, atI vs i = some v ∧ Rep K F μ d v := by
  unfold atI at h ⊢
  rw [← r.length]
  cases q : ixN ds.length i with
  | none => rw [q] at h; cases h
  | some j =>
    rw [q] at h
    exact r.get (i := j) (by simpa using h)
theorem oIx_ok : OpOk X T false (rIx X.K) oIx := by
  intro F μ S H x y v u Q er s rx ry h
  unfold oIx at h
  cases ry with
  | int i =>
    dsimp only at h
    split at h
    · rename_i z
      cases rx
      split at h
      · rename_i hz
        split at h
        · rename_i c hc
          exact .inr (.inr ⟨z, i, c, rfl, rfl, lim_ok hz, hc, gp_val h s (.str _)⟩)
        · exact h.elim
      · exact h.elim
    · split at h
      · rename_i ds hq
        split at h
        · rename_i d hd
          obtain ⟨a, vs, rfl, h1, h2⟩ := asS_ok s rx hq
          obtain ⟨w, e1, e2⟩ := atI_rep h2 hd
          rcases h1 with h1 | h1
          · exact .inl ⟨a, vs, i, w, rfl, rfl, h1, e1, gp_val h s e2⟩
          · exact .inr (.inl ⟨a, vs, i, w, rfl, rfl, h1, e1, gp_val h s e2⟩)
        · exact h.elim
      · exact h.elim
  | _ => exact h.elim
variable {W : WX}
theorem re_ix {e1 e2 : Expr} {a b : EX} {pos : Pos} (ha : RE T false X W e1 a) (hb : RE T false X W e2 b) (hs : PlainIx e2) : RE T false X W (.Subscript e1 e2 pos) (cBin oIx a b) := by
  obtain ⟨ta, pa, fa⟩ := ha
  obtain ⟨tb, pb, fb⟩ := hb
  exact ⟨_, pe_ix ix_seq pa pb hs, fun σ ρ F μ S H Q s hE g => two (e1 := e1) (e2 := e2) fa fb oIx_ok s hE g⟩

/-! ### slices -/
def cutL {α : Type} (xs : List α) (lo hi : Option Int) : List α := (xs.drop (HT.sIx xs.length 0 lo)).take (HT.sIx xs.length xs.length hi - HT.sIx xs.length 0 lo)
abbrev OX := Env → Store → Out (Option Int)
def RO (T : List (Addr × Str)) (X : Cx) (W : WX) (e : Option Expr) (c : OX) : Prop := ∃ t, PO X e t ∧
  ∀ σ ρ F μ S H (Q : Option Int → Hp → Prop), SR X.K T F μ S H → EnvR X.K F μ ρ σ → GP X.K T F μ (c ρ S) (fun o _ _ H' _ => Q o H') (ErW X.K X.mg fun cls dd H' => W cls dd σ H') → t σ H Q
def cNo : OX := fun _ S => some (.ok none, S)
def cPart (c : EX) : OX := fun ρ S => bindO (c ρ S) fun d S => match d with
  | .int i => some (.ok (some i), S)
  | _ => none
theorem ro_none : RO T X W none cNo := ⟨_, po_none, fun σ ρ F μ S H Q s hE g => GP.here g s⟩
theorem ro_some {e : Expr} {c : EX} (h : RE T false X W e c) : RO T X W (some e) (cPart c) := by
  obtain ⟨t, p, f⟩ := h
  refine ⟨_, po_some p, fun σ ρ F μ S H Q s hE g => f σ ρ F μ S H _ s hE (GP.seq g fun d F1 μ1 H1 S1 e1 p1 s1 g1 v r => ?_)⟩
  cases r with
  | int i => exact ⟨i, rfl, GP.here g1 s1⟩
  | _ => exact g1.elim
/-- t[lo:hi], a tuple or a text -/
def cSlice (a : EX) (lo hi : OX) : EX := fun ρ S => bindO (a ρ S) fun x S => bindO (lo ρ S) fun l S => bindO (hi ρ S) fun h S => match x with
  | .tup xs => some (.ok (.tup (cutL xs l h)), S)
  | .str z => if z.length ≤ lim then some (.ok (.str (cutS z l h)), S) else none
  | _ => none
/-- xs[lo:hi], a list: a new one -/
def cSliceL (a : EX) (lo hi : OX) : EX := fun ρ S => bindO (a ρ S) fun x S => bindO (lo ρ S) fun l S => bindO (hi ρ S) fun h S => match asL x S with
  | some xs => some (.ok (.lst (cutL xs l h)), S)
  | none => none
theorem sIx_all {n : Nat} {lo hi : Option Int} (h : HT.sIx n 0 lo = 0 ∧ HT.sIx n n hi = n) {α : Type} {xs : List α} (e : xs.length = n) : cutL xs lo hi = xs := by
  unfold cutL
  rw [e, h.1, h.2, List.drop_zero, Nat.sub_zero, ← e, List.take_length]
theorem Reps.cut {K : PySem.W.Frag} {F : Hp} {μ : List Addr} {ds : List D} {vs : List V} (r : Reps K F μ ds vs) (lo hi : Option Int) : Reps K F μ (cutL ds lo hi) (cutV vs lo hi) := by
  unfold cutL cutV
  rw [r.length]
  exact (r.drop _).take _
theorem re_slice {e : Expr} {lo hi : Option Expr} {a : EX} {cl ch : OX} {pos p2 : Pos} (ha : RE T false X W e a) (hl : RO T X W lo cl) (hh : RO T X W hi ch) : RE T false X W (.Subscript e (.Slice lo hi none p2) pos) (cSlice a cl ch) := by
  obtain ⟨ta, pa, fa⟩ := ha
  obtain ⟨tl, pl, fl⟩ := hl
  obtain ⟨th, ph, fh⟩ := hh
  refine ⟨_, pe_slice (sl_tupA.or sl_str) pa pl ph, fun σ ρ F μ S H Q s hE g => ?_⟩
  refine fa σ ρ F μ S H _ s hE (GP.seq g fun x F1 μ1 H1 S1 e1 p1 s1 g1 v rx => ?_)
  refine fl σ ρ F1 μ1 S1 H1 _ s1 (hE.mono e1 p1) (GP.seq g1 fun l F2 μ2 H2 S2 e2 p2 s2 g2 => ?_)
  refine fh σ ρ F2 μ2 S2 H2 _ s2 ((hE.mono e1 p1).mono e2 p2) (GP.seq g2 fun h F3 μ3 H3 S3 e3 p3 s3 g3 => ?_)
  have rx := Rep.mono e3 p3 (Rep.mono e2 p2 rx)
  cases rx with
  | @tup a xs ds hq rs =>
    refine .inl ⟨a, xs, rfl, s3.sqT hq, fun hw => ?_, fun _ => gp_tup g3 s3 (rs.cut _ _)⟩
    dsimp only at g3
    rw [sIx_all hw rs.length] at g3
    exact gp_val g3 s3 (.tup hq rs)
  | str z =>
    dsimp only at g3
    split at g3
    · rename_i hz
      exact .inr ⟨z, rfl, lim_ok hz, gp_val g3 s3 (.str _)⟩
    · exact g3.elim
  | _ => exact g3.elim
theorem re_sliceL {e : Expr} {lo hi : Option Expr} {a : EX} {cl ch : OX} {pos p2 : Pos} (ha : RE T false X W e a) (hl : RO T X W lo cl) (hh : RO T X W hi ch) : RE T true X W (.Subscript e (.Slice lo hi none p2) pos) (cSliceL a cl ch) := by
  obtain ⟨ta, pa, fa⟩ := ha
  obtain ⟨tl, pl, fl⟩ := hl
  obtain ⟨th, ph, fh⟩ := hh
  refine ⟨_, pe_slice sl_list pa pl ph, fun σ ρ F μ S H Q s hE g => ?_⟩
  refine fa σ ρ F μ S H _ s hE (GP.seq g fun x F1 μ1 H1 S1 e1 p1 s1 g1 v rx => ?_)
  refine fl σ ρ F1 μ1 S1 H1 _ s1 (hE.mono e1 p1) (GP.seq g1 fun l F2 μ2 H2 S2 e2 p2 s2 g2 => ?_)
  refine fh σ ρ F2 μ2 S2 H2 _ s2 ((hE.mono e1 p1).mono e2 p2) (GP.seq g2 fun h F3 μ3 H3 S3 e3 p3 s3 g3 => ?_)
  have rx := Rep.mono e3 p3 (Rep.mono e2 p2 rx)
  split at g3
  · rename_i xs hq
    obtain ⟨a, vs, rfl, h1, h2⟩ := asL_ok s3 rx hq
    exact ⟨a, vs, rfl, h1, gp_lst g3 s3 (h2.cut _ _)⟩
  · exact g3.elim

/-! ### built-in functions -/
abbrev OpB := List D → Store → Out D
def BltOk (X : Cx) (T : List (Addr × Str)) (fr : Bool) (r : List V → Hp → VK → Prop) (o : OpB) : Prop := ∀ F μ S H ds vs Q er, SR X.K T F μ S H → Reps X.K F μ ds vs → GP X.K T F μ (o ds S) (OkV X.K fr Q) er → r vs H Q
def cBlt (o : OpB) (r : AX) : EX := fun ρ S => bindO (r ρ S) fun ds S => o ds S
section
variable {x : Str} {p pos : Pos} {e : Expr} {es : List Expr} {c : AX} {fr : Bool} {id Ty : String} {r : List V → Hp → VK → Prop} {o : OpB}
theorem re_callB (hc : CallR X (.builtin id) r) (ho : BltOk X T fr r o) (hm : X.mg x = none) (hv : bootBuiltins x = some (.builtin id)) (ha : RA T X W (e :: es) c) (hg : Gl X x := by rfl) (hn : x ≠ "__name__" := by decide) (hdb : (x == ("__debug__" : Str)) = false := by decide)
    (he : starEach (e :: es) X.env = (false, eval e X.env) :: starEach es X.env := by rfl) (hpl : (backTo pos (starEach es X.env)).any (·.1) = false := by rfl) : RE T fr X W (.Call (.Name x p) (e :: es) [] pos) (cBlt o c) := by
  obtain ⟨t, pa, f⟩ := ha
  exact ⟨_, pe_callB hc hg hm hv pa hn hdb he hpl, fun σ ρ F μ S H Q s hE g => f σ ρ F μ S H _ s hE (GP.seq g fun ds F1 μ1 H1 S1 e1 p1 s1 g1 vs rs => ho F1 μ1 S1 H1 ds vs Q _ s1 rs g1)⟩
theorem re_callTy (hc : CallR X (.type Ty) r) (ho : BltOk X T fr r o) (hm : X.mg x = none) (hv : bootBuiltins x = some (.type Ty)) (ha : RA T X W (e :: es) c) (hg : Gl X x := by rfl) (hn : x ≠ "__name__" := by decide) (hdb : (x == ("__debug__" : Str)) = false := by decide)
    (he : starEach (e :: es) X.env = (false, eval e X.env) :: starEach es X.env := by rfl) (hpl : (backTo pos (starEach es X.env)).any (·.1) = false := by rfl) : RE T fr X W (.Call (.Name x p) (e :: es) [] pos) (cBlt o c) := by
  obtain ⟨t, pa, f⟩ := ha
  exact ⟨_, pe_callTy hc hg hm hv pa hn hdb he hpl, fun σ ρ F μ S H Q s hE g => f σ ρ F μ S H _ s hE (GP.seq g fun ds F1 μ1 H1 S1 e1 p1 s1 g1 vs rs => ho F1 μ1 S1 H1 ds vs Q _ s1 rs g1)⟩
end
def bLen : OpB := fun ds S => match ds with
  | [.str z] => if z.length ≤ lim then some (.ok (.int z.length), S) else none
  | [d] => (match asS d S with
    | some xs => some (.ok (.int xs.length), S)
    | none => none)
  | _ => none
theorem Reps.inv1 {K : PySem.W.Frag} {F : Hp} {μ : List Addr} {d : D} {vs : List V} (h : Reps K F μ [d] vs) : ∃ v, vs = [v] ∧ Rep K F μ d v := by
  cases h with
  | cons h r => cases r; exact ⟨_, rfl, h⟩
theorem Reps.inv2 {K : PySem.W.Frag} {F : Hp} {μ : List Addr} {d e : D} {vs : List V} (h : Reps K F μ [d, e] vs) : ∃ v u, vs = [v, u] ∧ Rep K F μ d v ∧ Rep K F μ e u := by
  cases h with
  | cons h r =>
    obtain ⟨u, rfl, h2⟩ := r.inv1
    exact ⟨_, u, rfl, h, h2⟩
theorem bLen_ok : BltOk X T false (fun xs H Q => ∃ x n, xs = [x] ∧ LenV X.K x H n ∧ Q (.int n) H) bLen := by
  intro F μ S H ds vs Q er s rs h
  unfold bLen at h
  split at h
  · rename_i z
    obtain ⟨v, rfl, r⟩ := rs.inv1
    cases r
    split at h
    · rename_i hz
      exact ⟨_, z.length, rfl, ⟨lim_ok hz, rfl⟩, gp_val h s (.int _)⟩
    · exact h.elim
  · rename_i d _
    obtain ⟨v, rfl, r⟩ := rs.inv1
    split at h
    · rename_i xs hq
      obtain ⟨a, ws, rfl, h1, h2⟩ := asS_ok s r hq
      refine ⟨_, xs.length, rfl, ?_, gp_val h s (.int _)⟩
      rcases h1 with h1 | h1
      · exact .inl ⟨ws, h1, h2.length⟩
      · exact .inr ⟨ws, h1, h2.length⟩
    · exact h.elim
  · exact h.elim
def bAbs : OpB := fun ds S => match ds with
  | [.int i] => some (.ok (.int (if i < 0 then -i else i)), S)
  | _ => none
theorem bAbs_ok : BltOk X T false (fun xs H Q => ∃ i, xs = [.int i] ∧ Q (.int (if i < 0 then -i else i)) H) bAbs := by
  intro F μ S H ds vs Q er s rs h
  unfold bAbs at h
  split at h
  · obtain ⟨v, rfl, r⟩ := rs.inv1
    cases r
    exact ⟨_, rfl, gp_val h s (.int _)⟩
  · exact h.elim
def bInt : OpB := fun ds S => match ds with
  | [.int i] => some (.ok (.int i), S)
  | [.bl k] => some (.ok (.int (if k then 1 else 0)), S)
  | _ => none
theorem bInt_ok : BltOk X T false (fun xs H Q => (∃ i, xs = [.int i] ∧ Q (.int i) H) ∨ ∃ k, xs = [.bl k] ∧ Q (.int (if k then 1 else 0)) H) bInt := by
  intro F μ S H ds vs Q er s rs h
  unfold bInt at h
  split at h
  · obtain ⟨v, rfl, r⟩ := rs.inv1
    cases r
    exact .inl ⟨_, rfl, gp_val h s (.int _)⟩
  · obtain ⟨v, rfl, r⟩ := rs.inv1
    cases r
    exact .inr ⟨_, rfl, gp_val h s (.int _)⟩
  · exact h.elim
def bMin2 : OpB := fun ds S => match ds with
  | [.int i, .int j] => some (.ok (.int (if j < i then j else i)), S)
  | _ => none
def bMax2 : OpB := fun ds S => match ds with
  | [.int i, .int j] => some (.ok (.int (if j > i then j else i)), S)
  | _ => none
theorem bMin2_ok : BltOk X T false (fun xs H Q => ∃ i j, xs = [.int i, .int j] ∧ Q (.int (if j < i then j else i)) H) bMin2 := by
  intro F μ S H ds vs Q er s rs h
  unfold bMin2 at h
  split at h
  · obtain ⟨v, u, rfl, r1, r2⟩ := rs.inv2
    cases r1; cases r2
    exact ⟨_, _, rfl, gp_val h s (.int _)⟩
  · exact h.elim
theorem bMax2_ok : BltOk X T false (fun xs H Q => ∃ i j, xs = [.int i, .int j] ∧ Q (.int (if j > i then j else i)) H) bMax2 := by
  intro F μ S H ds vs Q er s rs h
  unfold bMax2 at h
  split at h
  · obtain ⟨v, u, rfl, r1, r2⟩ := rs.inv2
    cases r1; cases r2
    exact ⟨_, _, rfl, gp_val h s (.int _)⟩
  · exact h.elim
/-- lists of ints, of bools -/
def intsOf : List D → Option (List Int)
  | [] => some []
  | .int i :: ds => (intsOf ds).map (i :: ·)
  | _ => none
def blsOf : List D → Option (List Bool)
  | [] => some []
  | .bl i :: ds => (blsOf ds).map (i :: ·)
  | _ => none
theorem ints_rep {K : PySem.W.Frag} {F : Hp} {μ : List Addr} : ∀ {ds : List D} {vs : List V} {ns : List Int}, Reps K F μ ds vs → intsOf ds = some ns → vs = ns.map V.int
  | _, _, _, .nil, h => by simp [intsOf] at h; subst h; rfl
  | _, _, _, .cons h1 r, h => by
    cases h1 with
    | int i =>
      simp only [intsOf, Option.map_eq_some_iff] at h
      obtain ⟨ms, h2, rfl⟩ := h
      rw [ints_rep r h2]; rfl
    | _ => simp [intsOf] at h
theorem bls_rep {K : PySem.W.Frag} {F : Hp} {μ : List Addr} : ∀ {ds : List D} {vs : List V} {ns : List Bool}, Reps K F μ ds vs → blsOf ds = some ns → vs = ns.map V.bl
  | _, _, _, .nil, h => by simp [blsOf] at h; subst h; rfl
  | _, _, _, .cons h1 r, h => by
    cases h1 with
    | bl i =>
      simp only [blsOf, Option.map_eq_some_iff] at h
      obtain ⟨ms, h2, rfl⟩ := h
      rw [bls_rep r h2]; rfl
    | _ => simp [blsOf] at h
theorem reps_ints {K : PySem.W.Frag} {F : Hp} {μ : List Addr} : ∀ (ns : List Int), Reps K F μ (ns.map D.int) (ns.map V.int)
  | [] => .nil
  | n :: ns => .cons (.int n) (reps_ints ns)
/-- a list by its ints -/
def bL1 {α : Type} (of : List D → Option (List α)) (g : List α → Option D) : OpB := fun ds S => match ds with
  | [d] => (match asL d S with
    | some xs => (match of xs with
      | some ns => (match g ns with
        | some z => some (.ok z, S)
        | none => none)
      | none => none)
    | none => none)
  | _ => none
theorem bL1_ok {α : Type} {of : List D → Option (List α)} {g : List α → Option D} {F : Hp} {μ : List Addr} {S : Store} {H : Hp} {ds : List D} {vs : List V} {fr : Bool} {Q : VK} {er}
    (s : SR X.K T F μ S H) (rs : Reps X.K F μ ds vs) (h : GP X.K T F μ (bL1 of g ds S) (OkV X.K fr Q) er) :
    ∃ a ws xs ns z, vs = [.ref a] ∧ SqL X.K H a ws ∧ Reps X.K F μ xs ws ∧ of xs = some ns ∧ g ns = some z ∧ GP X.K T F μ (some (.ok z, S)) (OkV X.K fr Q) er := by
  unfold bL1 at h
  split at h
  · obtain ⟨v, rfl, r⟩ := rs.inv1
    split at h
    · rename_i xs hq
      split at h
      · rename_i ns hn
        split at h
        · rename_i z hz
          obtain ⟨a, ws, rfl, h1, h2⟩ := asL_ok s r hq
          exact ⟨a, ws, xs, ns, z, rfl, h1, h2, hn, hz, h⟩
        · exact h.elim
      · exact h.elim
    · exact h.elim
  · exact h.elim
def bSum : OpB := bL1 intsOf fun ns => some (.int ns.sum)
theorem bSum_ok : BltOk X T false (rSum X.K) bSum := by
  intro F μ S H ds vs Q er s rs h
  obtain ⟨a, ws, xs, ns, z, rfl, h1, h2, h3, h4, h5⟩ := bL1_ok s rs h
  cases h4
  rw [ints_rep h2 h3] at h1
  exact ⟨a, ns, rfl, h1, gp_val h5 s (.int _)⟩
def bAll : OpB := bL1 blsOf fun ns => some (.bl (ns.all id))
theorem bAll_ok : BltOk X T false (rAll X.K) bAll := by
  intro F μ S H ds vs Q er s rs h
  obtain ⟨a, ws, xs, ns, z, rfl, h1, h2, h3, h4, h5⟩ := bL1_ok s rs h
  cases h4
  rw [bls_rep h2 h3] at h1
  exact ⟨a, ns, rfl, h1, gp_val h5 s (.bl _)⟩
def bAny : OpB := bL1 blsOf fun ns => some (.bl (ns.any id))
theorem bAny_ok : BltOk X T false (rAny X.K) bAny := by
  intro F μ S H ds vs Q er s rs h
  obtain ⟨a, ws, xs, ns, z, rfl, h1, h2, h3, h4, h5⟩ := bL1_ok s rs h
  cases h4
  rw [bls_rep h2 h3] at h1
  exact ⟨a, ns, rfl, h1, gp_val h5 s (.bl _)⟩
def bMax : OpB := bL1 intsOf fun ns => ns.max?.map D.int
def bMin : OpB := bL1 intsOf fun ns => ns.min?.map D.int
theorem bMax_ok : BltOk X T false (rMax X.K) bMax := by
  intro F μ S H ds vs Q er s rs h
  obtain ⟨a, ws, xs, ns, z, rfl, h1, h2, h3, h4, h5⟩ := bL1_ok s rs h
  rw [Option.map_eq_some_iff] at h4
  obtain ⟨m, h6, rfl⟩ := h4
  rw [ints_rep h2 h3] at h1
  obtain ⟨q1, q2⟩ := List.max?_eq_some_iff.mp h6
  refine ⟨a, ns, rfl, h1, List.length_pos_of_mem q1, fun m' k1 k2 => ?_⟩
  have e : m' = m := Int.le_antisymm (q2 m' k1) (k2 m q1)
  subst e
  exact gp_val h5 s (.int _)
theorem bMin_ok : BltOk X T false (rMin X.K) bMin := by
  intro F μ S H ds vs Q er s rs h
  obtain ⟨a, ws, xs, ns, z, rfl, h1, h2, h3, h4, h5⟩ := bL1_ok s rs h
  rw [Option.map_eq_some_iff] at h4
  obtain ⟨m, h6, rfl⟩ := h4
  rw [ints_rep h2 h3] at h1
  obtain ⟨q1, q2⟩ := List.min?_eq_some_iff.mp h6
  refine ⟨a, ns, rfl, h1, List.length_pos_of_mem q1, fun m' k1 k2 => ?_⟩
  have e : m' = m := Int.le_antisymm (k2 m q1) (q2 m' k1)
  subst e
  exact gp_val h5 s (.int _)
/-- sorted ints -/
def insI (x : Int) : List Int → List Int
  | [] => [x]
  | y :: ys => if x ≤ y then x :: y :: ys else y :: insI x ys
def sortI : List Int → List Int
  | [] => []
  | x :: xs => insI x (sortI xs)
theorem insI_perm (x : Int) : ∀ ys, (insI x ys).Perm (x :: ys)
  | [] => .refl _
  | y :: ys => by
    unfold insI
    split
    · exact .refl _
    · exact ((insI_perm x ys).cons y).trans (.swap x y ys)
theorem sortI_perm : ∀ xs, (sortI xs).Perm xs
  | [] => .refl _
  | x :: xs => (insI_perm x _).trans ((sortI_perm xs).cons x)
theorem insI_sorted (x : Int) : ∀ {ys : List Int}, ys.Pairwise (· ≤ ·) → (insI x ys).Pairwise (· ≤ ·)
  | [], _ => by simp [insI]
  | y :: ys, h => by
    unfold insI
    split
    · rename_i hxy
      rw [List.pairwise_cons] at h ⊢
      refine ⟨fun z hz => ?_, List.pairwise_cons.mpr h⟩
      rcases List.mem_cons.mp hz with e | hz
      · rw [e]; exact hxy
      · exact Int.le_trans hxy (h.1 z hz)
    · rename_i hxy
      rw [List.pairwise_cons] at h ⊢
      refine ⟨fun z hz => ?_, insI_sorted x h.2⟩
      rcases List.mem_cons.mp ((insI_perm x ys).mem_iff.mp hz) with e | hz
      · rw [e]; omega
      · exact h.1 z hz
theorem sortI_sorted : ∀ xs, (sortI xs).Pairwise (· ≤ ·)
  | [] => .nil
  | x :: xs => insI_sorted x (sortI_sorted xs)
theorem sorted_unique {xs ys : List Int} (h : xs.Perm ys) (h1 : xs.Pairwise (· ≤ ·)) (h2 : ys.Pairwise (· ≤ ·)) : xs = ys :=
  h.eq_of_pairwise (fun a b _ _ h1 h2 => Int.le_antisymm h1 h2) h1 h2
def bSorted : OpB := bL1 intsOf fun ns => some (.lst ((sortI ns).map D.int))
theorem bSorted_ok : BltOk X T true (rSortedI X.K) bSorted := by
  intro F μ S H ds vs Q er s rs h
  obtain ⟨a, ws, xs, ns, z, rfl, h1, h2, h3, h4, h5⟩ := bL1_ok s rs h
  cases h4
  rw [ints_rep h2 h3] at h1
  refine ⟨a, ns, rfl, h1, fun ns' p k1 k2 hp => ?_⟩
  have e : ns' = sortI ns := sorted_unique (k1.trans (sortI_perm ns).symm) k2 (sortI_sorted ns)
  subst e
  exact gp_lst h5 s (reps_ints _) p hp
/-- list(xs), tuple(xs) -/
def bList : OpB := fun ds S => match ds with
  | [d] => (match asS d S with
    | some xs => some (.ok (.lst xs), S)
    | none => none)
  | _ => none
def bTuple : OpB := fun ds S => match ds with
  | [d] => (match asS d S with
    | some xs => some (.ok (.tup xs), S)
    | none => none)
  | _ => none
theorem bList_ok : BltOk X T true (fun xs H Q => ∃ p ys, xs = [.ref p] ∧ (SqL X.K H p ys ∨ SqT X.K H p ys) ∧ ∀ l, H l = none → Q (.ref l) (upd H l (.lst ys))) bList := by
  intro F μ S H ds vs Q er s rs h
  unfold bList at h
  split at h
  · obtain ⟨v, rfl, r⟩ := rs.inv1
    split at h
    · rename_i xs hq
      obtain ⟨a, ws, rfl, h1, h2⟩ := asS_ok s r hq
      exact ⟨a, ws, rfl, h1, gp_lst h s h2⟩
    · exact h.elim
  · exact h.elim
theorem bTuple_ok : BltOk X T false (fun xs H Q => ∃ p ys, xs = [.ref p] ∧ ((SqL X.K H p ys ∧ ∀ l, H l = none → Q (.ref l) (upd H l (.tup ys))) ∨ (SqT X.K H p ys ∧ Q (.ref p) H))) bTuple := by
  intro F μ S H ds vs Q er s rs h
  unfold bTuple at h
  split at h
  · obtain ⟨v, rfl, r⟩ := rs.inv1
    split at h
    · rename_i xs hq
      cases r with
      | @tup a ws es hT r2 =>
        simp [asS] at hq
        subst hq
        exact ⟨a, ws, rfl, .inr ⟨s.sqT hT, gp_val h s (.tup hT r2)⟩⟩
      | lst hl r2 =>
        obtain ⟨a, ws, e, h1, h2⟩ := asL_ok s (.lst hl r2) (ds := xs) (by simpa [asS] using hq)
        cases e
        exact ⟨_, ws, rfl, .inl ⟨h1, gp_tup h s h2⟩⟩
      | fz hl r2 =>
        obtain ⟨a, ws, e, h1, h2⟩ := asL_ok s (.fz hl r2) (ds := xs) (by simpa [asS] using hq)
        cases e
        exact ⟨_, ws, rfl, .inl ⟨h1, gp_tup h s h2⟩⟩
      | loc hl =>
        obtain ⟨a, ws, e, h1, h2⟩ := asL_ok s (.loc hl) (ds := xs) (by simpa [asS] using hq)
        cases e
        exact ⟨_, ws, rfl, .inl ⟨h1, gp_tup h s h2⟩⟩
      | _ => simp [asS, asL] at hq
    · exact h.elim
  · exact h.elim
def bDivmod : OpB := fun ds S => match ds with
  | [.int i, .int j] => if 0 < j ∧ j < 1073741824 then some (.ok (.tup [.int (i / j), .int (i % j)]), S) else none
  | _ => none
theorem bDivmod_ok : BltOk X T false (fun xs H Q => ∃ i j, xs = [.int i, .int j] ∧ CDiv i j ∧ ∀ p, H p = none → Q (.ref p) (upd H p (.tup [.int (i / j), .int (i % j)]))) bDivmod := by
  intro F μ S H ds vs Q er s rs h
  unfold bDivmod at h
  split at h
  · obtain ⟨v, u, rfl, r1, r2⟩ := rs.inv2
    cases r1; cases r2
    split at h
    · rename_i hc
      exact ⟨_, _, rfl, hc, gp_tup h s (.cons (.int _) (.cons (.int _) .nil))⟩
    · exact h.elim
  · exact h.elim
/-! isinstance of the built-in types -/
inductive Ty where | int | bool | str | tuple | list | dict
def Ty.nm : Ty → String
  | .int => "int" | .bool => "bool" | .str => "str" | .tuple => "tuple" | .list => "list" | .dict => "dict"
def isTy : D → Ty → Bool
  | .int _, .int => true
  | .bl _, .int => true
  | .bl _, .bool => true
  | .str _, .str => true
  | .tup _, .tuple => true
  | .tpn _, .tuple => true
  | .lst _, .list => true
  | .loc _, .list => true
  | .fz _, .list => true
  | _, _ => false
def tyNm : D → String
  | .non => "NoneType" | .bl _ => "bool" | .int _ => "int" | .str _ => "str" | .tup _ => "tuple" | .lst _ => "list" | .loc _ => "list" | .fz _ => "list" | .fn _ => "function" | .tpn _ => "tuple" | .dct _ => "dict"
def D.isFn : D → Bool
  | .fn _ => true
  | .dct _ => true
  | _ => false
theorem kit_is (d : D) (t : Ty) (hf : d.isFn = false) : kitB (tyNm d) t.nm = some (isTy d t) := by
  cases d <;> first | (cases hf; done) | (cases t <;> (dsimp only [tyNm, isTy, Ty.nm]; decide +kernel))
theorem tyx_of {K : PySem.W.Frag} {F H : Hp} {μ : List Addr} {S : Store} {d : D} {v : V} (s : SR K T F μ S H) (r : Rep K F μ d v) (hf : d.isFn = false) : TyX K H v (.type (tyNm d)) := by
  cases r with
  | fn h _ => cases hf
  | dct h => cases hf
  | tpn h _ _ => exact .fTuple (s.ex _ _ h)
  | non => exact .base .non
  | bl b => exact .base (.bl b)
  | int i => exact .base (.int i)
  | str x => exact .base (.str x)
  | tup h _ =>
    rcases h with (h | ⟨o, h⟩) | ⟨o, its, n, h1, h2, _⟩
    · exact .base (.tup (s.ex _ _ h))
    · exact .fTuple (s.ex _ _ h)
    · exact .kTuple h1 h2
  | lst h _ => exact .base (.lst (s.ex _ _ h))
  | fz h _ =>
    rcases h with (h | ⟨o, h⟩) | ⟨o, its, n, h1, h2, _⟩
    · exact .base (.lst (s.ex _ _ h))
    · exact .base (.frz (s.ex _ _ h))
    · exact .kList h1 h2
  | loc hm =>
    obtain ⟨es, vs, h1, h2, _⟩ := s.get hm
    exact .base (.lst h2)
def cIsi (t : Ty) (a : EX) : EX := fun ρ S => bindO (a ρ S) fun x S => if x.isFn = false then some (.ok (.bl (isTy x t)), S) else none
theorem re_isi {t : Ty} {tn : Str} {e : Expr} {a : EX} {p p2 pos : Pos} (ha : RE T false X W e a) (hm : X.mg "isinstance" = none) (hmt : X.mg tn = none) (hbt : bootBuiltins tn = some (.type t.nm)) (hg : Gl X "isinstance" := by rfl) (hgt : Gl X tn := by rfl)
    (hdt : (tn == ("__debug__" : Str)) = false := by decide) (hnt : tn ≠ "__name__" := by decide)
    (he : starEach [e, .Name tn p2] X.env = (false, eval e X.env) :: starEach [.Name tn p2] X.env := by rfl) (hpl : (backTo pos (starEach [.Name tn p2] X.env)).any (·.1) = false := by rfl) :
    RE T false X W (.Call (.Name "isinstance" p) [e, .Name tn p2] [] pos) (cIsi t a) := by
  obtain ⟨ta, pa, fa⟩ := ha
  refine ⟨_, pe_callB call_isi hg hm (by decide +kernel) (pa_cons pa (pa_cons (pe_bltn (v := .ty t.nm) hgt hmt hbt rfl hnt hdt) pa_nil) he) (by decide) (by decide) he hpl, fun σ ρ F μ S H Q s hE g => ?_⟩
  refine fa σ ρ F μ S H _ s hE (GP.seq g fun x F1 μ1 H1 S1 e1 p1 s1 g1 v rx => ?_)
  split at g1
  · rename_i hf
    exact ⟨v, .ty t.nm, _, _, isTy x t, rfl, .ty _, tyx_of s1 rx hf, kit_ty (kit_is x t hf), gp_val g1 s1 (.bl _)⟩
  · exact g1.elim
end
end PF
set_option Elab.async false
set_option linter.all false
set_option maxRecDepth 100000
set_option maxHeartbeats 4000000
/-! PF4: what a def promises (told while no text of an object is under way: the repr of data needs that), calls, repr. -/
namespace PF
open PySem L2 Evl PySem.Spec PyProof.Rows
/-- like the layer's FnOk, asked where no repr is running -/
structure FnG (P : Program) (w : World) (K : PySem.W.Frag) (mg : Str → Option Value) (base : Heap) (k : Nat) (f : Addr) (fd : FuncData) (ps : List Str) (sp : Sp) : Prop where
  len : ∀ vs H Q E, sp vs H Q E → vs.length = ps.length
  run : ∀ (A : Around) (outer : List PySem.Env) (s : Shared) (H : Hp) (args : Args) (us : List Value) (vs : List V) (Q : VK) (E : XK), Room k A → A.guards = some [] →
    Env0 P w K mg base A outer s H → BindsTo s fd args (ps.zip us) → Vals vs us → sp vs H Q E → codeAny (model P w) A (.call (.ref f) args) (CR (L2.CX P w) outer P w H s Q E) s
section
variable {P : Program} {w : World} {K : PySem.W.Frag} {mg : Str → Option Value} {base : Heap} {f : Addr} {ps : List Str} {sp : Sp} {k : Nat}
theorem FnG.mono {fd : FuncData} {j : Nat} (F : FnG P w K mg base j f fd ps sp) (h : j ≤ k) : FnG P w K mg base k f fd ps sp :=
  { len := F.len, run := fun A outer s H args us vs Q E r => F.run A outer s H args us vs Q E (Room.mono r h) }
/-- a def of the text, by its body -/
theorem fn_gT {x qual : Str} {params : Arguments} {body : List Stmt} {scope : Scope} {dvs : List V} {kws : List (Str × V)} {fd : FuncData} {N : List Str} (D : FunD K x qual params body scope dvs kws f fd) (sc : FnScope N ps scope) (hl : ∀ vs H Q E, sp vs H Q E → vs.length = ps.length)
    (bd : ∀ (cdv : Value) (A : Around) (outer : List PySem.Env) (s : Shared) (H : Hp) (vs : List V) (Q : VK) (E : XK), fd.code = cdv → Room k (A.deeper (envOfC qual scope s.heap.objs.size f cdv)) → A.guards = some [] → sp vs H Q E →
      ∃ t, PSs (cxOf (L2.CX P w) P w K mg base N qual scope f cdv A outer s H E) body t ∧ t { nx := fun _ H' => Q .non H', rt := Q } (start N vs) H) : FnG P w K mg base (k + 1) f fd ps sp := by
  obtain ⟨oc, od, dV, kV, doc, pm, an, cdv, ct, osl, rfl, lk, hcode, _, _⟩ := D.ex
  refine ⟨hl, fun A outer s H args us vs Q E room gu env bi rel want => ?_⟩
  have inK : K.In s.heap := PySem.W.Frag.In.keeps env.mod.kin fun b o q => (env.bs b o q).1
  have nolim : s.heap.NoLimit := Heap.NoLimit.keeps env.mod.nolimit fun b o q => (env.bs b o q).1
  have kinds : ∀ z ∈ ps.zip us, scope.names.lookup z.1 = some .local ∨ (scope.names.lookup z.1 = some .cell ∧ ((cellsFrom (s.heap.objs.size + 1) scope.names []).lookup z.1).isSome = true) := by
    rintro ⟨n, v⟩ hz
    have hn : n ∈ ps := (List.of_mem_zip hz).1
    cases sc.par n hn with
    | inl q => exact Or.inl q
    | inr q => exact Or.inr ⟨q, PySem.W.cellsFrom_some _ _ _ (Or.inl q)⟩
  refine codeAny_call_function room.depth (inK _ _ lk) rfl sc.co sc.gen rfl (PySem.W.codeRec_of inK hcode) (bi _ _ _ _ ?_)
  refine wpAny_newFunctionEnv_cells sc.kind kinds fun env' he s1 hs1 => ?_
  subst he
  refine ⟨Heap.NoLimit.keeps nolim hs1.toInCall.keep, codeAny_func ?_⟩
  obtain ⟨t, pt, rd⟩ := bd cdv A outer s H vs Q E rfl (Room.deeper room _) gu want
  have I0 := inv_start (CX := L2.CX P w) (mg := mg) (qual := qual) (f := f) (cd := cdv) (E := E) sc room.hd env (hl _ _ _ _ want) rel hs1
  refine wpAny_mono (pt.run [] s1 _ H _ I0 rd) ?_ (fun e s' q => q)
  intro fl s' q
  have close : ∀ (σ' : L2.St) (H' : Hp) (v : V) (u : Value), Inv (cxOf (L2.CX P w) P w K mg base N qual scope f cdv A outer s H E) [] σ' H' s' → RelV v u → Q v H' → CE outer P w H s Q u s' :=
    fun σ' H' v u J rv qq => Exists.intro v (Exists.intro H' ⟨J.os, J.bare, J.base, J.hok, rv, qq⟩)
  match fl, q with
  | .ret u, ⟨v, σ', H', J, rv, qq⟩ => exact close σ' H' v u J rv qq
  | .next, ⟨σ', H', J, qq⟩ => exact close σ' H' .non Value.none J rfl qq
  | .brk, ⟨_, _, _, z⟩ => exact z.elim
  | .cont, ⟨_, _, _, z⟩ => exact z.elim
end
/-- the callee runs -/
theorem run_g {X : Cx} {k : Nat} {f : Addr} {fd : FuncData} {ps : List Str} {sp : Sp} {E : XK} {pins : List (Addr × Obj)} {σ : L2.St} {H : Hp} {s : Shared} {Q : VK} {pos us : List Value} {kw : List (Str × Value)} {vs : List V}
    (F : FnG X.prog X.w X.K X.mg X.base k f fd ps sp) (hr : Room k X.A) (hg : X.A.guards = some []) (hb : BindsTo s fd ⟨pos, kw⟩ (ps.zip us)) (hx : PassesAt (L2.CX X.prog X.w) X σ E) (I : Inv X pins σ H s) (r : Vals vs us) (h : sp vs H Q E) :
    wpAny (model X.prog X.w) X.A (call (.ref f) pos kw) (EP X pins σ Q) X.xe s := by
  refine wpAny_call (codeAny_mono (F.run X.A X.stack s H ⟨pos, kw⟩ us vs Q E hr hg I.env0 hb r h) ?_)
  intro r s' q
  match r, q with
  | .error e, q => exact hx pins H s e s' I q
  | .ok (.ret u), q => exact Inv.after I q
  | .ok .next, q => exact q.elim
  | .ok .brk, q => exact q.elim
  | .ok .cont, q => exact q.elim

/-! ### the promise by a function of data -/
def spOf (K : PySem.W.Frag) (mg : Str → Option Value) (T : List (Addr × Str)) (fr : Bool) (n : Nat) (f : OpB) : Sp := fun vs H Q E =>
  ∃ F μ S ds, SR K T F μ S H ∧ Reps K F μ ds vs ∧ vs.length = n ∧ GP K T F μ (f ds S) (OkV K fr Q) (ErW K mg E)
/-- the def x of the module (no defaults) does f -/
structure DefG (P : Program) (w : World) (K : PySem.W.Frag) (mg : Str → Option Value) (base : Heap) (T : List (Addr × Str)) (k : Nat) (x : Str) (params : Arguments) (body : List Stmt) (scope : Scope) (ps : List Str) (fr : Bool) (o : OpB) : Prop where
  ex : ∃ f fd, FunD K x x params body scope [] [] f fd ∧ mg x = some (.ref f) ∧ FnG P w K mg base k f fd ps (spOf K mg T fr ps.length o)
theorem DefG.mono {P : Program} {w : World} {K : PySem.W.Frag} {mg : Str → Option Value} {base : Heap} {T : List (Addr × Str)} {j k : Nat} {x : Str} {params : Arguments} {body : List Stmt} {scope : Scope} {ps : List Str} {fr : Bool} {o : OpB}
    (h : DefG P w K mg base T j x params body scope ps fr o) (l : j ≤ k) : DefG P w K mg base T k x params body scope ps fr o := by
  obtain ⟨f, fd, a, b, c⟩ := h.ex
  exact ⟨f, fd, a, b, c.mono l⟩
/-- how positional values bind -/
def Posn (params : Arguments) (body : List Stmt) (scope : Scope) (x : Str) (ps : List Str) : Prop := ∀ (kV doc pm : Value) (an : Option Addr) (cdv ct : Value) (us : List Value), us.length = ps.length → bindArgs (PySem.W.fnOf x x params body scope .none kV doc pm an cdv ct) ⟨us, []⟩ = pure (ps.zip us)
/-- how keywords bind: g puts positional values and keywords' values in the parameters' order -/
def Keyn (params : Arguments) (body : List Stmt) (scope : Scope) (x : Str) (ps ks : List Str) (n : Nat) (g : {α : Type} → List α → List α → List α) : Prop := ∀ (kV doc pm : Value) (an : Option Addr) (cdv ct : Value) (us ws : List Value), us.length = n → ws.length = ks.length →
  bindArgs (PySem.W.fnOf x x params body scope .none kV doc pm an cdv ct) ⟨us, ks.zip ws⟩ = pure (ps.zip (g us ws))
theorem FunD.to {K : PySem.W.Frag} {x qual : Str} {params : Arguments} {body : List Stmt} {scope : Scope} {f : Addr} {fd : FuncData} (F : FunD K x qual params body scope [] [] f fd) : ∃ kV doc pm an cdv ct, fd = PySem.W.fnOf x qual params body scope .none kV doc pm an cdv ct := by
  obtain ⟨oc, od, dV, kV, doc, pm, an, cdv, ct, osl, rfl, lk, hcd, hD, hK⟩ := F.ex
  rcases hD with ⟨_, rfl⟩ | ⟨e, _⟩
  · exact ⟨kV, doc, pm, an, cdv, ct, rfl⟩
  · exact absurd rfl e
section
variable {X : Cx} {T : List (Addr × Str)} {W : WX} {k : Nat} {x : Str} {params : Arguments} {body : List Stmt} {scope : Scope} {ps ks : List Str} {fr : Bool} {o : OpB} {p pos : Pos} {e : Expr} {es : List Expr} {kws : List Keyword} {c cs : AX}
def cCall (n : Nat) (o : OpB) (r : AX) : EX := fun ρ S => bindO (r ρ S) fun ds S => if ds.length = n then o ds S else none
/-- f(e, ..) -/
theorem re_call (G : DefG X.prog X.w X.K X.mg X.base T k x params body scope ps fr o) (hp : Posn params body scope x ps) (hr : Room k X.A) (hgu : X.A.guards = some []) (hx : ∀ σ, PassesAt (L2.CX X.prog X.w) X σ fun cls d H => W cls d σ H)
    (ha : RA T X W (e :: es) c) (hg : Gl X x := by rfl) (hdb : (x == ("__debug__" : Str)) = false := by decide) (he : starEach (e :: es) X.env = (false, eval e X.env) :: starEach es X.env := by rfl) (hpl : (backTo pos (starEach es X.env)).any (·.1) = false := by rfl) :
    RE T fr X W (.Call (.Name x p) (e :: es) [] pos) (cCall ps.length o c) := by
  obtain ⟨f, fd, FD, hm, FG⟩ := G.ex
  obtain ⟨t, pa, rd⟩ := ha
  refine ⟨fun σ H Q => t σ H fun vs H1 => spOf X.K X.mg T fr ps.length o vs H1 Q (fun cls d H => W cls d σ H), ⟨fun pins s σ H Q I h => ?_⟩, fun σ ρ F μ S H Q s hE g => ?_⟩
  · refine wpAny_Call_Name_kw (ld_glob I hg hm ?_ hdb)
    refine PySem.W.callWith_K (h₀ := X.base) I.ok.mod.kin FD.kp (thn (pa.run pos pins s σ H _ I h) fun us s1 ⟨vs, H1, I1, r, q⟩ => ⟨I1.kIn, ?_⟩) he hpl
    obtain ⟨kV, doc, pm, an, cdv, ct, rfl⟩ := FunD.to FD
    have hl : us.length = ps.length := by
      obtain ⟨_, _, _, _, _, _, hl, _⟩ := id q
      rw [← r.length]; exact hl
    exact run_g (us := us) FG hr hgu (.of_eq (hp _ _ _ _ _ _ us hl)) (hx σ) I1 r q
  · refine rd σ ρ F μ S H _ s hE (GP.seq g fun ds F1 μ1 H1 S1 e1 p1 s1 g1 vs rs => ?_)
    split at g1
    · rename_i hn
      exact ⟨F1, μ1, S1, ds, s1, rs, by rw [← rs.length]; exact hn, g1⟩
    · exact g1.elim
/-- f(e, .., k = v, ..); n positional values -/
def cCallK (n m : Nat) (g : List D → List D → List D) (o : OpB) (r rk : AX) : EX := fun ρ S => bindO (r ρ S) fun ds S => bindO (rk ρ S) fun es S => if ds.length = n ∧ es.length = m then o (g ds es) S else none
theorem re_callK {n : Nat} {g : {α : Type} → List α → List α → List α} (G : DefG X.prog X.w X.K X.mg X.base T k x params body scope ps fr o) (hp : Keyn params body scope x ps ks n g) (hgr : ∀ {K F μ} {ds es : List D} {vs us : List V}, ds.length = n → es.length = ks.length → Reps K F μ ds vs → Reps K F μ es us → Reps K F μ (g ds es) (g vs us))
    (hgv : ∀ {vs us : List V} {ws zs : List Value}, vs.length = n → us.length = ks.length → Vals vs ws → Vals us zs → Vals (g vs us) (g ws zs)) (hgl : ∀ {ds es : List V}, ds.length = n → es.length = ks.length → (g ds es).length = ps.length)
    (hr : Room k X.A) (hgu : X.A.guards = some []) (hx : ∀ σ, PassesAt (L2.CX X.prog X.w) X σ fun cls d H => W cls d σ H)
    (ha : RA T X W (e :: es) c) (hkw : RK T X W kws cs) (hg : Gl X x := by rfl) (hall : (backToKw pos (keywordEach kws X.env)).all (·.1.isSome) = true := by rfl) (hks : (backToKw pos (keywordEach kws X.env)).filterMap (·.1) = ks := by rfl)
    (hdb : (x == ("__debug__" : Str)) = false := by decide) (he : starEach (e :: es) X.env = (false, eval e X.env) :: starEach es X.env := by rfl)
    (hpl : ((backTo pos (starEach (e :: es) X.env)).any (·.1) || (backToKw pos (keywordEach kws X.env)).any (·.1.isNone)) = false := by rfl) :
    RE T fr X W (.Call (.Name x p) (e :: es) kws pos) (cCallK n ks.length g o c cs) := by
  obtain ⟨f, fd, FD, hm, FG⟩ := G.ex
  obtain ⟨t, pa, rd⟩ := ha
  obtain ⟨t2, pk, rd2⟩ := hkw
  refine ⟨fun σ H Q => t σ H fun vs H1 => t2 σ H1 fun us H2 => vs.length = n ∧ us.length = ks.length ∧ spOf X.K X.mg T fr ps.length o (g vs us) H2 Q (fun cls d H => W cls d σ H), ⟨fun pins s σ H Q I h => ?_⟩, fun σ ρ F μ S H Q s hE g => ?_⟩
  · refine wpAny_Call_Name_kw (ld_glob I hg hm ?_ hdb)
    refine PySem.W.callWith_KW (h₀ := X.base) I.ok.mod.kin FD.kp hall (thn (pa.run pos pins s σ H _ I h) fun us s1 ⟨vs, H1, I1, r, q⟩ => ?_) hpl he
    refine thn (pk.run pos pins s1 σ H1 _ I1 q) fun ws s2 ⟨zs, H2, I2, rz, l1, l2, q2⟩ => ⟨I2.kIn, ?_⟩
    obtain ⟨kV, doc, pm, an, cdv, ct, rfl⟩ := FunD.to FD
    rw [hks]
    exact run_g (us := g us ws) FG hr hgu (.of_eq (hp _ _ _ _ _ _ us ws (by rw [← r.length]; exact l1) (by rw [← rz.length]; exact l2))) (hx σ) I2 (hgv l1 l2 r rz) q2
  · refine rd σ ρ F μ S H _ s hE (GP.seq g fun ds F1 μ1 H1 S1 e1 p1 s1 g1 vs rs => ?_)
    refine rd2 σ ρ F1 μ1 S1 H1 _ s1 (hE.mono e1 p1) (GP.seq g1 fun es F2 μ2 H2 S2 e2 p2 s2 g2 us ru => ?_)
    split at g2
    · rename_i hn
      have l1 : vs.length = n := by rw [← rs.length]; exact hn.1
      have l2 : us.length = ks.length := by rw [← ru.length]; exact hn.2
      exact ⟨l1, l2, F2, μ2, S2, _, s2, hgr hn.1 hn.2 (rs.mono e2 p2) ru, hgl l1 l2, g2⟩
    · exact g2.elim
/-- f(k = v, ..) -/
theorem re_callK0 {g : {α : Type} → List α → List α → List α} (G : DefG X.prog X.w X.K X.mg X.base T k x params body scope ps fr o) (hp : Keyn params body scope x ps ks 0 g) (hgr : ∀ {K F μ} {ds es : List D} {vs us : List V}, ds.length = 0 → es.length = ks.length → Reps K F μ ds vs → Reps K F μ es us → Reps K F μ (g ds es) (g vs us))
    (hgv : ∀ {vs us : List V} {ws zs : List Value}, vs.length = 0 → us.length = ks.length → Vals vs ws → Vals us zs → Vals (g vs us) (g ws zs)) (hgl : ∀ {ds es : List V}, ds.length = 0 → es.length = ks.length → (g ds es).length = ps.length)
    (hr : Room k X.A) (hgu : X.A.guards = some []) (hx : ∀ σ, PassesAt (L2.CX X.prog X.w) X σ fun cls d H => W cls d σ H)
    (hkw : RK T X W kws cs) (hg : Gl X x := by rfl) (hall : (backToKw pos (keywordEach kws X.env)).all (·.1.isSome) = true := by rfl) (hks : (backToKw pos (keywordEach kws X.env)).filterMap (·.1) = ks := by rfl)
    (hdb : (x == ("__debug__" : Str)) = false := by decide)
    (hpl : ((backTo pos (starEach [] X.env)).any (·.1) || (backToKw pos (keywordEach kws X.env)).any (·.1.isNone)) = false := by rfl) :
    RE T fr X W (.Call (.Name x p) [] kws pos) (cCallK 0 ks.length g o aNil cs) := by
  obtain ⟨f, fd, FD, hm, FG⟩ := G.ex
  obtain ⟨t2, pk, rd2⟩ := hkw
  refine ⟨fun σ H Q => t2 σ H fun us H2 => us.length = ks.length ∧ spOf X.K X.mg T fr ps.length o (g [] us) H2 Q (fun cls d H => W cls d σ H), ⟨fun pins s σ H Q I h => ?_⟩, fun σ ρ F μ S H Q s hE g => ?_⟩
  · refine wpAny_Call_Name_kw (ld_glob I hg hm ?_ hdb)
    refine PySem.W.callWith_KW0 (h₀ := X.base) I.ok.mod.kin FD.kp hall ?_ hpl
    refine thn (pk.run pos pins s σ H _ I h) fun ws s2 ⟨zs, H2, I2, rz, l2, q2⟩ => ⟨I2.kIn, ?_⟩
    obtain ⟨kV, doc, pm, an, cdv, ct, rfl⟩ := FunD.to FD
    rw [hks]
    exact run_g (us := g [] ws) FG hr hgu (.of_eq (hp _ _ _ _ _ _ [] ws rfl (by rw [← rz.length]; exact l2))) (hx σ) I2 (hgv rfl l2 .nil rz) q2
  · have g0 := g
    unfold cCallK aNil at g
    rw [bindO_ok] at g
    refine rd2 σ ρ F μ S H _ s hE (GP.seq g fun es F2 μ2 H2 S2 e2 p2 s2 g2 us ru => ?_)
    split at g2
    · rename_i hn
      have l2 : us.length = ks.length := by rw [← ru.length]; exact hn.2
      exact ⟨l2, F2, μ2, S2, _, s2, hgr rfl hn.2 .nil ru, hgl rfl l2, g2⟩
    · exact g2.elim
/-- the orders that come up: two by two -/
def kSwap {α : Type} : List α → List α → List α
  | [], [a, b] => [b, a]
  | xs, ys => xs ++ ys
def kSame {α : Type} (xs ys : List α) : List α := xs ++ ys
end

/-! ### repr -/
def reprOk (d : D) : Bool := d.pure && d.py.showable && decide (d.py.depth ≤ 60) && decide (d.py.shown.length ≤ sizeLine)
def bRepr : OpB := fun ds S => match ds with
  | [d] => if reprOk (told S d) = true then some (.ok (.str (told S d).py.shown), S) else none
  | _ => none
mutual
theorem py_nodict : ∀ d : D, d.py.hasDict = false
  | .non => by simp [D.py, PyData.hasDict]
  | .bl b => by simp [D.py, PyData.hasDict]
  | .int i => by simp [D.py, PyData.hasDict]
  | .str x => by simp [D.py, PyData.hasDict]
  | .tup xs => by simp [D.py, PyData.hasDict, pys_nodict xs]
  | .lst xs => by simp [D.py, PyData.hasDict, pys_nodict xs]
  | .loc n => by simp [D.py, PyData.hasDict]
  | .fz n => by simp [D.py, PyData.hasDict]
  | .fn n => by simp [D.py, PyData.hasDict]
  | .dct n => by simp [D.py, PyData.hasDict]
  | .tpn xs => by simp [D.py, PyData.hasDict, pys_nodict xs]
theorem pys_nodict : ∀ xs : List D, PyData.hasDictAll (D.pys xs) = false
  | [] => by simp [D.pys, PyData.hasDictAll]
  | x :: xs => by simp [D.pys, PyData.hasDictAll, py_nodict x, pys_nodict xs]
end
/-- the text of data -/
def rRepr (K : PySem.W.Frag) : List V → Hp → VK → Prop := fun vs H Q => ∃ v d, vs = [v] ∧ Dp K H v d ∧ d.showable = true ∧ d.hasDict = false ∧ d.depth ≤ 60 ∧ d.shown.length ≤ sizeLine ∧ Q (.str d.shown) H
theorem call_repr {X : Cx} (hg : X.A.guards = some []) (hu : X.A.units + 64 < cLine) : CallR X (.builtin "repr") (rRepr X.K) := by
  intro pins s σ H xs us Q I r h
  obtain ⟨v, d, rfl, hd, h1, h2, h3, h4, q⟩ := h
  obtain ⟨u, rfl, ru⟩ := vals1 r
  have fin : ∀ (t : Tok) (s' : Shared), Inv X pins σ H s' → EP X pins σ Q (.str d.shown t) s' := fun t s' J => ⟨.str d.shown, H, J, ⟨t, rfl⟩, q⟩
  cases hd with
  | non => cases ru; exact PySem.P.repr_of_none (fin _ _ (I.tok _))
  | bl b =>
    cases ru
    refine PySem.P.repr_of_bool ?_
    cases b <;> exact fin _ _ (I.tok _)
  | int i =>
    obtain ⟨t, rfl⟩ := ru
    have h1' : i.natAbs.log2 < 1920 := by simpa [PyData.showable] using h1
    exact PySem.P.repr_of_int h1' (fin _ _ (I.tok _))
  | str x =>
    obtain ⟨t, rfl⟩ := ru
    exact PySem.P.repr_of_str (fin _ _ (I.tok _)) h4
  | lst hs ha =>
    have rv := ru
    cases ru
    obtain ⟨as, rd⟩ := Dp.reads I _ _ _ (.lst hs ha) rv
    exact repr_of_reads' rd h1 (fun z => by rw [h2] at z; cases z) hg (by omega) (fun b o e => e) (fun h' t tk kk => fin _ _ (I.kept kk)) h4
  | tup hs ha =>
    have rv := ru
    cases ru
    obtain ⟨as, rd⟩ := Dp.reads I _ _ _ (.tup hs ha) rv
    exact repr_of_reads' rd h1 (fun z => by rw [h2] at z; cases z) hg (by omega) (fun b o e => e) (fun h' t tk kk => fin _ _ (I.kept kk)) h4
theorem bRepr_ok {X : Cx} {T : List (Addr × Str)} : BltOk X T false (rRepr X.K) bRepr := by
  intro F μ S H ds vs Q er s rs h
  unfold bRepr at h
  split at h
  · obtain ⟨v, rfl, r⟩ := rs.inv1
    split at h
    · rename_i d hc
      unfold reprOk at hc
      simp only [Bool.and_eq_true, decide_eq_true_eq] at hc
      obtain ⟨⟨⟨h1, h2⟩, h3⟩, h4⟩ := hc
      exact ⟨v, _, rfl, dp_told s r h1, h2, py_nodict _, h3, h4, gp_val h s (.str _)⟩
    · exact h.elim
  · exact h.elim
end PF
set_option Elab.async false
set_option linter.all false
set_option maxRecDepth 100000
set_option maxHeartbeats 4000000
/-! PF5: what is walked, targets, comprehensions. -/
namespace PF
open PySem L2 Evl PySem.Spec PyProof.Rows
/-! ### what is walked -/
inductive Src where
  | items (ds : List D) | cell (n : Nat) | enum (s : Src) | zip (a b : Src)
def numb : Nat → List D → List D
  | _, [] => []
  | i, d :: ds => .tup [.int i, d] :: numb (i + 1) ds
theorem numb_get : ∀ (ds : List D) (k i : Nat), (numb k ds)[i]? = (ds[i]?).map fun d => .tup [.int ((k + i : Nat) : Int), d]
  | [], _, _ => by simp [numb]
  | d :: ds, k, 0 => by simp [numb]
  | d :: ds, k, i + 1 => by
    simp only [numb, List.getElem?_cons_succ, numb_get ds (k + 1) i]
    have : k + 1 + i = k + (i + 1) := by omega
    rw [this]
theorem numb_len : ∀ (ds : List D) (k : Nat), (numb k ds).length = ds.length
  | [], _ => rfl
  | d :: ds, k => by simp [numb, numb_len ds (k + 1)]
def zipD : List D → List D → List D
  | d :: ds, e :: es => .tup [d, e] :: zipD ds es
  | _, _ => []
theorem zipD_get : ∀ (ds es : List D) (i : Nat) (x : D), (zipD ds es)[i]? = some x → ∃ d e, ds[i]? = some d ∧ es[i]? = some e ∧ x = .tup [d, e]
  | d :: ds, e :: es, 0, x, h => by simp [zipD] at h; exact ⟨d, e, rfl, rfl, h.symm⟩
  | d :: ds, e :: es, i + 1, x, h => by
    simp only [zipD, List.getElem?_cons_succ] at h ⊢
    exact zipD_get ds es i x h
  | [], _, i, x, h => by simp [zipD] at h
  | _ :: _, [], i, x, h => by simp [zipD] at h
theorem zipD_len : ∀ (ds es : List D), (zipD ds es).length = min ds.length es.length
  | d :: ds, e :: es => by simp [zipD, zipD_len ds es]
  | [], es => by simp [zipD]
  | _ :: _, [] => by simp [zipD]
def srcAt : Src → Store → Option (List D)
  | .items ds, _ => some ds
  | .cell n, S => S[n]?
  | .enum s, S => (srcAt s S).map (numb 0)
  | .zip a b, S => match srcAt a S, srcAt b S with
    | some xs, some ys => some (zipD xs ys)
    | _, _ => none
/-- J walks it, whatever has happened meanwhile -/
def Walks (K : PySem.W.Frag) (T : List (Addr × Str)) (F0 : Hp) (μ0 : List Addr) (src : Src) (J : It) : Prop :=
  ∀ F μ S H ds i, Ex F0 F → μ0 <+: μ → SR K T F μ S H → srcAt src S = some ds →
    (∀ d, ds[i]? = some d → J.go i H ∧ ∀ x H', J.yld i H x H' → ∃ F', Ex F F' ∧ SR K T F' μ S H' ∧ Rep K F' μ d x) ∧ (ds.length ≤ i → J.stop i H)
abbrev IX := PF.Env → Store → Out Src
def RI (T : List (Addr × Str)) (X : Cx) (W : WX) (tg e : Expr) (c : IX) : Prop := ∃ wi, PI X tg e wi ∧
  ∀ σ ρ F μ S H (R : It → Hp → Prop), SR X.K T F μ S H → EnvR X.K F μ ρ σ → GP X.K T F μ (c ρ S) (fun src F' μ' H' _ => ∀ J, Walks X.K T F' μ' src J → R J H') (ErW X.K X.mg fun cls dd H' => W cls dd σ H') → wi σ H R
/-- a list or a tuple as a value tells what is walked -/
def srcOf : D → Option Src
  | .tup ds => some (.items ds)
  | .lst ds => some (.items ds)
  | .fz ds => some (.items ds)
  | .loc n => some (.cell n)
  | _ => none
section
variable {K : PySem.W.Frag} {T : List (Addr × Str)} {F H : Hp} {μ : List Addr} {S : Store} {d : D} {v : V} {src src2 : Src} {a b : Addr}
/-- at each later state a is a list (a tuple) of what src has -/
def StandL (K : PySem.W.Frag) (T : List (Addr × Str)) (F0 : Hp) (μ0 : List Addr) (src : Src) (a : Addr) : Prop := ∀ F μ S H ds, Ex F0 F → μ0 <+: μ → SR K T F μ S H → srcAt src S = some ds → ∃ vs, SqL K H a vs ∧ Reps K F μ ds vs
def StandT (K : PySem.W.Frag) (T : List (Addr × Str)) (F0 : Hp) (μ0 : List Addr) (src : Src) (a : Addr) : Prop := ∀ F μ S H ds, Ex F0 F → μ0 <+: μ → SR K T F μ S H → srcAt src S = some ds → ∃ vs, SqT K H a vs ∧ Reps K F μ ds vs
theorem StandL.mono {F' : Hp} {μ' : List Addr} (h : StandL K T F μ src a) (e : Ex F F') (p : μ <+: μ') : StandL K T F' μ' src a := fun F2 μ2 S H ds e2 p2 s q => h F2 μ2 S H ds (e.trans e2) (p.trans p2) s q
theorem StandT.mono {F' : Hp} {μ' : List Addr} (h : StandT K T F μ src a) (e : Ex F F') (p : μ <+: μ') : StandT K T F' μ' src a := fun F2 μ2 S H ds e2 p2 s q => h F2 μ2 S H ds (e.trans e2) (p.trans p2) s q
theorem walks_l (h : StandL K T F μ src a) : Walks K T F μ src (Itl K a) := by
  intro F' μ' S H ds i e p s q
  obtain ⟨vs, h1, h2⟩ := h F' μ' S H ds e p s q
  refine ⟨fun d hd => ?_, fun hl => ⟨vs, h1, by rw [← h2.length]; exact hl⟩⟩
  obtain ⟨v, k1, k2⟩ := h2.get hd
  refine ⟨⟨vs, v, h1, k1⟩, fun x H' y => ?_⟩
  obtain ⟨rfl, y⟩ := y
  have := (y vs h1).symm.trans k1
  cases this
  exact ⟨F', Ex.refl _, s, k2⟩
theorem walks_t (h : StandT K T F μ src a) : Walks K T F μ src (Itt K a) := by
  intro F' μ' S H ds i e p s q
  obtain ⟨vs, h1, h2⟩ := h F' μ' S H ds e p s q
  refine ⟨fun d hd => ?_, fun hl => ⟨vs, h1, by rw [← h2.length]; exact hl⟩⟩
  obtain ⟨v, k1, k2⟩ := h2.get hd
  refine ⟨⟨vs, v, h1, k1⟩, fun x H' y => ?_⟩
  obtain ⟨rfl, y⟩ := y
  have := (y vs h1).symm.trans k1
  cases this
  exact ⟨F', Ex.refl _, s, k2⟩
def ranged (lo : Int) : Nat → List D
  | 0 => []
  | n + 1 => .int lo :: ranged (lo + 1) n
theorem ranged_get : ∀ (n : Nat) (lo : Int) (i : Nat), i < n → (ranged lo n)[i]? = some (.int (lo + i))
  | n + 1, lo, 0, _ => by simp [ranged]
  | n + 1, lo, i + 1, h => by
    simp only [ranged, List.getElem?_cons_succ]
    rw [ranged_get n (lo + 1) i (by omega)]
    have : lo + 1 + (i : Int) = lo + ((i + 1 : Nat) : Int) := by omega
    rw [this]
theorem ranged_len : ∀ (n : Nat) (lo : Int), (ranged lo n).length = n
  | 0, _ => rfl
  | n + 1, lo => by simp [ranged, ranged_len n]
theorem walks_r {lo : Int} {n : Nat} : Walks K T F μ (.items (ranged lo n)) (Itr lo n) := by
  intro F' μ' S H ds i e p s q
  cases q
  refine ⟨fun d hd => ?_, fun hl => by rw [ranged_len] at hl; exact hl⟩
  have hi : i < n := by
    have := (List.getElem?_eq_some_iff.mp hd).1
    rw [ranged_len] at this; exact this
  rw [ranged_get n lo i hi] at hd
  cases hd
  refine ⟨hi, fun x H' y => ?_⟩
  obtain ⟨rfl, rfl⟩ := y
  exact ⟨F', Ex.refl _, s, .int _⟩
theorem walks_e (h : StandL K T F μ src a) : Walks K T F μ (.enum src) (Ite K a) := by
  intro F' μ' S H ds i e p s q
  simp only [srcAt, Option.map_eq_some_iff] at q
  obtain ⟨es, q, rfl⟩ := q
  obtain ⟨vs, h1, h2⟩ := h F' μ' S H es e p s q
  refine ⟨fun d hd => ?_, fun hl => ⟨vs, h1, by rw [← h2.length]; rw [numb_len] at hl; exact hl⟩⟩
  rw [numb_get, Option.map_eq_some_iff] at hd
  obtain ⟨d', hd, rfl⟩ := hd
  obtain ⟨v, k1, k2⟩ := h2.get hd
  refine ⟨⟨vs, v, h1, k1⟩, fun x H' y => ?_⟩
  obtain ⟨A, w, rfl, hA, rfl, y⟩ := y
  have := (y vs h1).symm.trans k1
  cases this
  have hF := fresh_back s.ex hA
  rw [Nat.zero_add]
  exact ⟨upd F' A (.tup [.int (i : Nat), _]), Ex.new hF, s.new hA, .tup (st_of upd_same) (.cons (.int _) (.cons (k2.mono (Ex.new hF) (List.prefix_refl _)) .nil))⟩
theorem walks_z (h : StandL K T F μ src a) (k : StandL K T F μ src2 b) : Walks K T F μ (.zip src src2) (Itz K a b) := by
  intro F' μ' S H ds i e p s q
  simp only [srcAt] at q
  split at q
  · rename_i es fs q1 q2
    cases q
    obtain ⟨vs, h1, h2⟩ := h F' μ' S H es e p s q1
    obtain ⟨us, k1, k2⟩ := k F' μ' S H fs e p s q2
    refine ⟨fun d hd => ?_, fun hl => ⟨vs, us, h1, k1, by rw [zipD_len] at hl; rw [← h2.length, ← k2.length]; omega⟩⟩
    obtain ⟨x, y, e1, e2, rfl⟩ := zipD_get _ _ _ _ hd
    obtain ⟨v, a1, a2⟩ := h2.get e1
    obtain ⟨u, b1, b2⟩ := k2.get e2
    refine ⟨⟨vs, us, v, u, h1, k1, a1, b1⟩, fun x H' z => ?_⟩
    obtain ⟨A, x', y', rfl, hA, rfl, z1, z2⟩ := z
    have t1 := (z1 vs h1).symm.trans a1
    have t2 := (z2 us k1).symm.trans b1
    cases t1; cases t2
    have hF := fresh_back s.ex hA
    exact ⟨upd F' A (.tup [_, _]), Ex.new hF, s.new hA, .tup (st_of upd_same) (.cons (a2.mono (Ex.new hF) (List.prefix_refl _)) (.cons (b2.mono (Ex.new hF) (List.prefix_refl _)) .nil))⟩
  · cases q
theorem walks_zT (h : StandT K T F μ src a) (k : StandT K T F μ src2 b) : Walks K T F μ (.zip src src2) (RZ.ItzT K a b) := by
  intro F' μ' S H ds i e p s q
  simp only [srcAt] at q
  split at q
  · rename_i es fs q1 q2
    cases q
    obtain ⟨vs, h1, h2⟩ := h F' μ' S H es e p s q1
    obtain ⟨us, k1, k2⟩ := k F' μ' S H fs e p s q2
    refine ⟨fun d hd => ?_, fun hl => ⟨vs, us, h1, k1, by rw [zipD_len] at hl; rw [← h2.length, ← k2.length]; omega⟩⟩
    obtain ⟨x, y, e1, e2, rfl⟩ := zipD_get _ _ _ _ hd
    obtain ⟨v, a1, a2⟩ := h2.get e1
    obtain ⟨u, b1, b2⟩ := k2.get e2
    refine ⟨⟨vs, us, v, u, h1, k1, a1, b1⟩, fun x H' z => ?_⟩
    obtain ⟨A, x', y', rfl, hA, rfl, z1, z2⟩ := z
    have t1 := (z1 vs h1).symm.trans a1
    have t2 := (z2 us k1).symm.trans b1
    cases t1; cases t2
    have hF := fresh_back s.ex hA
    exact ⟨upd F' A (.tup [_, _]), Ex.new hF, s.new hA, .tup (st_of upd_same) (.cons (a2.mono (Ex.new hF) (List.prefix_refl _)) (.cons (b2.mono (Ex.new hF) (List.prefix_refl _)) .nil))⟩
  · cases q
/-- a list or tuple value stands -/
theorem stand (s : SR K T F μ S H) (r : Rep K F μ d v) (h : srcOf d = some src) : ∃ a, v = .ref a ∧ (((∃ vs, SqL K H a vs) ∧ StandL K T F μ src a) ∨ ((∃ vs, SqT K H a vs) ∧ StandT K T F μ src a)) := by
  cases r with
  | @tup a xs ds hq rs =>
    cases h
    exact ⟨a, rfl, .inr ⟨⟨xs, s.sqT hq⟩, fun F' μ' S' H' es e p s' q => by cases q; exact ⟨xs, s'.sqT (ex_t e hq), rs.mono e p⟩⟩⟩
  | @lst a xs ds hq rs =>
    cases h
    exact ⟨a, rfl, .inl ⟨⟨xs, sq_of (s.ex _ _ hq)⟩, fun F' μ' S' H' es e p s' q => by cases q; exact ⟨xs, sq_of (s'.ex _ _ (e _ _ hq)), rs.mono e p⟩⟩⟩
  | @fz a xs ds hq rs =>
    cases h
    exact ⟨a, rfl, .inl ⟨⟨xs, s.sqL hq⟩, fun F' μ' S' H' es e p s' q => by cases q; exact ⟨xs, s'.sqL (ex_l e hq), rs.mono e p⟩⟩⟩
  | @loc n a hm =>
    cases h
    obtain ⟨ds, vs, h1, h2, h3, _⟩ := s.get hm
    refine ⟨a, rfl, .inl ⟨⟨vs, sq_of h2⟩, fun F' μ' S' H' es e p s' q => ?_⟩⟩
    obtain ⟨ds', vs', k1, k2, k3, _⟩ := s'.get (pre_get p hm)
    simp only [srcAt] at q
    rw [k1] at q; cases q
    exact ⟨vs', sq_of k2, k3⟩
  | _ => cases h
end
/-! ### what a for, a comprehension walks -/
section
variable {X : Cx} {T : List (Addr × Str)} {W : WX} {tg e e2 : Expr} {c : EX} {ca : AX} {p pos : Pos}
def cSeqI (c : EX) : IX := fun ρ S => bindO (c ρ S) fun d S => match srcOf d with
  | some src => some (.ok src, S)
  | none => none
theorem ri_seq (h : RE T false X W e c) : RI T X W tg e (cSeqI c) := by
  obtain ⟨t, pe, f⟩ := h
  refine ⟨fun σ H R => t σ H fun x H1 => ∃ a, x = .ref a ∧ (((∃ vs, SqL X.K H1 a vs) ∧ R (Itl X.K a) H1) ∨ ((∃ vs, SqT X.K H1 a vs) ∧ R (Itt X.K a) H1)), ⟨fun pins s σ H R I h => ?_⟩, fun σ ρ F μ S H R s hE g => ?_⟩
  · refine thn (pe.run pins s σ H _ I h) ?_
    rintro v s1 ⟨x, H1, I1, r1, a, rfl, q1⟩
    cases r1
    have newest : ∀ (ob : Obj), Inv X pins σ H1 { s1 with heap := s1.heap.push ob } := fun ob => Inv.kept (t' := s1.toks) I1 fun b o q => Heap.get?_push_of_some _ q
    have foot : ∀ b ∈ [s1.heap.objs.size], FpOk X pins H1 b := fun b hb => by
      rw [List.mem_singleton] at hb
      subst hb
      exact Inv.fpOk I1 (Nat.le_refl _) (HOk.fresh I1.hok (Nat.le_refl _))
    rcases q1 with ⟨⟨vs, hq⟩, q⟩ | ⟨⟨vs, hq⟩, q⟩
    · obtain ⟨its, _, pl, _⟩ := Inv.list I1 hq
      exact wpAny_pyIter_list pl.isList ⟨_, _, _, _, H1, rfl, newest _, turn_list a _, ⟨_, Heap.get?_push_size _ rfl, rfl, rfl⟩, foot, q⟩
    · obtain ⟨its, _, pt, _⟩ := Inv.tuple I1 hq
      exact wpAny_pyIter_tuple (items := its.toArray) pt ⟨_, _, _, _, H1, rfl, newest _, turn_tuple a _, ⟨_, Heap.get?_push_size _ rfl, rfl, rfl⟩, foot, q⟩
  · refine f σ ρ F μ S H _ s hE (GP.seq g fun d F1 μ1 H1 S1 e1 p1 s1 g1 v rv => ?_)
    split at g1
    · rename_i src hs
      obtain ⟨a, rfl, hh⟩ := stand s1 rv hs
      have fin := GP.here g1 s1
      refine ⟨a, rfl, ?_⟩
      rcases hh with ⟨h1, h2⟩ | ⟨h1, h2⟩
      · exact .inl ⟨h1, fin _ (walks_l h2)⟩
      · exact .inr ⟨h1, fin _ (walks_t h2)⟩
    · exact g1.elim
/-- range(n) -/
def cRange1 (c : AX) : IX := fun ρ S => bindO (c ρ S) fun ds S => match ds with
  | [.int n] => if n < 1000000000 ∧ -1000000000 < n then some (.ok (.items (ranged 0 n.toNat)), S) else none
  | _ => none
def cRange2 (c : AX) : IX := fun ρ S => bindO (c ρ S) fun ds S => match ds with
  | [.int m, .int n] => if (n < 1000000000 ∧ -1000000000 < n) ∧ (m < 1000000000 ∧ -1000000000 < m) then some (.ok (.items (ranged m (n - m).toNat)), S) else none
  | _ => none
theorem ri_range1 (ha : RA T X W [e] ca) (hm : X.mg "range" = none) (hg : Gl X "range" := by rfl) (hs : starEach [e] X.env = [(false, eval e X.env)] := by rfl) : RI T X W tg (.Call (.Name "range" p) [e] [] pos) (cRange1 ca) := by
  obtain ⟨t, pa, f⟩ := ha
  refine ⟨_, pi_range1 hg hm pa hs, fun σ ρ F μ S H R s hE g => f σ ρ F μ S H _ s hE (GP.seq g fun ds F1 μ1 H1 S1 e1 p1 s1 g1 vs rs => ?_)⟩
  split at g1
  · rename_i n
    split at g1
    · rename_i hn
      obtain ⟨v, rfl, rv⟩ := rs.inv1
      cases rv
      exact ⟨n, rfl, by omega, by omega, GP.here g1 s1 _ walks_r⟩
    · exact g1.elim
  · exact g1.elim
theorem ri_range2 (ha : RA T X W [e, e2] ca) (hm : X.mg "range" = none) (hg : Gl X "range" := by rfl) (hs : starEach [e, e2] X.env = [(false, eval e X.env), (false, eval e2 X.env)] := by rfl) (hs2 : starEach [e2] X.env = [(false, eval e2 X.env)] := by rfl) :
    RI T X W tg (.Call (.Name "range" p) [e, e2] [] pos) (cRange2 ca) := by
  obtain ⟨t, pa, f⟩ := ha
  refine ⟨_, pi_range2 hg hm pa hs hs2, fun σ ρ F μ S H R s hE g => f σ ρ F μ S H _ s hE (GP.seq g fun ds F1 μ1 H1 S1 e1 p1 s1 g1 vs rs => ?_)⟩
  split at g1
  · rename_i m n
    split at g1
    · rename_i hn
      obtain ⟨v, u, rfl, rv, ru⟩ := rs.inv2
      cases rv; cases ru
      exact ⟨m, n, rfl, ⟨by omega, by omega, by omega, by omega⟩, GP.here g1 s1 _ walks_r⟩
    · exact g1.elim
  · exact g1.elim
/-- enumerate(xs), a list -/
def isL : D → Bool
  | .lst _ => true
  | .fz _ => true
  | .loc _ => true
  | _ => false
def cEnumL (c : AX) : IX := fun ρ S => bindO (c ρ S) fun ds S => match ds with
  | [d] => if isL d = true then (match srcOf d with
    | some src => some (.ok (.enum src), S)
    | none => none) else none
  | _ => none
theorem stand_l {K : PySem.W.Frag} {F H : Hp} {μ : List Addr} {S : Store} {d : D} {v : V} {src : Src} (s : SR K T F μ S H) (r : Rep K F μ d v) (h : srcOf d = some src) (hl : isL d = true) : ∃ a, v = .ref a ∧ (∃ vs, SqL K H a vs) ∧ StandL K T F μ src a := by
  cases r with
  | @lst a xs ds hq rs =>
    cases h
    exact ⟨a, rfl, ⟨xs, sq_of (s.ex _ _ hq)⟩, fun F' μ' S' H' es e p s' q => by cases q; exact ⟨xs, sq_of (s'.ex _ _ (e _ _ hq)), rs.mono e p⟩⟩
  | @fz a xs ds hq rs =>
    cases h
    exact ⟨a, rfl, ⟨xs, s.sqL hq⟩, fun F' μ' S' H' es e p s' q => by cases q; exact ⟨xs, s'.sqL (ex_l e hq), rs.mono e p⟩⟩
  | @loc n a hm =>
    cases h
    obtain ⟨ds, vs, h1, h2, h3, _⟩ := s.get hm
    refine ⟨a, rfl, ⟨vs, sq_of h2⟩, fun F' μ' S' H' es e p s' q => ?_⟩
    obtain ⟨ds', vs', k1, k2, k3, _⟩ := s'.get (pre_get p hm)
    simp only [srcAt] at q
    rw [k1] at q; cases q
    exact ⟨vs', sq_of k2, k3⟩
  | _ => cases hl
theorem ri_enumL {elts : List Expr} {kk : Nat} {tpos : Pos} (ha : RA T X W [e] ca) (hm : X.mg "enumerate" = none) (hg : Gl X "enumerate" := by rfl) (hs : starEach [e] X.env = [(false, eval e X.env)] := by rfl) : RI T X W (.Tuple elts kk tpos) (.Call (.Name "enumerate" p) [e] [] pos) (cEnumL ca) := by
  obtain ⟨t, pa, f⟩ := ha
  refine ⟨_, pi_enum hg hm pa hs, fun σ ρ F μ S H R s hE g => f σ ρ F μ S H _ s hE (GP.seq g fun ds F1 μ1 H1 S1 e1 p1 s1 g1 vs rs => ?_)⟩
  split at g1
  · rename_i d
    split at g1
    · rename_i hl
      split at g1
      · rename_i src hsrc
        obtain ⟨v, rfl, rv⟩ := rs.inv1
        obtain ⟨a, rfl, ⟨ws, h1⟩, h2⟩ := stand_l s1 rv hsrc hl
        exact ⟨a, ws, rfl, h1, GP.here g1 s1 _ (walks_e h2)⟩
      · exact g1.elim
    · exact g1.elim
  · exact g1.elim
/-- zip of two lists, of two tuples -/
def cZip (c : AX) : IX := fun ρ S => bindO (c ρ S) fun ds S => match ds with
  | [d, e] => if isL d = isL e then (match srcOf d with
    | some src => (match srcOf e with
      | some src2 => some (.ok (.zip src src2), S)
      | none => none)
    | none => none) else none
  | _ => none
theorem stand_t {K : PySem.W.Frag} {F H : Hp} {μ : List Addr} {S : Store} {d : D} {v : V} {src : Src} (s : SR K T F μ S H) (r : Rep K F μ d v) (h : srcOf d = some src) (hl : isL d = false) : ∃ a, v = .ref a ∧ (∃ vs, SqT K H a vs) ∧ StandT K T F μ src a := by
  cases r with
  | @tup a xs ds hq rs =>
    cases h
    exact ⟨a, rfl, ⟨xs, s.sqT hq⟩, fun F' μ' S' H' es e p s' q => by cases q; exact ⟨xs, s'.sqT (ex_t e hq), rs.mono e p⟩⟩
  | lst => cases hl
  | fz => cases hl
  | loc => cases hl
  | _ => cases h
theorem ri_zip {elts : List Expr} {kk : Nat} {tpos : Pos} (ha : RA T X W [e, e2] ca) (hm : X.mg "zip" = none) (hg : Gl X "zip" := by rfl) (hs : starEach [e, e2] X.env = (false, eval e X.env) :: starEach [e2] X.env := by rfl) (hpl : (backTo pos (starEach [e2] X.env)).any (·.1) = false := by rfl) :
    RI T X W (.Tuple elts kk tpos) (.Call (.Name "zip" p) [e, e2] [] pos) (cZip ca) := by
  obtain ⟨t, pa, f⟩ := ha
  refine ⟨_, RZ.pi_zipA hg hm pa hs hpl, fun σ ρ F μ S H R s hE g => f σ ρ F μ S H _ s hE (GP.seq g fun ds F1 μ1 H1 S1 e1 p1 s1 g1 vs rs => ?_)⟩
  split at g1
  · rename_i d d2
    split at g1
    · rename_i hl
      split at g1
      · rename_i src hsrc
        split at g1
        · rename_i src2 hsrc2
          obtain ⟨v, u, rfl, rv, ru⟩ := rs.inv2
          cases hk : isL d2 with
          | true =>
            rw [hk] at hl
            obtain ⟨a, rfl, ⟨ws, h1⟩, h2⟩ := stand_l s1 rv hsrc hl
            obtain ⟨b, rfl, ⟨zs, k1⟩, k2⟩ := stand_l s1 ru hsrc2 hk
            exact ⟨a, b, ws, zs, rfl, .inl ⟨h1, k1, GP.here g1 s1 _ (walks_z h2 k2)⟩⟩
          | false =>
            rw [hk] at hl
            obtain ⟨a, rfl, ⟨ws, h1⟩, h2⟩ := stand_t s1 rv hsrc hl
            obtain ⟨b, rfl, ⟨zs, k1⟩, k2⟩ := stand_t s1 ru hsrc2 hk
            exact ⟨a, b, ws, zs, rfl, .inr ⟨h1, k1, GP.here g1 s1 _ (walks_zT h2 k2)⟩⟩
        · exact g1.elim
      · exact g1.elim
    · exact g1.elim
  · exact g1.elim
end

/-! ### targets -/
abbrev TX := D → PF.Env → Store → Out PF.Env
abbrev TXs := List D → PF.Env → Store → Out PF.Env
def NoEr : XV → Hp → List Addr → Hp → Prop := fun _ _ _ _ => False
/-- σ' has other values at the slots js alone -/
def Agree (js : List Nat) (σ σ' : L2.St) : Prop := σ'.length = σ.length ∧ ∀ j, j ∉ js → σ'[j]? = σ[j]?
theorem Agree.refl {js : List Nat} {σ : L2.St} : Agree js σ σ := ⟨rfl, fun _ _ => rfl⟩
theorem Agree.trans {js : List Nat} {σ σ1 σ2 : L2.St} (a : Agree js σ σ1) (b : Agree js σ1 σ2) : Agree js σ σ2 := ⟨b.1.trans a.1, fun j h => (b.2 j h).trans (a.2 j h)⟩
theorem Agree.mono {js ks : List Nat} {σ σ1 : L2.St} (a : Agree js σ σ1) (h : ∀ j ∈ js, j ∈ ks) : Agree ks σ σ1 := ⟨a.1, fun j hj => a.2 j fun z => hj (h j z)⟩
def RG (T : List (Addr × Str)) (X : Cx) (js : List Nat) (tg : Expr) (c : TX) : Prop := ∃ g, PG X tg g ∧
  ∀ d v σ ρ F μ S H (Q : L2.St → Hp → Prop), SR X.K T F μ S H → EnvR X.K F μ ρ σ → Rep X.K F μ d v → GP X.K T F μ (c d ρ S) (fun ρ' F' μ' H' _ => ∀ σ', EnvR X.K F' μ' ρ' σ' → Agree js σ σ' → Q σ' H') NoEr → g v σ H Q
def RGs (T : List (Addr × Str)) (X : Cx) (js : List Nat) (tgs : List Expr) (c : TXs) : Prop := ∃ g, PGs X tgs g ∧
  ∀ ds vs σ ρ F μ S H (Q : L2.St → Hp → Prop), SR X.K T F μ S H → EnvR X.K F μ ρ σ → Reps X.K F μ ds vs → GP X.K T F μ (c ds ρ S) (fun ρ' F' μ' H' _ => ∀ σ', EnvR X.K F' μ' ρ' σ' → Agree js σ σ' → Q σ' H') NoEr → g vs σ H Q
section
variable {X : Cx} {T : List (Addr × Str)} {pos : Pos}
def tName (i : Nat) : TX := fun d ρ S => some (.ok (ρ.set i (some d)), S)
theorem rg_name {i : Nat} {x : Str} (hN : X.N.Nodup) (hi : X.N[i]? = some x := by rfl) (hx : Loc X.env.scope x := by first | exact Or.inl rfl | exact Or.inr rfl) (hf : X.fn x = true ∨ X.env.scope.names.lookup x = some .local := by first | exact .inl rfl | exact .inr rfl) : RG T X [i] (.Name x pos) (tName i) := by
  refine ⟨_, pg_name hN hi hx hf, fun d v σ ρ F μ S H Q s hE r g => ?_⟩
  refine GP.here g s _ (hE.set r) ⟨by simp, fun j hj => ?_⟩
  rw [List.getElem?_set_ne (by simp at hj; exact fun z => hj z.symm)]
def tsNil : TXs := fun ds ρ S => match ds with
  | [] => some (.ok ρ, S)
  | _ => none
def tsCons (t : TX) (r : TXs) : TXs := fun ds ρ S => match ds with
  | d :: ds => bindO (t d ρ S) fun ρ1 S => r ds ρ1 S
  | [] => none
theorem rgs_nil : RGs T X [] [] tsNil := by
  refine ⟨_, pgs_nil, fun ds vs σ ρ F μ S H Q s hE r g => ?_⟩
  cases r with
  | nil => exact ⟨rfl, GP.here g s _ hE Agree.refl⟩
  | cons _ _ => exact g.elim
theorem rgs_cons {js ks : List Nat} {e : Expr} {es : List Expr} {t : TX} {r : TXs} (h : RG T X js e t) (hr : RGs T X ks es r) (hs : (assignEach (e :: es) X.env).map (·.2) = assign e X.env :: (assignEach es X.env).map (·.2) := by rfl) : RGs T X (js ++ ks) (e :: es) (tsCons t r) := by
  obtain ⟨g1, p1, f1⟩ := h
  obtain ⟨g2, p2, f2⟩ := hr
  refine ⟨_, pgs_cons p1 p2 hs, fun ds vs σ ρ F μ S H Q s hE rs g => ?_⟩
  cases rs with
  | nil => exact g.elim
  | cons rd rs =>
    refine ⟨_, _, rfl, f1 _ _ σ ρ F μ S H _ s hE rd (GP.seq g fun ρ1 F1 μ1 H1 S1 e1 q1 s1 gg σ1 hE1 a1 => ?_)⟩
    refine f2 _ _ σ1 ρ1 F1 μ1 S1 H1 Q s1 hE1 (rs.mono e1 q1) (GP.imp gg fun ρ2 F2 μ2 H2 S2 e2 q2 s2 k σ2 hE2 a2 => ?_)
    exact k σ2 hE2 ((a1.mono fun j hj => List.mem_append_left _ hj).trans (a2.mono fun j hj => List.mem_append_right _ hj))
/-- (a, b, ..) = a tuple -/
def tTup (n : Nat) (c : TXs) : TX := fun d ρ S => match d with
  | .tup ds => if ds.length = n then c ds ρ S else none
  | _ => none
theorem rg_tup {js : List Nat} {es : List Expr} {k n : Nat} {c : TXs} (hc : X.calm = true) (h : RGs T X js es c) (hn : (assignEach es X.env).length = n := by rfl) (hst : (assignEach es X.env).findIdx? (·.1) = none := by rfl) : RG T X js (.Tuple es k pos) (tTup n c) := by
  obtain ⟨g1, p1, f1⟩ := h
  refine ⟨_, pg_tup hc p1 hn hst, fun d v σ ρ F μ S H Q s hE r g => ?_⟩
  cases r with
  | @tup a xs ds hq rs =>
    unfold tTup at g
    dsimp only at g
    split at g
    · rename_i hl
      exact ⟨a, xs, rfl, s.sqT hq, by rw [← rs.length]; exact hl, f1 ds xs σ ρ F μ S H Q s hE rs g⟩
    · exact g.elim
  | _ => exact g.elim
/-- no exception -/
def noX {α : Type} (r : Out α) : Out α := match r with
  | some (.error _, _) => none
  | r => r
theorem GP.noX {α : Type} {K : PySem.W.Frag} {F : Hp} {μ : List Addr} {r : Out α} {ok : α → Hp → List Addr → Hp → Store → Prop} {er er' : XV → Hp → List Addr → Hp → Prop} (h : GP K T F μ (noX r) ok er) : GP K T F μ r ok er' := by
  match r, h with
  | some (.ok a, S), h => exact h
/-- o[i] = .., a list of the store -/
def tSub (a b : EX) : TX := fun d ρ S => bindO (noX (a ρ S)) fun o S => bindO (noX (b ρ S)) fun i S => match o, i with
  | .loc n, .int k => (match S[n]? with
    | some ds => (match ixN ds.length k with
      | some j => if d.pure = true then some (.ok ρ, S.set n (ds.set j d)) else none
      | none => none)
    | none => none)
  | _, _ => none
theorem pures_set {ds : List D} {d : D} {j : Nat} (h : D.pures ds = true) (hd : d.pure = true) : D.pures (ds.set j d) = true := by
  rw [D.pures_iff] at h ⊢
  intro x hx
  rcases List.mem_or_eq_of_mem_set hx with hx | rfl
  · exact h x hx
  · exact hd
theorem rg_sub {o i : Expr} {a b : EX} (ho : RE T false X (fun _ _ _ _ => False) o a) (hi : RE T false X (fun _ _ _ _ => False) i b)
    (ha : ∀ v, assign (.Subscript o i pos) X.env v = (do
      let ov ← holding [v] (eval o X.env)
      let iv ← holding [v, ov] (eval i X.env)
      standAt pos
      holding [v, ov, iv] (setItem ov iv v)
      release [v, ov, iv] []) := by intro _; rfl) : RG T X [] (.Subscript o i pos) (tSub a b) := by
  obtain ⟨t1, p1, f1⟩ := ho
  obtain ⟨t2, p2, f2⟩ := hi
  refine ⟨_, pg_sub p1 p2 set_list ha, fun d v σ ρ F μ S H Q s hE r g => ?_⟩
  refine f1 σ ρ F μ S H _ s hE (GP.noX (GP.seq (er := NoEr) g fun x F1 μ1 H1 S1 e1 q1 s1 g1 w rw1 => ?_))
  refine f2 σ ρ F1 μ1 S1 H1 _ s1 (hE.mono e1 q1) (GP.noX (GP.seq (er := NoEr) g1 fun y F2 μ2 H2 S2 e2 q2 s2 g2 u ru => ?_))
  have rw1 := Rep.mono e2 q2 rw1
  cases rw1 with
  | @loc n A hm =>
    cases ru with
    | int k =>
      obtain ⟨ds, vs, h1, h2, h3, _, h5⟩ := s2.get hm
      dsimp only at g2
      rw [h1] at g2
      dsimp only at g2
      split at g2
      · rename_i j hj
        split at g2
        · rename_i hp
          refine ⟨A, vs, k, j, rfl, rfl, h2, by rw [← h3.length]; exact hj, ?_⟩
          have s3 := s2.put hm (h3.set j (Rep.mono e2 q2 (Rep.mono e1 q1 r))) (pures_set h5 hp)
          exact GP.here g2 s3 _ ((hE.mono e1 q1).mono e2 q2) Agree.refl
        · exact g2.elim
      · exact g2.elim
    | _ => exact g2.elim
  | _ => exact g2.elim
end
end PF
set_option Elab.async false
set_option linter.all false
set_option maxRecDepth 100000
set_option maxHeartbeats 4000000
/-! PF6: comprehensions, statements, a def. -/
namespace PF
open PySem L2 Evl PySem.Spec PyProof.Rows
/-! ### comprehensions -/
/-- k turns from the i-th on; the list that grows is the store's n-th -/
def compGo (src : Src) (n : Nat) (f : D → Store → Out (Option D)) : Nat → Nat → Store → Out Unit
  | 0, i, S => match srcAt src S with
    | some ds => if ds.length ≤ i then some (.ok (), S) else none
    | none => none
  | k + 1, i, S => match srcAt src S with
    | some ds => (match ds[i]? with
      | some d => bindO (noX (f d S)) fun o S1 => match o with
        | none => compGo src n f k (i + 1) S1
        | some y => (match S1[n]? with
          | some acc => if y.pure = true ∧ acc.length < lim then compGo src n f k (i + 1) (S1.set n (acc ++ [y])) else none
          | none => none)
      | none => none)
    | none => none
def cComp (src : IX) (js : List Nat) (tgt : TX) (test : BX) (elt : EX) : EX := fun ρ S => bindO (src ρ S) fun src S => match srcAt src S with
  | some ds => bindO (compGo src S.length (fun d S => bindO (tgt d (wipeE ρ js) S) fun ρ1 S => bindO (test ρ1 S) fun b S => match b with
      | true => bindO (elt ρ1 S) fun y S => some (.ok (some y), S)
      | false => some (.ok none, S)) ds.length 0 (S ++ [[]])) fun _ S' => (match S'[S.length]? with
    | some acc => some (.ok (.lst acc), S'.take S.length)
    | none => none)
  | none => none
def bYes : BX := fun _ S => some (.ok true, S)
def RTs (T : List (Addr × Str)) (X : Cx) (W : WX) (ifs : List Expr) (c : BX) : Prop := ∃ t, PTs X ifs t ∧
  ∀ σ ρ F μ S H (Q : Bool → Hp → Prop), SR X.K T F μ S H → EnvR X.K F μ ρ σ → GP X.K T F μ (c ρ S) (fun b _ _ H' _ => Q b H') (ErW X.K X.mg fun cls dd H' => W cls dd σ H') → t σ H Q
theorem rts_nil {T : List (Addr × Str)} {X : Cx} {W : WX} : RTs T X W [] bYes := ⟨_, pts_nil, fun σ ρ F μ S H Q s hE g => GP.here g s⟩
theorem rts_one {T : List (Addr × Str)} {X : Cx} {W : WX} {e : Expr} {c : BX} (h : RT T X W e c) : RTs T X W [e] c := let ⟨t, p, f⟩ := h; ⟨t, pts_one p, f⟩
theorem wipe_get {σ : L2.St} : ∀ {vs : List Nat} {j : Nat}, j ∉ vs → (wipe σ vs)[j]? = σ[j]?
  | [], _, _ => rfl
  | v :: vs, j, h => by
    simp only [List.mem_cons, not_or] at h
    unfold wipe
    rw [List.getElem?_set_ne (fun z => h.1 z.symm)]
    exact wipe_get h.2
theorem wipe_in {σ : L2.St} : ∀ {vs : List Nat} {j : Nat}, j ∈ vs → j < σ.length → (wipe σ vs)[j]? = some none
  | v :: vs, j, h, hl => by
    unfold wipe
    by_cases e : v = j
    · subst e
      rw [List.getElem?_set_self (by rw [wipe_length]; exact hl)]
    · rw [List.getElem?_set_ne e]
      rcases List.mem_cons.mp h with z | z
      · exact absurd z.symm e
      · exact wipe_in z hl
theorem wipe_agree {σ σ' : L2.St} {vs js : List Nat} (h : Agree js (wipe σ vs) σ') (hj : ∀ j ∈ js, j ∈ vs) : wipe σ' vs = wipe σ vs := by
  have hl : σ'.length = σ.length := by rw [h.1, wipe_length]
  apply List.ext_getElem?
  intro j
  by_cases hv : j ∈ vs
  · by_cases hlt : j < σ.length
    · rw [wipe_in hv (by omega), wipe_in hv hlt]
    · rw [List.getElem?_eq_none (by rw [wipe_length]; omega), List.getElem?_eq_none (by rw [wipe_length]; omega)]
  · rw [wipe_get hv, h.2 j (fun z => hv (hj j z)), wipe_get hv]
abbrev WF : WX := fun _ _ _ _ => False
theorem srcAt_app {src : Src} {S : Store} {L : List D} {ds : List D} : srcAt src S = some ds → srcAt src (S ++ [L]) = some ds := by
  induction src generalizing ds with
  | items es => exact id
  | cell n =>
    intro h
    simp only [srcAt] at h ⊢
    have := (List.getElem?_eq_some_iff.mp h).1
    rw [List.getElem?_append_left this]; exact h
  | enum s ih =>
    intro h
    simp only [srcAt, Option.map_eq_some_iff] at h ⊢
    obtain ⟨es, h, rfl⟩ := h
    exact ⟨es, ih h, rfl⟩
  | zip a b iha ihb =>
    intro h
    simp only [srcAt] at h ⊢
    split at h
    · rename_i xs ys h1 h2
      rw [iha h1, ihb h2]
      exact h
    · cases h
theorem GP.er {α : Type} {K : PySem.W.Frag} {T : List (Addr × Str)} {F : Hp} {μ : List Addr} {r : Out α} {ok : α → Hp → List Addr → Hp → Store → Prop} {er : XV → Hp → List Addr → Hp → Prop} (h : GP K T F μ r ok NoEr) : GP K T F μ r ok er := by
  match r, h with
  | some (.ok a, S), h => exact h
  | some (.error x, S), h => exact fun F' μ' H' e p s => (h F' μ' H' e p s).elim
/-! the readings that data give, whatever the context -/
def tE (T : List (Addr × Str)) (fr : Bool) (K : PySem.W.Frag) (mg : Str → Option Value) (W : WX) (c : EX) : TE := fun σ H Q => ∃ ρ F μ S, SR K T F μ S H ∧ EnvR K F μ ρ σ ∧ GP K T F μ (c ρ S) (OkV K fr Q) (ErW K mg fun cls dd H' => W cls dd σ H')
def tTs (T : List (Addr × Str)) (K : PySem.W.Frag) (mg : Str → Option Value) (W : WX) (c : BX) : TT := fun σ H Q => ∃ ρ F μ S, SR K T F μ S H ∧ EnvR K F μ ρ σ ∧ GP K T F μ (c ρ S) (fun b _ _ H' _ => Q b H') (ErW K mg fun cls dd H' => W cls dd σ H')
def gE (T : List (Addr × Str)) (K : PySem.W.Frag) (js : List Nat) (c : TX) : TG := fun v σ H Q => ∃ d ρ F μ S, SR K T F μ S H ∧ EnvR K F μ ρ σ ∧ Rep K F μ d v ∧ GP K T F μ (c d ρ S) (fun ρ' F' μ' H' _ => ∀ σ', EnvR K F' μ' ρ' σ' → Agree js σ σ' → Q σ' H') NoEr
theorem RE.pe {T : List (Addr × Str)} {fr : Bool} {X : Cx} {W : WX} {e : Expr} {c : EX} (h : RE T fr X W e c) : PE X e (tE T fr X.K X.mg W c) := by
  obtain ⟨t, p, f⟩ := h
  exact ⟨fun pins s σ H Q I ⟨ρ, F, μ, S, a, b, g⟩ => p.run pins s σ H Q I (f σ ρ F μ S H Q a b g)⟩
theorem RTs.pts {T : List (Addr × Str)} {X : Cx} {W : WX} {e : List Expr} {c : BX} (h : RTs T X W e c) : PTs X e (tTs T X.K X.mg W c) := by
  obtain ⟨t, p, f⟩ := h
  exact ⟨fun pins s σ H Q I ⟨ρ, F, μ, S, a, b, g⟩ => p.run pins s σ H Q I (f σ ρ F μ S H Q a b g)⟩
theorem RG.pg {T : List (Addr × Str)} {X : Cx} {js : List Nat} {e : Expr} {c : TX} (h : RG T X js e c) : PG X e (gE T X.K js c) := by
  obtain ⟨t, p, f⟩ := h
  exact ⟨fun pins s σ H v u Q I r ⟨d, ρ, F, μ, S, a, b, rd, g⟩ => p.run pins s σ H v u Q I r (f d v σ ρ F μ S H Q a b rd g)⟩
section
variable {X : Cx} {T : List (Addr × Str)} {W : WX} {js : List Nat} {elt tg iter : Expr} {ifs : List Expr} {scope : Scope} {own : List (Str × Nat)} {pos : Pos} {ci : IX} {ct : TX} {cb : BX} {ce : EX}
/-- what a comprehension's reading asks -/
theorem comp_read {wi : TI} {g : TG} {tt : TT} {te : TE} {X' : Cx} (hjs : ∀ j ∈ js, j ∈ own.map (·.2)) (hK : X'.K = X.K)
    (fi : ∀ σ ρ F μ S H (R : It → Hp → Prop), SR X.K T F μ S H → EnvR X.K F μ ρ σ → GP X.K T F μ (ci ρ S) (fun src F' μ' H' _ => ∀ J, Walks X.K T F' μ' src J → R J H') (ErW X.K X.mg fun cls dd H' => W cls dd σ H') → wi σ H R)
    (fg : ∀ d v σ ρ F μ S H (Q : L2.St → Hp → Prop), SR X.K T F μ S H → EnvR X.K F μ ρ σ → Rep X.K F μ d v → GP X.K T F μ (ct d ρ S) (fun ρ' F' μ' H' _ => ∀ σ', EnvR X.K F' μ' ρ' σ' → Agree js σ σ' → Q σ' H') NoEr → g v σ H Q)
    (ft : ∀ σ ρ F μ S H (Q : Bool → Hp → Prop), SR X.K T F μ S H → EnvR X.K F μ ρ σ → GP X.K T F μ (cb ρ S) (fun b _ _ H' _ => Q b H') (ErW X.K X.mg fun cls dd H' => WF cls dd σ H') → tt σ H Q)
    (fe : ∀ σ ρ F μ S H Q, SR X.K T F μ S H → EnvR X.K F μ ρ σ → GP X.K T F μ (ce ρ S) (OkV X.K false Q) (ErW X.K X.mg fun cls dd H' => WF cls dd σ H') → te σ H Q)
    {σ ρ F μ S H Q} (s : SR X.K T F μ S H) (hE : EnvR X.K F μ ρ σ) (gg : GP X.K T F μ (cComp ci (own.map (·.2)) ct cb ce ρ S) (OkV X.K true Q) (ErW X.K X.mg fun cls dd H' => W cls dd σ H')) :
    tLc wi g tt te (own.map (·.2)) σ H Q := by
  refine fi σ ρ F μ S H _ s hE (GP.seq gg fun src F1 μ1 H1 S1 e1 p1 s1 g1 J hJ => ?_)
  have hE1 := hE.mono e1 p1
  split at g1
  case h_2 => exact g1.elim
  rename_i ds hds
  intro Dl hD
  have hF := fresh_back s1.ex hD
  have s2 : SR X.K T F1 (μ1 ++ [Dl]) (S1 ++ [[]]) (upd H1 Dl (.lst [])) := (s1.lay hD).alloc hF (s1.notin hD) upd_same .nil rfl
  have hn : (μ1 ++ [Dl])[S1.length]? = some Dl := by rw [← s1.len, List.getElem?_append_right (Nat.le_refl _)]; simp
  generalize hf : (fun d S => bindO (ct d (wipeE ρ (own.map (·.2))) S) fun ρ1 S => bindO (cb ρ1 S) fun b S => match b with
      | true => bindO (ce ρ1 S) fun y S => some (.ok (some y), S)
      | false => some (.ok none, S) : D → Store → Out (Option D)) = f at g1
  generalize hk : (fun _ S' => match S'[S1.length]? with
    | some acc => some (.ok (.lst acc), S'.take S1.length)
    | none => none : Unit → Store → Out D) = k at g1
  generalize hr : bindO (compGo src S1.length f ds.length 0 (S1 ++ [[]])) k = r at g1
  refine ⟨fun i m H' => ∃ F' μ' S', Ex F1 F' ∧ (μ1 ++ [Dl]) <+: μ' ∧ SR X.K T F' μ' S' H' ∧ bindO (compGo src S1.length f m i S') k = r,
    ⟨ds.length, F1, μ1 ++ [Dl], _, Ex.refl _, List.prefix_refl _, s2, hr⟩, ?_⟩
  rintro i m H2 ⟨F2, μ2, S2, e2, p2, s3, k2⟩
  have hDl2 := pre_get p2 hn
  have p12 : μ1 <+: μ2 := (List.prefix_append _ _).trans p2
  cases m with
  | zero =>
    left
    unfold compGo at k2
    split at k2
    case h_2 => rw [← k2] at g1; exact g1.elim
    rename_i es hes
    split at k2
    case isFalse => rw [← k2] at g1; exact g1.elim
    rename_i hl
    refine ⟨(hJ F2 μ2 S2 H2 es i e2 p12 s3 hes).2 hl, ?_⟩
    obtain ⟨acc, vs, a1, a2, a3, a4, a5⟩ := s3.get hDl2
    rw [bindO_ok, ← hk] at k2
    dsimp only at k2
    rw [a1] at k2
    dsimp only at k2
    rw [← k2] at g1
    have s4 := s3.cut S1.length
    have hcut : μ2.take S1.length = μ1 := by
      obtain ⟨t, rfl⟩ := p12
      rw [← s1.len]; simp
    rw [hcut] at s4
    exact g1 F2 μ1 H2 e2 (List.prefix_refl _) s4 _ ⟨acc, Dl, vs, rfl, rfl, a4, s1.notin hD, a2, a3.free a5⟩
  | succ m =>
    right
    unfold compGo at k2
    split at k2
    case h_2 => rw [← k2] at g1; exact g1.elim
    rename_i es hes
    split at k2
    case h_2 => rw [← k2] at g1; exact g1.elim
    rename_i d hd
    obtain ⟨hgo, hy⟩ := (hJ F2 μ2 S2 H2 es i e2 p12 s3 hes).1 d hd
    cases hfd : noX (f d S2) with
    | none => rw [hfd] at k2; rw [← k2] at g1; exact g1.elim
    | some q =>
      obtain ⟨q, S3⟩ := q
      cases q with
      | error x =>
        exfalso
        unfold noX at hfd
        split at hfd
        · cases hfd
        · rename_i hne
          exact hne _ _ hfd
      | ok o =>
        rw [hfd, bindO_ok] at k2
        have known : GP X.K T F2 μ2 (f d S2) (fun o' F' μ' H' S' => o' = o ∧ S' = S3 ∧ Ex F2 F' ∧ μ2 <+: μ' ∧ SR X.K T F' μ' S' H') NoEr := by
          apply GP.noX (er := NoEr)
          rw [hfd]
          exact fun F' μ' H' e p s' => ⟨rfl, rfl, e, p, s'⟩
        rw [← hf] at known
        refine ⟨hgo, fun H' => ∃ F' μ' S', Ex F1 F' ∧ (μ1 ++ [Dl]) <+: μ' ∧ SR X.K T F' μ' S' H' ∧ bindO (compGo src S1.length f m (i + 1) S') k = r, fun H' h => ⟨m, Nat.lt_succ_self _, h⟩, fun x H3 yl => ?_⟩
        obtain ⟨F3, e3, s5, rx⟩ := hy x H3 yl
        have hE3 : EnvR X.K F3 μ2 (wipeE ρ (own.map (·.2))) (wipe σ (own.map (·.2))) := (hE1.wipe _).mono (e2.trans e3) p12
        have known3 := GP.mono known e3 (List.prefix_refl _)
        dsimp only at known3
        refine fg d x _ _ F3 μ2 S2 H3 _ s5 hE3 rx (GP.seq known3 fun ρ1 F4 μ4 H4 S4 e4 p4 s4 k4 σ4 hE4 a4 => ?_)
        refine ⟨wipe_agree a4 hjs, ?_⟩
        refine ft σ4 ρ1 F4 μ4 S4 H4 _ s4 hE4 (GP.seq (GP.er k4) fun b F5 μ5 H5 S5 e5 p5 s5' k5 => ?_)
        cases b with
        | false =>
          rw [if_neg Bool.false_ne_true]
          obtain ⟨h1, h2, h3, h4, h5⟩ := GP.here k5 s5'
          subst h1; subst h2
          exact ⟨F5, μ5, S5, e2.trans h3, p2.trans h4, h5, k2⟩
        | true =>
          rw [if_pos rfl]
          refine fe σ4 ρ1 F5 μ5 S5 H5 _ s5' (hE4.mono e5 p5) (GP.seq k5 fun y F6 μ6 H6 S6 e6 p6 s6 k6 v rv => ?_)
          obtain ⟨h1, h2, h3, h4, h5⟩ := GP.here k6 s6
          subst h1; subst h2
          have hDl6 := pre_get h4 hDl2
          obtain ⟨acc, vs, a1, a2, a3, a4', a5⟩ := s6.get hDl6
          dsimp only at k2
          rw [a1] at k2
          dsimp only at k2
          split at k2
          case isFalse => rw [← k2] at g1; exact g1.elim
          rename_i hc
          refine ⟨vs, a2, by rw [← a3.length]; exact Nat.lt_of_lt_of_le hc.2 (by decide), F6, μ6, _, e2.trans h3, p2.trans h4, s6.put hDl6 (a3.append (Reps.one rv)) (by
            rw [D.pures_append, a5, Bool.true_and]
            simp [D.pures, hc.1]), k2⟩
/-- [elt for tg in iter if ..] -/
theorem re_comp {os : List Nat} (hc : X.calm = true) (hN : X.N.Nodup) (ok : BlkOk X.N X.env.scope scope own) (hos : own.map (·.2) = os) (hjs : ∀ j ∈ js, j ∈ os) (hi : RI T X W tg iter ci)
    (hg : ∀ (s : Shared) (H : Hp) (C : Addr) (cl : List (Str × Addr)) (fp : List Addr), RG T (X.blk s H scope (compEnvC scope cl C X.env) fp) js tg ct) (ht : ∀ (s : Shared) (H : Hp) (C : Addr) (cl : List (Str × Addr)) (fp : List Addr), RTs T (X.blk s H scope (compEnvC scope cl C X.env) fp) WF ifs cb)
    (he : ∀ (s : Shared) (H : Hp) (C : Addr) (cl : List (Str × Addr)) (fp : List Addr), RE T false (X.blk s H scope (compEnvC scope cl C X.env) fp) WF elt ce) (hs : ∀ x, foldedSetIterable iter X.env x = pure x := by intro _; rfl) :
    RE T true X W (.ListComp elt [⟨tg, iter, ifs, 0⟩] scope pos) (cComp ci os ct cb ce) := by
  subst hos
  obtain ⟨wi, pi, fi⟩ := hi
  refine ⟨_, pe_lc (g := gE T X.K js ct) (tt := tTs T X.K X.mg WF cb) (te := tE T false X.K X.mg WF ce) hc hN pi ok (fun s H C cl fp => (hg s H C cl fp).pg) (fun s H C cl fp => (ht s H C cl fp).pts) (fun s H C cl fp => (he s H C cl fp).pe) hs, fun σ ρ F μ S H Q s hE g => ?_⟩
  exact comp_read (X' := X) hjs rfl fi (fun d v σ ρ F μ S H Q a b c g => ⟨d, ρ, F, μ, S, a, b, c, g⟩) (fun σ ρ F μ S H Q a b g => ⟨ρ, F, μ, S, a, b, g⟩) (fun σ ρ F μ S H Q a b g => ⟨ρ, F, μ, S, a, b, g⟩) s hE g
end

/-! ### statements -/
inductive Fl where
  | nx (ρ : PF.Env) | brk (ρ : PF.Env) | ct (ρ : PF.Env) | ret (d : D) | exc (x : XV) (ρ : PF.Env)
abbrev SX := PF.Env → Store → Out Fl
def RetR (K : PySem.W.Frag) (fr : Bool) (F : Hp) (μ : List Addr) (H : Hp) (d : D) (v : V) : Prop := match fr with
  | false => Rep K F μ d v
  | true => Fresh K F μ H d v ∨ ∃ n, d = .loc n ∧ Rep K F μ (.loc n) v
def OkF (K : PySem.W.Frag) (mg : Str → Option Value) (fr : Bool) (D : Ends) (W : WX) : Fl → Hp → List Addr → Hp → Store → Prop := fun fl F μ H _ => match fl with
  | .nx ρ => ∀ σ, EnvR K F μ ρ σ → D.nx σ H
  | .brk ρ => ∀ σ, EnvR K F μ ρ σ → D.bk σ H
  | .ct ρ => ∀ σ, EnvR K F μ ρ σ → D.ct σ H
  | .ret d => ∀ v, RetR K fr F μ H d v → D.rt v H
  | .exc x ρ => ∀ σ cls dd, EnvR K F μ ρ σ → XRep K mg F μ x cls dd → W cls dd σ H
def RS (T : List (Addr × Str)) (fr : Bool) (X : Cx) (W : WX) (st : Stmt) (c : SX) : Prop := ∃ t, PS X st t ∧
  ∀ σ ρ F μ S H D, SR X.K T F μ S H → EnvR X.K F μ ρ σ → GP X.K T F μ (c ρ S) (OkF X.K X.mg fr D W) NoEr → t D σ H
def RSs (T : List (Addr × Str)) (fr : Bool) (X : Cx) (W : WX) (st : List Stmt) (c : SX) : Prop := ∃ t, PSs X st t ∧
  ∀ σ ρ F μ S H D, SR X.K T F μ S H → EnvR X.K F μ ρ σ → GP X.K T F μ (c ρ S) (OkF X.K X.mg fr D W) NoEr → t D σ H
/-- an expression's outcome in a statement -/
def stm {α : Type} (ρ : PF.Env) (r : Out α) (k : α → Store → Out Fl) : Out Fl := match r with
  | none => none
  | some (.ok a, S) => k a S
  | some (.error x, S) => some (.ok (.exc x ρ), S)
@[simp] theorem stm_ok {α : Type} (ρ : PF.Env) (a : α) (S : Store) (k : α → Store → Out Fl) : stm ρ (some (.ok a, S)) k = k a S := rfl
@[simp] theorem stm_err {α : Type} (ρ : PF.Env) (x : XV) (S : Store) (k : α → Store → Out Fl) : stm ρ (some (.error x, S)) k = some (.ok (.exc x ρ), S) := rfl
@[simp] theorem stm_none {α : Type} (ρ : PF.Env) (k : α → Store → Out Fl) : stm ρ none k = none := rfl
section
variable {X : Cx} {T : List (Addr × Str)} {W : WX} {fr : Bool}
theorem GP.stm {α : Type} {r : Out α} {k : α → Store → Out Fl} {σ : L2.St} {ρ : PF.Env} {F : Hp} {μ : List Addr} {D : Ends} {ok2 : α → Hp → List Addr → Hp → Store → Prop} (h : GP X.K T F μ (PF.stm ρ r k) (OkF X.K X.mg fr D W) NoEr) (hE : EnvR X.K F μ ρ σ)
    (f : ∀ a F' μ' H' S', Ex F F' → μ <+: μ' → SR X.K T F' μ' S' H' → GP X.K T F' μ' (k a S') (OkF X.K X.mg fr D W) NoEr → ok2 a F' μ' H' S') : GP X.K T F μ r ok2 (ErW X.K X.mg fun cls dd H' => W cls dd σ H') := by
  match r, h with
  | some (.ok a, S), h => exact fun F' μ' H' e p s => f a F' μ' H' S e p s (GP.mono h e p)
  | some (.error x, S), h => exact fun F' μ' H' e p s cls dd hx => h F' μ' H' e p s σ cls dd (hE.mono e p) hx
def sNil : SX := fun ρ S => some (.ok (.nx ρ), S)
def sSeq (a b : SX) : SX := fun ρ S => bindO (a ρ S) fun fl S => match fl with
  | .nx ρ' => b ρ' S
  | fl => some (.ok fl, S)
theorem rss_nil : RSs T fr X W [] sNil := ⟨_, pss_nil, fun σ ρ F μ S H D s hE g => GP.here g s σ hE⟩
theorem rss_one {st : Stmt} {c : SX} (h : RS T fr X W st c) : RSs T fr X W [st] c := let ⟨t, p, f⟩ := h; ⟨t, pss_one p, f⟩
theorem rss_cons {st : Stmt} {rest : List Stmt} {a b : SX} (h : RS T fr X W st a) (hr : RSs T fr X W rest b) : RSs T fr X W (st :: rest) (sSeq a b) := by
  obtain ⟨t1, p1, f1⟩ := h
  obtain ⟨t2, p2, f2⟩ := hr
  refine ⟨_, pss_cons p1 p2, fun σ ρ F μ S H D s hE g => ?_⟩
  refine f1 σ ρ F μ S H _ s hE (GP.seq g fun fl F1 μ1 H1 S1 e1 q1 s1 g1 => ?_)
  cases fl with
  | nx ρ' => exact fun σ' hE' => f2 σ' ρ' F1 μ1 S1 H1 D s1 hE' g1
  | brk ρ' => exact GP.here (er := NoEr) g1 s1
  | ct ρ' => exact GP.here (er := NoEr) g1 s1
  | ret d => exact GP.here (er := NoEr) g1 s1
  | exc x ρ' => exact GP.here (er := NoEr) g1 s1
theorem rs_pass {pos : Pos} : RS T fr X W (.Pass pos) sNil := ⟨_, ps_pass, fun σ ρ F μ S H D s hE g => GP.here g s σ hE⟩
def sBrk : SX := fun ρ S => some (.ok (.brk ρ), S)
def sCt : SX := fun ρ S => some (.ok (.ct ρ), S)
theorem rs_break {pos : Pos} : RS T fr X W (.Break pos) sBrk := ⟨_, ps_break, fun σ ρ F μ S H D s hE g => GP.here g s σ hE⟩
theorem rs_continue {pos : Pos} : RS T fr X W (.Continue pos) sCt := ⟨_, ps_continue, fun σ ρ F μ S H D s hE g => GP.here g s σ hE⟩
def sRet (c : EX) : SX := fun ρ S => stm ρ (c ρ S) fun d S => some (.ok (.ret d), S)
theorem rs_ret {e : Expr} {c : EX} {pos : Pos} (h : RE T fr X W e c) : RS T fr X W (.Return (some e) pos) (sRet c) := by
  obtain ⟨t, p, f⟩ := h
  refine ⟨_, ps_ret p, fun σ ρ F μ S H D s hE g => f σ ρ F μ S H _ s hE (GP.stm g hE fun d F1 μ1 H1 S1 e1 q1 s1 g1 v r => ?_)⟩
  refine GP.here g1 s1 v ?_
  cases fr with
  | false => exact r
  | true => exact .inl r
/-- a list of the store is handed back: its content goes -/
def sRetL (c : EX) : SX := fun ρ S => stm ρ (c ρ S) fun d S => match d with
  | .loc n => some (.ok (.ret (.loc n)), S)
  | _ => none
theorem rs_retL {e : Expr} {c : EX} {pos : Pos} (h : RE T false X W e c) : RS T true X W (.Return (some e) pos) (sRetL c) := by
  obtain ⟨t, p, f⟩ := h
  refine ⟨_, ps_ret p, fun σ ρ F μ S H D s hE g => f σ ρ F μ S H _ s hE (GP.stm g hE fun d F1 μ1 H1 S1 e1 q1 s1 g1 v r => ?_)⟩
  cases d with
  | loc n => exact GP.here g1 s1 v (.inr ⟨n, rfl, r⟩)
  | _ => exact g1.elim
theorem rs_retN {pos : Pos} : RS T false X W (.Return none pos) (sRet (cK .non)) := ⟨_, ps_retN, fun σ ρ F μ S H D s hE g => GP.here g s .non .non⟩
def sIf (c : BX) (a b : SX) : SX := fun ρ S => stm ρ (c ρ S) fun x S => match x with
  | true => a ρ S
  | false => b ρ S
theorem rs_if {e : Expr} {as bs : List Stmt} {c : BX} {a b : SX} {pos : Pos} (h : RT T X W e c) (ha : RSs T fr X W as a) (hb : RSs T fr X W bs b) : RS T fr X W (.If e as bs pos) (sIf c a b) := by
  obtain ⟨t, p, f⟩ := h
  obtain ⟨t1, p1, f1⟩ := ha
  obtain ⟨t2, p2, f2⟩ := hb
  refine ⟨_, ps_if p p1 p2, fun σ ρ F μ S H D s hE g => f σ ρ F μ S H _ s hE (GP.stm g hE fun x F1 μ1 H1 S1 e1 q1 s1 g1 => ?_)⟩
  cases x with
  | true => rw [if_pos rfl]; exact f1 σ ρ F1 μ1 S1 H1 D s1 (hE.mono e1 q1) g1
  | false => rw [if_neg Bool.false_ne_true]; exact f2 σ ρ F1 μ1 S1 H1 D s1 (hE.mono e1 q1) g1
def sExpr (c : EX) : SX := fun ρ S => stm ρ (c ρ S) fun _ S => some (.ok (.nx ρ), S)
theorem rs_expr {e : Expr} {c : EX} {pos : Pos} (h : RE T false X W e c) (hs : swapsWith e none pos.line X.env = pure false := by rfl) : RS T fr X W (.Expr e pos) (sExpr c) := by
  obtain ⟨t, p, f⟩ := h
  exact ⟨_, ps_expr p hs, fun σ ρ F μ S H D s hE g => f σ ρ F μ S H _ s hE (GP.stm g hE fun d F1 μ1 H1 S1 e1 q1 s1 g1 v r => GP.here g1 s1 σ (hE.mono e1 q1))⟩
/-- x = e -/
def sSet (i : Nat) (c : EX) : SX := fun ρ S => stm ρ (c ρ S) fun d S => some (.ok (.nx (ρ.set i (some d))), S)
theorem rs_set {i : Nat} {x : Str} {e : Expr} {c : EX} {pos pos' : Pos} (hN : X.N.Nodup) (h : RE T false X W e c) (hi : X.N[i]? = some x := by rfl) (hx : Loc X.env.scope x := by first | exact Or.inl rfl | exact Or.inr rfl) (hs : swapsWith e (some (.Name x pos')) pos.line X.env = pure false := by rfl)
    (hf : X.fn x = true ∨ X.env.scope.names.lookup x = some .local := by first | exact .inl rfl | exact .inr rfl) : RS T fr X W (.Assign [.Name x pos'] e pos) (sSet i c) := by
  obtain ⟨t, p, f⟩ := h
  exact ⟨_, ps_set hN hi hx p hs hf, fun σ ρ F μ S H D s hE g => f σ ρ F μ S H _ s hE (GP.stm g hE fun d F1 μ1 H1 S1 e1 q1 s1 g1 v r => GP.here g1 s1 _ ((hE.mono e1 q1).set r))⟩
/-- x = [..], a comprehension on one line -/
theorem rs_setLc {os : List Nat} {i : Nat} {y : Str} {elt tg iter : Expr} {ifs : List Expr} {scope : Scope} {own : List (Str × Nat)} {js : List Nat} {pos spos py : Pos} {ci : IX} {ct : TX} {cb : BX} {ce : EX} (hc : X.calm = true) (hN : X.N.Nodup)
    (ok : BlkOk X.N X.env.scope scope own) (hos : own.map (·.2) = os) (hjs : ∀ j ∈ js, j ∈ os) (hi : RI T X W tg iter ci)
    (hg : ∀ (s : Shared) (H : Hp) (C : Addr) (cl : List (Str × Addr)) (fp : List Addr), RG T (X.blk s H scope (compEnvC scope cl C X.env) fp) js tg ct) (ht : ∀ (s : Shared) (H : Hp) (C : Addr) (cl : List (Str × Addr)) (fp : List Addr), RTs T (X.blk s H scope (compEnvC scope cl C X.env) fp) WF ifs cb)
    (he : ∀ (s : Shared) (H : Hp) (C : Addr) (cl : List (Str × Addr)) (fp : List Addr), RE T false (X.blk s H scope (compEnvC scope cl C X.env) fp) WF elt ce) (c2 : EX) (hc2 : ∀ (t : TE), (∀ σ ρ F μ S H Q, SR X.K T F μ S H → EnvR X.K F μ ρ σ → GP X.K T F μ (cComp ci os ct cb ce ρ S) (OkV X.K true Q) (ErW X.K X.mg fun cls dd H' => W cls dd σ H') → t σ H Q) →
      ∀ σ ρ F μ S H Q, SR X.K T F μ S H → EnvR X.K F μ ρ σ → GP X.K T F μ (c2 ρ S) (OkV X.K false Q) (ErW X.K X.mg fun cls dd H' => W cls dd σ H') → t σ H Q)
    (hsw : swapsWith (.ListComp elt [⟨tg, iter, ifs, 0⟩] scope pos) (some (.Name y py)) spos.line X.env = pure true) (hy : X.N[i]? = some y := by rfl) (hyl : X.env.scope.names.lookup y = some .local := by rfl) (hs : ∀ x, foldedSetIterable iter X.env x = pure x := by intro _; rfl) :
    RS T fr X W (.Assign [.Name y py] (.ListComp elt [⟨tg, iter, ifs, 0⟩] scope pos) spos) (sSet i c2) := by
  subst hos
  obtain ⟨wi, pi, fi⟩ := hi
  refine ⟨_, ps_setLc (g := gE T X.K js ct) (tt := tTs T X.K X.mg WF cb) (te := tE T false X.K X.mg WF ce) hc hN hy hyl hsw pi ok (fun s H C cl fp => (hg s H C cl fp).pg) (fun s H C cl fp => (ht s H C cl fp).pts) (fun s H C cl fp => (he s H C cl fp).pe) hs, fun σ ρ F μ S H D s hE g => ?_⟩
  refine hc2 _ (fun σ ρ F μ S H Q s hE g => comp_read (X' := X) hjs rfl fi (fun d v σ ρ F μ S H Q a b c g => ⟨d, ρ, F, μ, S, a, b, c, g⟩) (fun σ ρ F μ S H Q a b g => ⟨ρ, F, μ, S, a, b, g⟩) (fun σ ρ F μ S H Q a b g => ⟨ρ, F, μ, S, a, b, g⟩) s hE g) σ ρ F μ S H _ s hE ?_
  exact GP.stm g hE fun d F1 μ1 H1 S1 e1 q1 s1 g1 v r => GP.here g1 s1 _ ((hE.mono e1 q1).set r)
/-- how the new list is held: as a value, or in the store -/
theorem hold_val {c : EX} : ∀ (t : TE), (∀ σ ρ F μ S H Q, SR X.K T F μ S H → EnvR X.K F μ ρ σ → GP X.K T F μ (c ρ S) (OkV X.K true Q) (ErW X.K X.mg fun cls dd H' => W cls dd σ H') → t σ H Q) →
      ∀ σ ρ F μ S H Q, SR X.K T F μ S H → EnvR X.K F μ ρ σ → GP X.K T F μ (c ρ S) (OkV X.K false Q) (ErW X.K X.mg fun cls dd H' => W cls dd σ H') → t σ H Q :=
  fun t f σ ρ F μ S H Q s hE g => f σ ρ F μ S H Q s hE (gp_freeze g)
theorem hold_loc {c : EX} : ∀ (t : TE), (∀ σ ρ F μ S H Q, SR X.K T F μ S H → EnvR X.K F μ ρ σ → GP X.K T F μ (c ρ S) (OkV X.K true Q) (ErW X.K X.mg fun cls dd H' => W cls dd σ H') → t σ H Q) →
      ∀ σ ρ F μ S H Q, SR X.K T F μ S H → EnvR X.K F μ ρ σ → GP X.K T F μ (cAlloc c ρ S) (OkV X.K false Q) (ErW X.K X.mg fun cls dd H' => W cls dd σ H') → t σ H Q := by
  refine fun t f σ ρ F μ S H Q s hE g => f σ ρ F μ S H Q s hE (GP.seq g fun d F' μ' H' S' e p s' q v hf => ?_)
  obtain ⟨ds, a, vs, rfl, rfl, hF, hm, hH, r⟩ := hf
  dsimp only at q
  split at q
  · rename_i hp
    exact q F' (μ' ++ [a]) H' (Ex.refl _) (List.prefix_append _ _) (s'.alloc hF hm hH r hp) _ (.loc (by rw [← s'.len, List.getElem?_append_right (Nat.le_refl _)]; simp))
  · exact q.elim
/-- a, b = x, y -/
def sPar (i j : Nat) (r : AX) : SX := fun ρ S => stm ρ (r ρ S) fun ds S => match ds with
  | [x, y] => some (.ok (.nx ((ρ.set i (some x)).set j (some y))), S)
  | _ => none
theorem rs_par {i j : Nat} {x y : Str} {a b : Expr} {c : AX} {px py pt : Pos} {kt k2 pt2} {pos : Pos} (hc : X.calm = true) (hN : X.N.Nodup) (ha : RA T X W [a, b] c) (hi : X.N[i]? = some x := by rfl) (hj : X.N[j]? = some y := by rfl) (hij : i ≠ j := by decide)
    (hx : X.env.scope.names.lookup x = some .local := by rfl) (hy : X.env.scope.names.lookup y = some .local := by rfl)
    (hw : swappedStores [.Tuple [.Name x px, .Name y py] kt pt] (.Tuple [a, b] k2 pt2) X.env = pure (some [x, y]) := by rfl)
    (hs : swapsWithSole [.Tuple [.Name x px, .Name y py] kt pt] (.Tuple [a, b] k2 pt2) pos.line X.env = pure false := by rfl) :
    RS T fr X W (.Assign [.Tuple [.Name x px, .Name y py] kt pt] (.Tuple [a, b] k2 pt2) pos) (sPar i j c) := by
  obtain ⟨t, p, f⟩ := ha
  refine ⟨_, ps_par hc hN hi hj hij hx hy p hw hs, fun σ ρ F μ S H D s hE g => f σ ρ F μ S H _ s hE (GP.stm g hE fun ds F1 μ1 H1 S1 e1 q1 s1 g1 vs r => ?_)⟩
  split at g1
  · obtain ⟨v, u, rfl, r1, r2⟩ := r.inv2
    exact ⟨v, u, rfl, GP.here g1 s1 _ (((hE.mono e1 q1).set r1).set r2)⟩
  · exact g1.elim
/-- target = e -/
def sAsg (t : TX) (c : EX) : SX := fun ρ S => stm ρ (c ρ S) fun d S => bindO (noX (t d ρ S)) fun ρ' S => some (.ok (.nx ρ'), S)
theorem rs_asg {js : List Nat} {tg e : Expr} {c : EX} {ct : TX} {pos : Pos} (h : RE T false X W e c) (hg : RG T X js tg ct) (hs : swapsWithSole [tg] e pos.line X.env = pure false := by rfl) (hw : swappedStores [tg] e X.env = pure none := by rfl)
    (h1 : (assignEach [tg] X.env).map (·.2) = [assign tg X.env] := by rfl) : RS T fr X W (.Assign [tg] e pos) (sAsg ct c) := by
  obtain ⟨t, p, f⟩ := h
  obtain ⟨g1, p1, f1⟩ := hg
  refine ⟨_, ps_asg p p1 hs hw h1, fun σ ρ F μ S H D s hE g => f σ ρ F μ S H _ s hE (GP.stm g hE fun d F1 μ1 H1 S1 e1 q1 s1 g1 v r => ?_)⟩
  exact f1 d v σ ρ F1 μ1 S1 H1 _ s1 (hE.mono e1 q1) r (GP.noX (GP.seq g1 fun ρ' F2 μ2 H2 S2 e2 q2 s2 g2 σ' hE' _ => GP.here g2 s2 σ' hE'))
/-- x op= e -/
def sAug (i : Nat) (o : Op2) (c : EX) : SX := fun ρ S => match ρ[i]? with
  | some (some x) => stm ρ (c ρ S) fun y S => bindO (o x y S) fun z S => some (.ok (.nx (ρ.set i (some z))), S)
  | _ => none
theorem rs_aug {i : Nat} {x : Str} {e : Expr} {c : EX} {op : Operator} {r : R2} {o : Op2} {pos pos' : Pos} (hN : X.N.Nodup) (h : RE T false X W e c) (hr : OpR X (inplaceOp op) r) (ho : OpOk X T false r o) (hne : ∀ x y S z S', o x y S ≠ some (.error z, S')) (hi : X.N[i]? = some x := by rfl) (hx : Loc X.env.scope x := by first | exact Or.inl rfl | exact Or.inr rfl)
    (hf : X.fn x = true ∨ X.env.scope.names.lookup x = some .local := by first | exact .inl rfl | exact .inr rfl) : RS T fr X W (.AugAssign (.Name x pos') op e pos) (sAug i o c) := by
  obtain ⟨t, p, f⟩ := h
  refine ⟨_, ps_aug (ti := r) hN hi hx p hr hf, fun σ ρ F μ S H D s hE g => ?_⟩
  unfold sAug at g
  split at g
  · rename_i d hd
    obtain ⟨v, h1, h2⟩ := hE.2 i d hd
    refine ⟨v, h1, f σ ρ F μ S H _ s hE (GP.stm g hE fun y F1 μ1 H1 S1 e1 q1 s1 g1 u ru => ?_)⟩
    refine ho F1 μ1 S1 H1 d y v u _ NoEr s1 (h2.mono e1 q1) ru (GP.seq g1 fun z F2 μ2 H2 S2 e2 q2 s2 g2 w rw => ?_)
    exact GP.here g2 s2 _ (((hE.mono e1 q1).mono e2 q2).set rw)
  · exact g.elim
/-! ### loops -/
def forGo (src : Src) (t : TX) (b : SX) : Nat → Nat → PF.Env → Store → Out Fl
  | 0, i, ρ, S => match srcAt src S with
    | some ds => if ds.length ≤ i then some (.ok (.nx ρ), S) else none
    | none => none
  | k + 1, i, ρ, S => match srcAt src S with
    | some ds => (match ds[i]? with
      | some d => bindO (noX (t d ρ S)) fun ρ1 S => bindO (b ρ1 S) fun fl S => match fl with
        | .nx ρ' => forGo src t b k (i + 1) ρ' S
        | .ct ρ' => forGo src t b k (i + 1) ρ' S
        | .brk ρ' => some (.ok (.nx ρ'), S)
        | fl => some (.ok fl, S)
      | none => none)
    | none => none
def sFor (src : IX) (t : TX) (b : SX) : SX := fun ρ S => stm ρ (src ρ S) fun src S => match srcAt src S with
  | some ds => forGo src t b ds.length 0 ρ S
  | none => none
theorem rs_for {js : List Nat} {tg iter : Expr} {body : List Stmt} {ci : IX} {ct : TX} {cb : SX} {pos : Pos} (hp : PassesOwn (model X.prog X.w) X.A X.env X.xe) (hc : X.calm = true) (hi : RI T X W tg iter ci) (hg : RG T X js tg ct) (hb : RSs T fr X W body cb)
    (hs : ∀ x, foldedSetIterable iter X.env x = pure x := by intro _; rfl) : RS T fr X W (.For tg iter body [] pos) (sFor ci ct cb) := by
  obtain ⟨wi, pi, fi⟩ := hi
  obtain ⟨g, pg, fg⟩ := hg
  obtain ⟨tb, pb, fb⟩ := hb
  refine ⟨_, ps_for hp hc pi pg pb hs, fun σ ρ F μ S H D s hE gg => fi σ ρ F μ S H _ s hE (GP.stm gg hE fun src F1 μ1 H1 S1 e1 p1 s1 g1 J hJ => ?_)⟩
  split at g1
  case h_2 => exact g1.elim
  rename_i ds hds
  refine ⟨fun i m σ' H' => ∃ ρ' F' μ' S', Ex F1 F' ∧ μ1 <+: μ' ∧ SR X.K T F' μ' S' H' ∧ EnvR X.K F' μ' ρ' σ' ∧ GP X.K T F' μ' (forGo src ct cb m i ρ' S') (OkF X.K X.mg fr D W) NoEr,
    ⟨ds.length, ρ, F1, μ1, S1, Ex.refl _, List.prefix_refl _, s1, hE.mono e1 p1, g1⟩, ?_⟩
  rintro i m σ2 H2 ⟨ρ2, F2, μ2, S2, e2, p2, s2, hE2, g2⟩
  cases m with
  | zero =>
    left
    unfold forGo at g2
    split at g2
    case h_2 => exact g2.elim
    rename_i es hes
    split at g2
    case isFalse => exact g2.elim
    rename_i hl
    exact ⟨(hJ F2 μ2 S2 H2 es i e2 p2 s2 hes).2 hl, GP.here g2 s2 σ2 hE2⟩
  | succ m =>
    right
    unfold forGo at g2
    split at g2
    case h_2 => exact g2.elim
    rename_i es hes
    split at g2
    case h_2 => exact g2.elim
    rename_i d hd
    obtain ⟨hgo, hy⟩ := (hJ F2 μ2 S2 H2 es i e2 p2 s2 hes).1 d hd
    refine ⟨hgo, fun σ' H' => ∃ ρ' F' μ' S', Ex F1 F' ∧ μ1 <+: μ' ∧ SR X.K T F' μ' S' H' ∧ EnvR X.K F' μ' ρ' σ' ∧ GP X.K T F' μ' (forGo src ct cb m (i + 1) ρ' S') (OkF X.K X.mg fr D W) NoEr, fun σ' H' h => ⟨m, Nat.lt_succ_self _, h⟩, fun x H3 yl => ?_⟩
    obtain ⟨F3, e3, s3, rx⟩ := hy x H3 yl
    refine fg d x σ2 ρ2 F3 μ2 S2 H3 _ s3 (hE2.mono e3 (List.prefix_refl _)) rx (GP.noX (GP.seq (GP.mono g2 e3 (List.prefix_refl _)) fun ρ4 F4 μ4 H4 S4 e4 p4 s4 g4 σ4 hE4 _ => ?_))
    refine fb σ4 ρ4 F4 μ4 S4 H4 _ s4 hE4 (GP.seq g4 fun fl F5 μ5 H5 S5 e5 p5 s5 g5 => ?_)
    have ee := ((e2.trans e3).trans e4).trans e5
    have pp := (p2.trans p4).trans p5
    cases fl with
    | nx ρ' => exact fun σ' hE' => ⟨ρ', F5, μ5, S5, ee, pp, s5, hE', g5⟩
    | ct ρ' => exact fun σ' hE' => ⟨ρ', F5, μ5, S5, ee, pp, s5, hE', g5⟩
    | brk ρ' => exact fun σ' hE' => GP.here (er := NoEr) g5 s5 σ' hE'
    | ret d => exact GP.here (er := NoEr) g5 s5
    | exc x ρ' => exact GP.here (er := NoEr) g5 s5
def whileGo (c : BX) (b : SX) : Nat → PF.Env → Store → Out Fl
  | 0, _, _ => none
  | m + 1, ρ, S => stm ρ (c ρ S) fun x S => match x with
    | true => bindO (b ρ S) fun fl S => match fl with
      | .nx ρ' => whileGo c b m ρ' S
      | .ct ρ' => whileGo c b m ρ' S
      | .brk ρ' => some (.ok (.nx ρ'), S)
      | fl => some (.ok fl, S)
    | false => some (.ok (.nx ρ), S)
def sWhile (fuel : Nat) (c : BX) (b : SX) : SX := whileGo c b fuel
theorem rs_while {e : Expr} {body : List Stmt} {c : BX} {b : SX} {pos : Pos} (fuel : Nat) (hp : PassesOwn (model X.prog X.w) X.A X.env X.xe) (h : RT T X W e c) (hb : RSs T fr X W body b) : RS T fr X W (.While e body [] pos) (sWhile fuel c b) := by
  obtain ⟨t, p, f⟩ := h
  obtain ⟨tb, pb, fb⟩ := hb
  refine ⟨_, ps_while hp p pb, fun σ ρ F μ S H D s hE g => ?_⟩
  refine ⟨fun m σ' H' => ∃ ρ' F' μ' S', SR X.K T F' μ' S' H' ∧ EnvR X.K F' μ' ρ' σ' ∧ GP X.K T F' μ' (whileGo c b m ρ' S') (OkF X.K X.mg fr D W) NoEr, ⟨fuel, ρ, F, μ, S, s, hE, g⟩, ?_⟩
  rintro m σ2 H2 ⟨ρ2, F2, μ2, S2, s2, hE2, g2⟩
  cases m with
  | zero => exact g2.elim
  | succ m =>
    unfold whileGo at g2
    refine f σ2 ρ2 F2 μ2 S2 H2 _ s2 hE2 (GP.stm g2 hE2 fun x F3 μ3 H3 S3 e3 p3 s3 g3 => ?_)
    have hE3 := hE2.mono e3 p3
    cases x with
    | false => rw [if_neg Bool.false_ne_true]; exact GP.here g3 s3 σ2 hE3
    | true =>
      rw [if_pos rfl]
      refine ⟨fun σ' H' => ∃ ρ' F' μ' S', SR X.K T F' μ' S' H' ∧ EnvR X.K F' μ' ρ' σ' ∧ GP X.K T F' μ' (whileGo c b m ρ' S') (OkF X.K X.mg fr D W) NoEr, fun σ' H' h => ⟨m, Nat.lt_succ_self _, h⟩, ?_⟩
      refine fb σ2 ρ2 F3 μ3 S3 H3 _ s3 hE3 (GP.seq g3 fun fl F5 μ5 H5 S5 e5 p5 s5 g5 => ?_)
      cases fl with
      | nx ρ' => exact fun σ' hE' => ⟨ρ', F5, μ5, S5, s5, hE', g5⟩
      | ct ρ' => exact fun σ' hE' => ⟨ρ', F5, μ5, S5, s5, hE', g5⟩
      | brk ρ' => exact fun σ' hE' => GP.here (er := NoEr) g5 s5 σ' hE'
      | ret d => exact GP.here (er := NoEr) g5 s5
      | exc x ρ' => exact GP.here (er := NoEr) g5 s5
/-- code that is not come to -/
def sStuck : SX := fun _ _ => none
theorem rs_never {st : Stmt} : RS T fr X W st sStuck := ⟨_, ps_never, fun σ ρ F μ S H D s hE g => g.elim⟩

/-! ### the store's lists, by their methods -/
abbrev OpM := D → List D → Store → Out D
def MtOk (X : Cx) (T : List (Addr × Str)) (r : V → List V → Hp → VK → Prop) (o : OpM) : Prop := ∀ F μ S H d v ds vs Q er, SR X.K T F μ S H → Rep X.K F μ d v → Reps X.K F μ ds vs → GP X.K T F μ (o d ds S) (OkV X.K false Q) er → r v vs H Q
def cMt (o : OpM) (a : EX) (r : AX) : EX := fun ρ S => bindO (a ρ S) fun d S => match d with
  | .loc n => bindO (r ρ S) fun ds S => o (.loc n) ds S
  | _ => none
theorem re_bm {o e : Expr} {es : List Expr} {name : Str} {apos cpos : Pos} {id : String} {r : V → List V → Hp → VK → Prop} {om : OpM} {a : EX} {ca : AX} (slot : Slot "list" name id) (hty : typeOf (.builtin id) = pure (.type "method_descriptor")) (hm : MtR X id r) (hom : MtOk X T r om) (ho : RE T false X W o a) (ha : RA T X W (e :: es) ca)
    (hbase : attributeBase o name X.env (eval o X.env) = eval o X.env := by rfl)
    (hfew : ((backTo cpos (starEach (e :: es) X.env)).all (fun x => !x.1) && (backToKw cpos (keywordEach [] X.env)).all (fun x => x.1.isSome)
      && decide ((e :: es).length + ([] : List Keyword).length + (if ([] : List Keyword).isEmpty then 0 else 1) < 30)) = true := by rfl)
    (hline : (apos.endLine == cpos.line) = true := by rfl) (hs : starEach (e :: es) X.env = (false, eval e X.env) :: starEach es X.env := by rfl) (hplain : (backTo cpos (starEach es X.env)).any (·.1) = false := by rfl) :
    RE T false X W (.Call (.Attribute o name apos) (e :: es) [] cpos) (cMt om a ca) := by
  obtain ⟨t, p, f⟩ := ho
  obtain ⟨t2, p2, f2⟩ := ha
  refine ⟨_, pe_bm PySem.F.plainAttrs_list slot hty hm p p2 hbase hfew hline hs hplain, fun σ ρ F μ S H Q s hE g => f σ ρ F μ S H _ s hE (GP.seq g fun d F1 μ1 H1 S1 e1 q1 s1 g1 v rv => ?_)⟩
  cases rv with
  | @loc n A hm =>
    obtain ⟨ds, vs, h1, h2, _⟩ := s1.get hm
    refine ⟨.inl ⟨rfl, _, sq_of h2⟩, f2 σ ρ F1 μ1 S1 H1 _ s1 (hE.mono e1 q1) (GP.seq g1 fun ds F2 μ2 H2 S2 e2 q2 s2 g2 vs rs => ?_)⟩
    exact hom F2 μ2 S2 H2 _ _ ds vs Q _ s2 (.loc (pre_get q2 hm)) rs g2
  | _ => exact g1.elim
theorem re_bm0 {o : Expr} {name : Str} {apos cpos : Pos} {id : String} {r : V → List V → Hp → VK → Prop} {om : OpM} {a : EX} (slot : Slot "list" name id) (hty : typeOf (.builtin id) = pure (.type "method_descriptor")) (hm : MtR X id r) (hom : MtOk X T r om) (ho : RE T false X W o a)
    (hbase : attributeBase o name X.env (eval o X.env) = eval o X.env := by rfl) (hline : (apos.endLine == cpos.line) = true := by rfl) : RE T false X W (.Call (.Attribute o name apos) [] [] cpos) (cMt om a aNil) := by
  obtain ⟨t, p, f⟩ := ho
  refine ⟨_, pe_bm0 PySem.F.plainAttrs_list slot hty hm p hbase hline, fun σ ρ F μ S H Q s hE g => f σ ρ F μ S H _ s hE (GP.seq g fun d F1 μ1 H1 S1 e1 q1 s1 g1 v rv => ?_)⟩
  cases rv with
  | @loc n A hm =>
    obtain ⟨ds, vs, h1, h2, _⟩ := s1.get hm
    exact ⟨.inl ⟨rfl, _, sq_of h2⟩, hom F1 μ1 S1 H1 _ _ [] [] Q _ s1 (.loc hm) .nil g1⟩
  | _ => exact g1.elim
def mAppend : OpM := fun d ds S => match d, ds with
  | .loc n, [x] => (match S[n]? with
    | some xs => if x.pure = true ∧ xs.length < lim then some (.ok .non, S.set n (xs ++ [x])) else none
    | none => none)
  | _, _ => none
theorem mAppend_ok : MtOk X T rAppend mAppend := by
  intro F μ S H d v ds vs Q er s rv rs h
  unfold mAppend at h
  split at h
  · rename_i n x
    obtain ⟨u, rfl, ru⟩ := rs.inv1
    cases rv with
    | @loc n A hm =>
      obtain ⟨es, ws, h1, h2, h3, h4, h5⟩ := s.get hm
      rw [h1] at h
      dsimp only at h
      split at h
      · rename_i hc
        refine ⟨A, ws, u, rfl, rfl, h2, by rw [← h3.length]; exact Nat.lt_of_lt_of_le hc.2 (by decide), ?_⟩
        have s2 := s.put hm (h3.append (Reps.one ru)) (by rw [D.pures_append, h5, Bool.true_and]; simp [D.pures, hc.1])
        exact gp_val h s2 .non
      · exact h.elim
  · exact h.elim
def mPop : OpM := fun d ds S => match d, ds with
  | .loc n, [] => (match S[n]? with
    | some xs => (match xs[xs.length - 1]? with
      | some x => some (.ok x, S.set n xs.dropLast)
      | none => none)
    | none => none)
  | _, _ => none
theorem reps_dropLast {K : PySem.W.Frag} {F : Hp} {μ : List Addr} {ds : List D} {vs : List V} (r : Reps K F μ ds vs) : Reps K F μ ds.dropLast vs.dropLast := by
  rw [List.dropLast_eq_take, List.dropLast_eq_take, r.length]
  exact r.take _
theorem pures_sub {ds es : List D} (h : D.pures ds = true) (hs : ∀ x ∈ es, x ∈ ds) : D.pures es = true := by
  rw [D.pures_iff] at h ⊢
  exact fun x hx => h x (hs x hx)
theorem mPop_ok : MtOk X T rPop mPop := by
  intro F μ S H d v ds vs Q er s rv rs h
  unfold mPop at h
  split at h
  · rename_i n
    cases rs
    cases rv with
    | @loc n A hm =>
      obtain ⟨es, ws, h1, h2, h3, h4, h5⟩ := s.get hm
      rw [h1] at h
      dsimp only at h
      split at h
      · rename_i x hx
        obtain ⟨w, k1, k2⟩ := h3.get hx
        refine ⟨A, ws, w, rfl, rfl, h2, by rw [← h3.length]; exact k1, ?_⟩
        have s2 := s.put hm (reps_dropLast h3) (pures_sub h5 fun x hx => List.dropLast_subset _ hx)
        exact gp_val h s2 k2
      · exact h.elim
  · exact h.elim
def mPopAt : OpM := fun d ds S => match d, ds with
  | .loc n, [.int i] => (match S[n]? with
    | some xs => if i < 1000000000 ∧ -1000000000 < i then (match ixN xs.length i with
      | some k => (match xs[k]? with
        | some x => some (.ok x, S.set n (xs.eraseIdx k))
        | none => none)
      | none => none) else none
    | none => none)
  | _, _ => none
theorem mPopAt_ok : MtOk X T rPopAt mPopAt := by
  intro F μ S H d v ds vs Q er s rv rs h
  unfold mPopAt at h
  split at h
  · rename_i n i
    obtain ⟨u, rfl, ru⟩ := rs.inv1
    cases ru
    cases rv with
    | @loc n A hm =>
      obtain ⟨es, ws, h1, h2, h3, h4, h5⟩ := s.get hm
      rw [h1] at h
      dsimp only at h
      split at h
      · rename_i hi
        split at h
        · rename_i k hk
          split at h
          · rename_i x hx
            obtain ⟨w, k1, k2⟩ := h3.get hx
            refine ⟨A, ws, i, k, w, rfl, rfl, h2, by omega, by omega, by rw [← h3.length]; exact (ixN_seq hk).1, k1, ?_⟩
            have s2 := s.put hm (h3.eraseIdx k) (pures_sub h5 fun x hx => List.mem_of_mem_eraseIdx hx)
            exact gp_val h s2 k2
          · exact h.elim
        · exact h.elim
      · exact h.elim
  · exact h.elim
end

/-! ### a def -/
def startE (n : Nat) (args : List D) : PF.Env := args.map some ++ List.replicate (n - args.length) none
def exitD (fr : Bool) (n0 : Nat) (d : D) (S : Store) : Out D := match d with
  | .loc n => if n < n0 then (if fr = true then none else some (.ok (.loc n), S.take n0)) else (match S[n]? with
    | some ds => some (.ok (.lst ds), S.take n0)
    | none => none)
  | d => if d.pure = true then some (.ok d, S.take n0) else none
def exitF (fr : Bool) (n0 : Nat) (r : Out Fl) : Out D := match r with
  | some (.ok (.ret d), S) => exitD fr n0 d S
  | some (.ok (.nx _), S) => if fr = true then none else some (.ok .non, S.take n0)
  | some (.ok (.exc x _), S) => if D.pures (x.fields.map (·.2)) = true then some (.error x, S.take n0) else none
  | _ => none
/-- what a def of n names does -/
def callF (fr : Bool) (n : Nat) (b : SX) : OpB := fun ds S => exitF fr S.length (b (startE n ds) S)
theorem start_env {K : PySem.W.Frag} {F : Hp} {μ : List Addr} {N : List Str} {ds : List D} {vs : List V} (r : Reps K F μ ds vs) : EnvR K F μ (startE N.length ds) (L2.start N vs) := by
  unfold startE L2.start
  refine ⟨by simp [r.length], fun i d h => ?_⟩
  by_cases hi : i < ds.length
  · rw [List.getElem?_append_left (by simpa using hi), List.getElem?_map] at h
    rw [List.getElem?_append_left (by simpa [← r.length] using hi), List.getElem?_map]
    cases e : ds[i]? with
    | none => rw [e] at h; cases h
    | some d' =>
      rw [e] at h; cases h
      obtain ⟨v, h1, h2⟩ := r.get e
      exact ⟨v, by rw [h1]; rfl, h2⟩
  · rw [List.getElem?_append_right (by simpa using hi), List.getElem?_replicate] at h
    split at h <;> cases h
/-- what a def's end asks, told of its body -/
theorem exit_gp {K : PySem.W.Frag} {mg : Str → Option Value} {T : List (Addr × Str)} {fr : Bool} {F H : Hp} {μ : List Addr} {S : Store} {r : Out Fl} {Q : VK} {E : XK} (s0 : SR K T F μ S H)
    (g : GP K T F μ (exitF fr S.length r) (OkV K fr Q) (ErW K mg E)) : GP K T F μ r (OkF K mg fr { nx := fun _ H' => Q .non H', rt := Q } fun cls d _ H' => E cls d H') NoEr := by
  match r, g with
  | none, g => exact g.elim
  | some (.error x, S'), g => exact g.elim
  | some (.ok fl, S'), g =>
    intro F' μ' H' e q s'
    have cut : SR K T F' μ (S'.take S.length) H' := by
      have := s'.cut S.length
      rwa [take_pre s0 q] at this
    match fl, g with
    | .nx ρ', g =>
      intro σ' _
      simp only [exitF] at g
      cases fr with
      | true => exact g.elim
      | false => exact g F' μ H' e (List.prefix_refl _) cut .non .non
    | .exc x ρ', g =>
      intro σ' cls dd _ hx
      simp only [exitF] at g
      split at g
      · rename_i hp
        obtain ⟨C, h1, h2, h3⟩ := hx
        exact g F' μ H' e (List.prefix_refl _) cut cls dd ⟨C, h1, h2, h3.imp id fun ⟨d, vs, a1, a2, a3⟩ => ⟨d, vs, a1, a2.free hp, a3⟩⟩
      · exact g.elim
    | .brk ρ', g => exact (show False from g).elim
    | .ct ρ', g => exact (show False from g).elim
    | .ret d, g =>
      intro v rv
      have g : GP K T F μ (exitD fr S.length d S') (OkV K fr Q) (ErW K mg E) := g
      -- a list of the store, made within
      have local_ : ∀ n a, d = .loc n → ¬ n < S.length → μ'[n]? = some a → v = .ref a → Q v H' := by
        intro n a hd hn hm hv
        subst hd; subst hv
        obtain ⟨es, vs, h1, h2, h3, h4, h5⟩ := s'.get hm
        simp only [exitD, if_neg hn, h1] at g
        have na : a ∉ μ := fun z => by
          obtain ⟨t, rfl⟩ := q
          rw [List.getElem?_append_right (by rw [s0.len]; omega)] at hm
          have := (List.nodup_append.mp s'.nd).2.2 a z a (List.mem_of_getElem? hm)
          exact this rfl
        cases fr with
        | true => exact g F' μ H' e (List.prefix_refl _) cut _ ⟨es, a, vs, rfl, rfl, h4, na, h2, h3.free h5⟩
        | false =>
          exact g (upd F' a (.lst vs)) μ H' (e.trans (Ex.new h4)) (List.prefix_refl _) (cut.freeze h4 na h2) _ (.lst upd_same ((h3.free h5).mono (Ex.new h4) (List.prefix_refl _)))
      cases fr with
      | false =>
        have rv : Rep K F' μ' d v := rv
        cases rv with
        | @loc n a hm =>
          by_cases hn : n < S.length
          · simp only [exitD, if_pos hn] at g
            refine g F' μ H' e (List.prefix_refl _) cut _ (.loc ?_)
            obtain ⟨t, rfl⟩ := q
            rwa [List.getElem?_append_left (by rw [s0.len]; exact hn)] at hm
          · exact local_ n a rfl hn hm rfl
        | non => exact g F' μ H' e (List.prefix_refl _) cut _ .non
        | bl b => exact g F' μ H' e (List.prefix_refl _) cut _ (.bl b)
        | int i => exact g F' μ H' e (List.prefix_refl _) cut _ (.int i)
        | str z => exact g F' μ H' e (List.prefix_refl _) cut _ (.str z)
        | tup h1 h2 =>
          simp only [exitD] at g
          split at g
          · rename_i hp
            exact g F' μ H' e (List.prefix_refl _) cut _ (Rep.free (.tup h1 h2) hp)
          · exact g.elim
        | lst h1 h2 =>
          simp only [exitD] at g
          split at g
          · rename_i hp
            exact g F' μ H' e (List.prefix_refl _) cut _ (Rep.free (.lst h1 h2) hp)
          · exact g.elim
        | fz h1 h2 =>
          simp only [exitD] at g
          split at g
          · rename_i hp
            exact g F' μ H' e (List.prefix_refl _) cut _ (Rep.free (.fz h1 h2) hp)
          · exact g.elim
        | tpn h0 h1 h2 =>
          simp only [exitD] at g
          split at g
          · rename_i hp
            exact g F' μ H' e (List.prefix_refl _) cut _ (Rep.free (.tpn h0 h1 h2) hp)
          · exact g.elim
        | dct h1 =>
          simp only [exitD] at g
          split at g
          · rename_i hp
            exact g F' μ H' e (List.prefix_refl _) cut _ (Rep.free (μ := μ') (.dct h1) hp)
          · exact g.elim
        | fn h1 h2 =>
          simp only [exitD] at g
          split at g
          · rename_i hp
            exact g F' μ H' e (List.prefix_refl _) cut _ (Rep.free (μ := μ') (.fn h1 h2) hp)
          · exact g.elim
      | true =>
        rcases rv with ⟨es, a, vs, hd, hv, h1, h2, h3, h4⟩ | ⟨n, hd, hr⟩
        · subst hd; subst hv
          simp only [exitD] at g
          split at g
          · rename_i hp
            have hp : D.pures es = true := by simpa [D.pure] using hp
            refine g F' μ H' e (List.prefix_refl _) cut _ ⟨es, a, vs, rfl, rfl, h1, fun z => h2 ?_, h3, h4.free hp⟩
            obtain ⟨t, rfl⟩ := q
            exact List.mem_append_left _ z
          · exact g.elim
        · subst hd
          cases hr with
          | @loc n a hm =>
            by_cases hn : n < S.length
            · simp only [exitD, if_pos hn] at g
              exact g.elim
            · exact local_ n a rfl hn hm rfl
theorem def_gT {P : Program} {w : World} {K : PySem.W.Frag} {mg : Str → Option Value} {base : Heap} {T : List (Addr × Str)} {x qual : Str} {params : Arguments} {body : List Stmt} {scope : Scope} {dvs : List V} {kws : List (Str × V)} {f : Addr} {fd : FuncData} {N ps : List Str} {k : Nat} {fr : Bool} {b : SX}
    (FD : FunD K x qual params body scope dvs kws f fd) (sc : FnScope N ps scope)
    (hb : ∀ (cdv : Value) (A : Around) (outer : List PySem.Env) (s : Shared) (H : Hp) (E : XK), fd.code = cdv → Room k (A.deeper (envOfC qual scope s.heap.objs.size f cdv)) → A.guards = some [] →
      RSs T fr (cxOf (L2.CX P w) P w K mg base N qual scope f cdv A outer s H E) (fun cls d _ H' => E cls d H') body b) :
    FnG P w K mg base (k + 1) f fd ps (spOf K mg T fr ps.length (callF fr N.length b)) := by
  refine fn_gT FD sc (fun vs H Q E h => ?_) fun cdv A outer s H vs Q E hc room gu h => ?_
  · obtain ⟨_, _, _, _, _, _, hl, _⟩ := h
    exact hl
  · obtain ⟨F, μ, S, ds, s0, rs, hl, g⟩ := h
    obtain ⟨t, p, rd⟩ := hb cdv A outer s H E hc room gu
    exact ⟨t, p, rd _ (startE N.length ds) F μ S H _ s0 (start_env rs) (exit_gp s0 g)⟩
theorem def_g {P : Program} {w : World} {K : PySem.W.Frag} {mg : Str → Option Value} {base : Heap} {T : List (Addr × Str)} {x qual : Str} {params : Arguments} {body : List Stmt} {scope : Scope} {dvs : List V} {kws : List (Str × V)} {f : Addr} {fd : FuncData} {N ps : List Str} {k : Nat} {fr : Bool} {b : SX}
    (FD : FunD K x qual params body scope dvs kws f fd) (sc : FnScope N ps scope)
    (hb : ∀ (cdv : Value) (A : Around) (outer : List PySem.Env) (s : Shared) (H : Hp) (E : XK), Room k (A.deeper (envOfC qual scope s.heap.objs.size f cdv)) → A.guards = some [] →
      RSs T fr (cxOf (L2.CX P w) P w K mg base N qual scope f cdv A outer s H E) (fun cls d _ H' => E cls d H') body b) :
    FnG P w K mg base (k + 1) f fd ps (spOf K mg T fr ps.length (callF fr N.length b)) :=
  def_gT FD sc fun cdv A outer s H E _ => hb cdv A outer s H E
end PF
set_option Elab.async false
set_option linter.all false
set_option maxRecDepth 100000
set_option maxHeartbeats 4000000
/-! PFL: lambdas that capture nothing, as things that are known. -/
namespace PF
open PySem L2 Evl PySem.Spec PyProof.Rows LamX
section
variable {X : Cx} {pins : List (Addr × Obj)} {σ : L2.St} {H : Hp} {s : Shared}
/-- an object that is new since the frame's start is known from now on -/
theorem inv_know {f : Addr} {l : LamSite} {pm ctv : Value} {c' : Addr} (I : Inv X pins σ H s) (hn : H f = none) (hf : s.heap.get? f = some (PySem.W.kla_obj "<lambda>" l.qual l.params l.body l.scope [] pm c' ctv))
    (h0 : X.s_0.heap.objs.size ≤ f) (hl : f ≠ X.env.locals) (hcl : ∀ x c, X.env.cells.lookup x = some c → c ≠ f) (hp : ∀ p ∈ X.pn ++ pins, p.1 ≠ f) : Inv X pins σ (upd H f (FunO f l pm c' ctv)) s := by
  have ne : ∀ b u, H b = some u → b ≠ f := fun b u e => ne_of_none e hn
  have same : ∀ b u, H b = some u → upd H f (FunO f l pm c' ctv) b = some u := fun b u e => by rw [upd_ne (ne b u e)]; exact e
  refine I.step (g' := s.gens) (t' := s.toks) (d' := s.drawn) (h' := s.heap) (ch := [f])
    (fun b hb => ?_) (fun b o _ _ _ e _ => e) (fun b o _ _ _ e _ => ⟨o.slots, e⟩) (fun b o hb _ n => ?_) (fun b o _ e => ⟨o, e⟩) (fun b xs e => same b _ e) (fun b o u e => same b _ e)
    (fun b ps e => ⟨#[], by rw [same b _ e]; simp⟩) (fun m hm => hm) (fun b u e => ?_) I.bare
  · rw [List.mem_singleton] at hb
    subst hb
    exact ⟨.inr h0, hl, hcl, hp⟩
  · rw [upd_ne (fun z => hb (by rw [z]; exact List.mem_singleton_self _))]
    exact n
  · by_cases hb : b = f
    · subst hb
      rw [upd_same] at e
      cases e
      exact ⟨hf, ⟨_, hf⟩, fun h1 h2 z st => st _ z⟩
    · rw [upd_ne hb] at e
      exact (I.hok b u e).stay (fun d v _ q => q) (fun d q => by rw [upd_ne (ne d _ q)]; exact q) fun d xs q => same d _ q
/-- a lambda without captures is made: it is known from then on -/
theorem lam_make3 {T : List (Addr × Str)} {c P : Addr} {l : LamSite} {pos : Pos} {E Q : Value → Shared → Prop} (I : Inv X pins σ H s)
    (TB : TabB X.base X.mg c P) (hcode : X.env.code = .ref c) (hq : l.qual = X.env.qual ++ "<lambda>") (hm : (P, l.qual) ∈ T) (hu : ∀ p ∈ T, p.1 = P → p.2 = l.qual) (hT : Tabs T H)
    (hdf : defaultsOf l.params X.env = ([], [])) (hcl : cloFrom X.env.cells l.scope.names [] = []) (hfree : ∀ y ∈ l.scope.names, y.2 = .free → ∃ c, X.env.cells.lookup y.1 = some c)
    (h : ∀ (f c' : Addr) (pm ctv : Value) (H1 : Hp) (s' : Shared), Inv X pins σ H1 s' → (∀ b o, H b = some o → b ≠ P → H1 b = some o) → Tabs T H1 → H f = none → c' ≠ f → H1 f = some (FunO f l pm c' ctv) → H1 c' = some (CodeO c' l.qual) → Q (.ref f) s') :
    wpAny (model X.prog X.w) X.A (eval (.Lambda l.params l.body l.scope pos) X.env) Q E s := by
  obtain ⟨lp, lb, ls, lq⟩ := l
  subst hq
  obtain ⟨ps, hP, ht, among⟩ := hT _ hm
  have hsz0 : X.s_0.heap.objs.size ≤ s.heap.objs.size := Nat.le_of_lt (Nat.lt_of_le_of_lt I.ok.above I.lt)
  have cellLt : ∀ x c, X.env.cells.lookup x = some c → c < s.heap.objs.size := fun x c e => by
    obtain ⟨v, o, ho, _⟩ := I.cell x c e
    exact Heap.lt_size ho
  have pinLt : ∀ p ∈ X.pn ++ pins, p.1 < s.heap.objs.size := fun p hp => Heap.lt_size (I.pin p hp).1
  -- the last step: the function itself is known
  have last : ∀ (f c' : Addr) (pm ctv : Value) (H1 : Hp) (s' : Shared), Inv X pins σ H1 s' → (∀ b o, H b = some o → b ≠ P → H1 b = some o) → Tabs T H1 →
      s'.heap.get? f = some (PySem.W.kla_obj "<lambda>" (X.env.qual ++ "<lambda>") lp lb ls (cloFrom X.env.cells ls.names []) pm c' ctv) → H1 f = none → s.heap.objs.size ≤ f →
      H1 c' = some (CodeO c' (X.env.qual ++ "<lambda>")) → Q (.ref f) s' := fun f c' pm ctv H1 s' I1 e1 t1 g1 n1 sz hc => by
    rw [hcl] at g1
    have nf : ∀ b u, H1 b = some u → b ≠ f := fun b u e => ne_of_none e n1
    have ext : ∀ b o, H1 b = some o → upd H1 f (FunO f ⟨lp, lb, ls, X.env.qual ++ "<lambda>"⟩ pm c' ctv) b = some o := fun b o e => by rw [upd_ne (nf b o e)]; exact e
    have I2 := inv_know (l := ⟨lp, lb, ls, X.env.qual ++ "<lambda>"⟩) I1 n1 g1 (Nat.le_trans hsz0 sz) (fun e => by rw [e] at sz; exact Nat.lt_irrefl _ (Nat.lt_of_lt_of_le I.lt sz))
      (fun x c e z => by have := cellLt x c e; rw [z] at this; exact Nat.lt_irrefl _ (Nat.lt_of_lt_of_le this sz)) (fun p hp z => by have := pinLt p hp; rw [z] at this; exact Nat.lt_irrefl _ (Nat.lt_of_lt_of_le this sz))
    exact h f c' pm ctv _ s' I2 (fun b o e n => ext b o (e1 b o e n)) (t1.ext ext) (I.hok.fresh sz) (ne_of_none hc n1) upd_same (ext _ _ hc)
  have bi : s.heap.BuiltinsAt X.mg P := TB.bm.keeps I.bk
  have tabP : s.heap.get? P = some { cls := .none, data := .fields ps } := I.hok P _ hP
  refine PySem.W.kla_eval hdf ?_
  cases hc : codeAmong pos ps.toList with
  | some cv =>
    obtain ⟨c', rfl, hco⟩ := among pos cv hc
    refine PySem.W.kla_makeFunctionHit (mg := X.mg) (c := c) (P := P) (ps := ps) (closure_ok hfree) I.ok.glob (I.mod.glob.keeps I.bk) hcode (TB.code.keeps I.bk) tabP ht hc bi fun ctv h' tk hx hsz => ?_
    exact last h'.objs.size c' _ ctv H _ (I.kept fun b o e => Heap.get?_push_of_some _ (hx b o e)) (fun _ _ e _ => e) hT (Heap.get?_push_size _ rfl) (I.hok.fresh hsz) hsz hco
  | none =>
    refine PySem.W.kla_makeFunction (mg := X.mg) (c := c) (P := P) (ps := ps) (closure_ok hfree) I.ok.glob (I.mod.glob.keeps I.bk) hcode (TB.code.keeps I.bk) tabP ht hc TB.gP bi fun c' ctv h' tk hx hge hlt hrec htb => ?_
    obtain ⟨z2, oz, vz, tz, ez, ho2, hd2, hv2⟩ := hrec
    cases ez
    have big : s.heap.objs.size ≤ h'.objs.size := Nat.le_trans hge (Nat.le_of_lt hlt)
    have fresh' : H c' = none := I.hok.fresh hge
    have nPc : P ≠ c' := ne_of_none hP fresh'
    have I1 := inv_table (t' := tk) (more := #[rawInt pos.line, rawInt pos.col, .ref c']) (h' := h'.push (PySem.W.kla_obj "<lambda>" (X.env.qual ++ "<lambda>") lp lb ls (cloFrom X.env.cells ls.names []) ((X.mg "__name__").getD .none) c' ctv)) I hP
      (fun b o hb e => Heap.get?_push_of_some _ (hx b o hb e)) (Heap.get?_push_of_some _ htb) hge ⟨oz, vz, tz, Heap.get?_push_of_some _ ho2, hd2, hv2⟩
    have out : ∀ b, b ≠ P → b ≠ c' → upd (upd H P (.tbl (ps ++ #[rawInt pos.line, rawInt pos.col, .ref c']))) c' (CodeO c' (X.env.qual ++ "<lambda>")) b = H b := fun b h1 h2 => by rw [upd_ne h2, upd_ne h1]
    have exn : ExtN H (upd (upd H P (.tbl (ps ++ #[rawInt pos.line, rawInt pos.col, .ref c']))) c' (CodeO c' (X.env.qual ++ "<lambda>"))) := fun b o e n =>
      (out b (fun z => n ps (Option.some.inj (e.symm.trans (by rw [z]; exact hP)))) (ne_of_none e fresh')).trans e
    have fP : h'.objs.size ≠ P := Nat.ne_of_gt (Nat.lt_of_lt_of_le (Heap.lt_size tabP) big)
    refine last h'.objs.size c' _ ctv _ _ I1 (fun b o e n => (out b n (ne_of_none e fresh')).trans e) (fun p hp => ?_) (Heap.get?_push_size _ rfl) (by rw [out _ fP (Nat.ne_of_gt hlt)]; exact I.hok.fresh big) big upd_same
    by_cases hb : p.1 = P
    · have e2 := hu p hp hb
      rw [hb, e2]
      refine ⟨ps ++ #[rawInt pos.line, rawInt pos.col, .ref c'], by rw [upd_ne nPc, upd_same], ?_, fun p' cv hcv => ?_⟩
      · simpa using PySem.TriplesOk_snoc _ _ _ _ ht
      · rcases among_app _ ht (by simpa using hcv) with z | z
        · obtain ⟨c0, a1, a2⟩ := among p' cv z
          exact ⟨c0, a1, exn _ _ a2 codeO_ne⟩
        · exact ⟨c', z, upd_same⟩
    · obtain ⟨qs, a1, a2, a3⟩ := hT p hp
      refine ⟨qs, (out _ hb (ne_of_none a1 fresh')).trans a1, a2, fun p' cv hcv => ?_⟩
      obtain ⟨c0, b1, b2⟩ := a3 p' cv hcv
      exact ⟨c0, b1, exn _ _ b2 codeO_ne⟩
/-- a lambda that is known is called -/
theorem run_lam {CX : CXT} {P : Program} {w : World} {K : PySem.W.Frag} {mg : Str → Option Value} {base : Heap} {k : Nat} {f c' : Addr} {l : LamSite} {pm ctv : Value} {N ps : List Str} {A : Around} {outer : List PySem.Env} {s : Shared} {H : Hp} {us : List Value} {vs : List V} {Q : VK} {E : XK}
    (S : FnScope N ps l.scope) (hr : Room (k + 1) A) (e0 : Env0 P w K mg base A outer s H) (lim : s.heap.NoLimit) (hF : H f = some (FunO f l pm c' ctv)) (hC : H c' = some (CodeO c' l.qual))
    (hb : BindsTo s (PySem.W.kla_fn "<lambda>" l.qual l.params l.body l.scope [] pm (.ref c') ctv) ⟨us, []⟩ (ps.zip us)) (r : Vals vs us) (hl : vs.length = ps.length)
    (hbody : Room k (A.deeper (envOfC l.qual l.scope s.heap.objs.size f (.ref c'))) → ∃ t, PE (cxOf CX P w K mg base N l.qual l.scope f (.ref c') A outer s H E) l.body t ∧ t (L2.start N vs) H Q) :
    codeAny (model P w) A (.call (.ref f) ⟨us, []⟩) (CR CX outer P w H s Q E) s := by
  have of : s.heap.get? f = some (PySem.W.kla_obj "<lambda>" l.qual l.params l.body l.scope [] pm c' ctv) := (e0.hok f _ hF).1
  obtain ⟨oz, vz, tz, ho, hd, hv⟩ := (e0.hok c' _ hC).1
  refine PySem.W.kla_callFunE hr.depth of rfl S.co S.gen rfl ⟨c', oz, vz, tz, rfl, ho, hd, hv⟩ ?_
  refine hb _ _ _ _ ?_
  have kinds : ∀ y ∈ ps.zip us, l.scope.names.lookup y.1 = some .local ∨ (l.scope.names.lookup y.1 = some .cell ∧ ((cellsFrom (s.heap.objs.size + 1) l.scope.names []).lookup y.1).isSome = true) := fun ⟨n, v⟩ hy =>
    (S.par n (List.of_mem_zip hy).1).imp id fun q => ⟨q, PySem.W.cellsFrom_some _ _ _ (.inl q)⟩
  refine wpAny_newFunctionEnv_cells S.kind kinds fun env he s1 x => ?_
  subst he
  refine ⟨lim.keeps x.toInCall.keep, ?_⟩
  obtain ⟨t, ht, hq⟩ := hbody (hr.deeper _)
  have J : Inv (cxOf CX P w K mg base N l.qual l.scope f (.ref c') A outer s H E) [] (L2.start N vs) H s1 := inv_start S hr.hd e0 hl r x
  refine PySem.W.kla_codeExpr (wpAny_mono (ht.run [] s1 (L2.start N vs) H _ J hq) (fun v s' z => ?_) fun e s' z => z)
  obtain ⟨u, H', J', rv, q⟩ := z
  exact ⟨u, H', J'.os, J'.bare, J'.base, J'.hok, rv, q⟩
end
/-! ### a lambda as data -/
section
variable {X : Cx} {T : List (Addr × Str)} {W : WX}
/-- what the making of lambdas asks of a def's context -/
structure LamCx (X : Cx) (T : List (Addr × Str)) (q : Str) : Prop where
  ex : ∃ c P, TabB X.base X.mg c P ∧ X.env.code = .ref c ∧ (P, q) ∈ T ∧ ∀ p ∈ T, p.1 = P → p.2 = q
  qual : q = X.env.qual ++ "<lambda>"
def cLam (l : LamSite) : EX := fun _ S => some (.ok (.fn l), S)
/-- the state behind the making -/
theorem SR.know {K : PySem.W.Frag} {F H H1 : Hp} {μ : List Addr} {S : Store} {f c' P : Addr} {l : LamSite} {pm ctv : Value} (s : SR K T F μ S H) (hP : ∃ q, (P, q) ∈ T) (e : ∀ b o, H b = some o → b ≠ P → H1 b = some o) (t : Tabs T H1) (hn : H f = none)
    (nfc : c' ≠ f) (hf : H1 f = some (FunO f l pm c' ctv)) (hc : H1 c' = some (CodeO c' l.qual)) : ∃ F', Ex F F' ∧ SR K T F' μ S H1 ∧ F' f = some (FunO f l pm c' ctv) ∧ F' c' = some (CodeO c' l.qual) := by
  obtain ⟨q, hP⟩ := hP
  have FP : F P = none := s.tabF _ hP
  have Ff : F f = none := fresh_back s.ex hn
  have tabT : ∀ p ∈ T, ∃ ps, H1 p.1 = some (.tbl ps) := fun p hp => by
    obtain ⟨ps, h, _⟩ := t p hp
    exact ⟨ps, h⟩
  have ncT : ∀ p ∈ T, p.1 ≠ c' := fun p hp z => by
    obtain ⟨ps, h⟩ := tabT p hp
    rw [z, hc] at h
    unfold CodeO at h
    cases h
  have nfT : ∀ p ∈ T, p.1 ≠ f := fun p hp z => by
    obtain ⟨ps, h, _⟩ := s.tab p hp
    rw [z, hn] at h; cases h
  have Fold : ∀ b o, F b = some o → H1 b = some o := fun b o hb => e b o (s.ex b o hb) (fun z => by rw [z, FP] at hb; cases hb)
  refine ⟨fun b => if b = f then some (FunO f l pm c' ctv) else if b = c' then some (CodeO c' l.qual) else F b, fun b o hb => ?_, ⟨fun b o hb => ?_, s.len, s.nd, fun n a ds e1 e2 => ?_, t, fun p hp => ?_⟩, if_pos rfl, ?_⟩
  · have h1 : b ≠ f := fun z => by rw [z, Ff] at hb; cases hb
    try dsimp only
    rw [if_neg h1]
    by_cases h2 : b = c'
    · rw [if_pos h2]
      have := Fold b o hb
      rw [h2, hc] at this
      exact this
    · rw [if_neg h2]; exact hb
  · try dsimp only at hb
    by_cases h1 : b = f
    · rw [if_pos h1] at hb; cases hb; rw [h1]; exact hf
    · rw [if_neg h1] at hb
      by_cases h2 : b = c'
      · rw [if_pos h2] at hb; cases hb; rw [h2]; exact hc
      · rw [if_neg h2] at hb; exact Fold b o hb
  · obtain ⟨h1, h2, vs, h3, h4⟩ := s.ob n a ds e1 e2
    have aP : a ≠ P := fun z => by
      obtain ⟨ps, h, _⟩ := s.tab _ hP
      rw [z, h] at h3; cases h3
    have a1 := e a _ h3 aP
    have af : a ≠ f := fun z => by rw [z, hn] at h3; cases h3
    have ac : a ≠ c' := fun z => by
      rw [z, hc] at a1
      unfold CodeO at a1
      cases a1
    refine ⟨by rw [if_neg af, if_neg ac]; exact h1, h2, vs, a1, h4.mono (fun b o hb => ?_) (List.prefix_refl _)⟩
    have h5 : b ≠ f := fun z => by rw [z, Ff] at hb; cases hb
    try dsimp only
    rw [if_neg h5]
    by_cases h6 : b = c'
    · rw [if_pos h6]
      have := Fold b o hb
      rw [h6, hc] at this
      exact this
    · rw [if_neg h6]; exact hb
  · try dsimp only
    rw [if_neg (nfT p hp), if_neg (ncT p hp)]
    exact s.tabF p hp
  · try dsimp only
    by_cases h1 : c' = f
    · exact absurd h1 nfc
    · rw [if_neg h1, if_pos rfl]
theorem re_lam {l : LamSite} {pos : Pos} (L : LamCx X T l.qual) (hdf : defaultsOf l.params X.env = ([], []) := by rfl) (hcl : cloFrom X.env.cells l.scope.names [] = [] := by rfl) (hfree : l.scope.names.all (fun y => !decide (y.2 = .free)) = true := by decide +kernel) :
    RE T false X W (.Lambda l.params l.body l.scope pos) (cLam l) := by
  obtain ⟨c, P, TB, hcode, hm, hu⟩ := L.ex
  refine ⟨fun σ H Q => Tabs T H ∧ ∀ (f c' : Addr) (pm ctv : Value) (H1 : Hp), (∀ b o, H b = some o → b ≠ P → H1 b = some o) → Tabs T H1 → H f = none → c' ≠ f → H1 f = some (FunO f l pm c' ctv) → H1 c' = some (CodeO c' l.qual) → Q (.ref f) H1,
    ⟨fun pins s σ H Q I h => ?_⟩, fun σ ρ F μ S H Q s hE g => ⟨s.tab, fun f c' pm ctv H1 e t hn hne hf hc => ?_⟩⟩
  · refine lam_make3 (l := l) I TB hcode L.qual hm hu h.1 hdf hcl (fun y hy z => ?_) fun f c' pm ctv H1 s' J e t hn hne hf hc => ⟨.ref f, H1, J, rfl, h.2 f c' pm ctv H1 e t hn hne hf hc⟩
    have := List.all_eq_true.mp hfree y hy
    simp [z] at this
  · obtain ⟨F', e1, s1, k1, k2⟩ := s.know ⟨_, hm⟩ e t hn hne hf hc
    exact g F' μ H1 e1 (List.prefix_refl _) s1 _ (.fn k1 k2)
/-- what a lambda does, told by its body -/
def lamF (n : Nat) (c : EX) : OpB := callF false n (sRet c)
structure LamG (P : Program) (w : World) (K : PySem.W.Frag) (mg : Str → Option Value) (base : Heap) (T : List (Addr × Str)) (k : Nat) (l : LamSite) (ps : List Str) (o : OpB) : Prop where
  run : ∀ (A : Around) (outer : List PySem.Env) (s : Shared) (H : Hp) (us : List Value) (vs : List V) (Q : VK) (E : XK) (f c' : Addr) (pm ctv : Value), Room k A → A.guards = some [] → Env0 P w K mg base A outer s H →
    H f = some (FunO f l pm c' ctv) → H c' = some (CodeO c' l.qual) → Vals vs us → spOf K mg T false ps.length o vs H Q E → codeAny (model P w) A (.call (.ref f) ⟨us, []⟩) (CR (L2.CX P w) outer P w H s Q E) s
def PosL (l : LamSite) (ps : List Str) : Prop := ∀ (pm cv ctv : Value) (us : List Value), us.length = ps.length → bindArgs (PySem.W.kla_fn "<lambda>" l.qual l.params l.body l.scope [] pm cv ctv) ⟨us, []⟩ = pure (ps.zip us)
theorem lam_g {P : Program} {w : World} {K : PySem.W.Frag} {mg : Str → Option Value} {base : Heap} {N ps : List Str} {k : Nat} {l : LamSite} {c : EX} (sc : FnScope N ps l.scope) (hp : PosL l ps)
    (hb : ∀ (f c' : Addr) (A : Around) (outer : List PySem.Env) (s : Shared) (H : Hp) (E : XK), Room k (A.deeper (envOfC l.qual l.scope s.heap.objs.size f (.ref c'))) → A.guards = some [] →
      RE T false (cxOf (L2.CX P w) P w K mg base N l.qual l.scope f (.ref c') A outer s H E) (fun cls d _ H' => E cls d H') l.body c) :
    LamG P w K mg base T (k + 1) l ps (lamF N.length c) := by
  refine ⟨fun A outer s H us vs Q E f c' pm ctv hr hgu e0 hF hC r h => ?_⟩
  obtain ⟨F, μ, S, ds, s0, rs, hl, g⟩ := h
  have lim : s.heap.NoLimit := e0.mod.nolimit.keeps fun b o e => (e0.bs b o e).1
  refine run_lam sc hr e0 lim hF hC (.of_eq (hp _ _ _ us (by rw [← r.length]; exact hl))) r hl fun room => ?_
  obtain ⟨t, p, rd⟩ := hb f c' A outer s H E room hgu
  refine ⟨t, p, rd _ (startE N.length ds) F μ S H _ s0 (start_env rs) ?_⟩
  have g2 := exit_gp s0 g
  match hc : c (startE N.length ds) S with
  | none => rw [show sRet c (startE N.length ds) S = none by unfold sRet; rw [hc]; rfl] at g2; exact g2.elim
  | some (.ok d, S') =>
    rw [show sRet c (startE N.length ds) S = some (.ok (.ret d), S') by unfold sRet; rw [hc]; rfl] at g2
    exact fun F' μ' H' e q s' v rv => g2 F' μ' H' e q s' v rv
  | some (.error x, S') =>
    rw [show sRet c (startE N.length ds) S = some (.ok (.exc x (startE N.length ds)), S') by unfold sRet; rw [hc]; rfl] at g2
    exact fun F' μ' H' e q s' cls dd rx => g2 F' μ' H' e q s' (L2.start N vs) cls dd ((start_env rs).mono e q) rx
open Classical in
/-- the call of a name that holds the lambda l -/
noncomputable def cCallV (i : Nat) (l : LamSite) (n : Nat) (o : OpB) (r : AX) : EX := fun ρ S => match ρ[i]? with
  | some (some (.fn l')) => if l' = l then bindO (r ρ S) fun ds S => if ds.length = n then o ds S else none else none
  | _ => none
theorem ap_callV {i n : Nat} {l : LamSite} {o : OpB} {r : AX} {ρ : PF.Env} {S : Store} (h : ρ[i]? = some (some (.fn l))) : cCallV i l n o r ρ S = bindO (r ρ S) fun ds S => if ds.length = n then o ds S else none := by
  unfold cCallV
  rw [h]
  exact if_pos rfl
theorem re_callV {k i : Nat} {a : Str} {l : LamSite} {ps : List Str} {o : OpB} {e : Expr} {es : List Expr} {p pos : Pos} {c : AX} (G : LamG X.prog X.w X.K X.mg X.base T k l ps o) (hr : Room k X.A) (hgu : X.A.guards = some []) (hx : ∀ σ, PassesAt (L2.CX X.prog X.w) X σ fun cls d H => W cls d σ H)
    (ha : RA T X W (e :: es) c) (hN : X.N[i]? = some a := by rfl) (hv : Vis X.env.scope a := by first | exact Or.inl rfl | exact Or.inr (Or.inl rfl) | exact Or.inr (Or.inr rfl)) (hd : (a == ("__debug__" : Str)) = false := by decide) (hcd : (a == ("__classdict__" : Str)) = false := by decide)
    (he : starEach (e :: es) X.env = (false, eval e X.env) :: starEach es X.env := by rfl) (hpl : (backTo pos (starEach es X.env)).any (·.1) = false := by rfl) :
    RE T false X W (.Call (.Name a p) (e :: es) [] pos) (cCallV i l ps.length o c) := by
  obtain ⟨t, pa, rd⟩ := ha
  refine ⟨fun σ H Q => ∃ (f c' : Addr) (pm ctv : Value), σ[i]? = some (some (.ref f)) ∧ H f = some (FunO f l pm c' ctv) ∧ t σ H fun vs H1 => H1 f = some (FunO f l pm c' ctv) ∧ H1 c' = some (CodeO c' l.qual) ∧ spOf X.K X.mg T false ps.length o vs H1 Q (fun cls d H => W cls d σ H),
    ⟨fun pins s σ H Q I h => ?_⟩, fun σ ρ F μ S H Q s hE g => ?_⟩
  · obtain ⟨f, c', pm, ctv, hs, hF, ht⟩ := h
    refine wpAny_Call_Name_kw (thn ((pe_var (pos := p) (i := i) hN hv hd hcd).run pins s σ H (fun v H1 => v = .ref f ∧ H1 = H) I ⟨.ref f, hs, rfl, rfl⟩) fun u s1 ⟨v, H1, I1, r1, q1⟩ => ?_)
    obtain ⟨rfl, rfl⟩ := q1
    obtain rfl : u = Value.ref f := r1
    have fn : ∀ {s2 : Shared} {H2 : Hp}, Inv X pins σ H2 s2 → H2 f = some (FunO f l pm c' ctv) → PySem.W.FnAt f s2.heap := fun J hf => ⟨_, _, _, _, (J.hok f _ hf).1⟩
    refine PySem.W.callWith_F (fn I1 hF) (thn (pa.run pos pins s1 σ _ _ I1 ht) fun us s2 ⟨vs, H2, I2, r, q⟩ => ?_) he hpl
    obtain ⟨qf, qc, q⟩ := q
    refine ⟨fn I2 qf, wpAny_call (codeAny_mono (G.run X.A X.stack s2 H2 us vs Q (fun cls d H => W cls d σ H) f c' pm ctv hr hgu I2.env0 qf qc r q) ?_)⟩
    intro r' s' q'
    match r', q' with
    | .error e, q' => exact hx σ pins H2 s2 e s' I2 q'
    | .ok (.ret u), q' => exact Inv.after I2 q'
    | .ok .next, q' => exact q'.elim
    | .ok .brk, q' => exact q'.elim
    | .ok .cont, q' => exact q'.elim
  · unfold cCallV at g
    split at g
    · rename_i l' hρ
      split at g
      · rename_i hl
        subst hl
        obtain ⟨v, hs, rv⟩ := hE.2 i _ hρ
        cases rv with
        | @fn f c' _ pm ctv hF hC =>
          refine ⟨f, c', pm, ctv, hs, s.ex _ _ hF, rd σ ρ F μ S H _ s hE (GP.seq g fun ds F1 μ1 H1 S1 e1 p1 s1 g1 vs rs => ?_)⟩
          refine ⟨s1.ex _ _ (e1 _ _ hF), s1.ex _ _ (e1 _ _ hC), ?_⟩
          split at g1
          · rename_i hn
            exact ⟨F1, μ1, S1, ds, s1, rs, by rw [← rs.length]; exact hn, g1⟩
          · exact g1.elim
      · exact g.elim
    · exact g.elim
end
end PF
set_option Elab.async false
set_option linter.all false
set_option maxRecDepth 100000
set_option maxHeartbeats 4000000
/-! PF7: a law's end. -/
namespace PF
open PySem L2 Evl PySem.Spec PyProof.Rows
/-- the script as it lies ahead of the law: read alone, if it is none of the module's own objects -/
def scriptH (K : PySem.W.Frag) (a : Addr) (o : Obj) (ns : List Int) : Hp := fun b => if b = a ∧ (K.lookup a).isNone = true then some (.frz o (.lst (ns.map V.int))) else none
section
variable {P : Program} {w : World} {K : PySem.W.Frag} {mg mb : Str → Option Value} {k : Nat} {fa a : Addr} {fd : FuncData} {x : Str} {s₁ : Shared} {vs : List Value} {ns : List Int}
theorem scriptH_some {o : Obj} {b : Addr} {u : HO} (h : scriptH K a o ns b = some u) : b = a ∧ K.lookup a = none ∧ u = .frz o (.lst (ns.map V.int)) := by
  unfold scriptH at h
  split at h
  · rename_i c
    obtain ⟨h1, h2⟩ := c
    injection h with h
    exact ⟨h1, by simpa using h2, h.symm⟩
  · cases h
theorem law_run {o : OpB} (inK : K.In s₁.heap) (glob : s₁.heap.Ns mainGlobals mg) (blt : s₁.heap.Ns builtinsNs mb) (bltv : ∀ x : Str, x ≠ "__name__" → mb x = bootBuiltins x) (nolim : s₁.heap.NoLimit) (nogen : s₁.gens = #[])
    (at_ : s₁.heap.get? a = some { cls := .type "list", data := .seq vs.toArray }) (iav : IntsAre vs ns) (len : ns.length ≤ 63) (room : Room k callerA)
    (FG : ∀ base : Heap, K.In base → base.Ns mainGlobals mg → FnG P w K mg base k fa fd [x] (spOf K mg [] false 1 o)) (bnd : ∀ (s : Shared) (u : Value), BindsTo s fd ⟨[u], []⟩ [(x, u)])
    (end_ : o [.fz (ns.map D.int)] [] = some (.ok (.bl true), [])) :
    codeAny (model P w) callerA (.call (.ref fa) ⟨[.ref a], []⟩) (fun r s' => r = .ok (.ret (.bool true)) ∧ OldK s₁.heap s'.heap ∧ s'.os = s₁.os ∧ AllBare s'.gens) s₁ := by
  let ob : Obj := { cls := .type "list", data := .seq vs.toArray }
  let H := scriptH K a ob ns
  have rel : Vals (ns.map V.int) vs := vals_ints iav
  have small : (ns.map V.int).length ≤ sizeLine := by rw [List.length_map]; exact Nat.le_trans len (by decide)
  have hH : ∀ b u, H b = some u → b = a ∧ K.lookup a = none ∧ u = .frz ob (.lst (ns.map V.int)) := fun b u e => scriptH_some e
  -- what is no list is not tracked
  have out : ∀ b (q : Obj), s₁.heap.get? b = some q → (∀ n, q.data ≠ .seq vs.toArray n) → H b = none := by
    intro b q e nd
    match z : H b with
    | none => rfl
    | some u =>
      obtain ⟨rfl, _, _⟩ := hH b u z
      rw [at_] at e
      injection e with e
      subst e
      exact absurd rfl (nd _)
  have names : ∀ (L : Addr) (m : Str → Option Value), s₁.heap.Ns L m → (hidT s₁.heap H).Ns L m := by
    rintro L m ⟨q, es, ep, e, dd, rest⟩
    exact ⟨q, es, ep, hidT_get e (out L q e fun n z => by rw [dd] at z; cases z), dd, rest⟩
  have inB : K.In (hidT s₁.heap H) := by
    intro b q e
    refine hidT_get (inK b q e) ?_
    match z : H b with
    | none => rfl
    | some u =>
      obtain ⟨rfl, nk, _⟩ := hH b u z
      rw [nk] at e; cases e
  have mod : Mod K mg (hidT s₁.heap H) := { kin := inB, glob := names _ _ glob, blt := ⟨mb, names _ _ blt, bltv⟩, nolimit := by obtain ⟨mc, n1, n2⟩ := nolim; exact ⟨mc, names _ _ n1, n2⟩ }
  have held : HOk P w H s₁.heap := by
    intro b u e
    obtain ⟨rfl, _, rfl⟩ := hH b u e
    exact ⟨at_, small, vs, _, rel, at_⟩
  have env : Env0 P w K mg (hidT s₁.heap H) callerA [] s₁ H := { frames := rfl, mod := mod, bs := fun b q e => of_hidT e, bsz := by rw [hidT_size]; exact Nat.le_refl _, funs := trivial, frf := fun b hb => (nomatch hb), hok := held, bare := .of_eq nogen }
  have script : SqL K H a (ns.map V.int) := by
    match z : K.lookup a with
    | none => exact .inl (.inr ⟨ob, if_pos ⟨rfl, by rw [z]; rfl⟩⟩)
    | some q =>
      have e := inK a q z
      rw [at_] at e
      injection e with e
      subst e
      exact .inr ⟨_, vs.toArray, _, z, rfl, rfl, rfl, by rw [List.size_toArray, ← rel.length]; exact small, by simpa using rel⟩
  have want : spOf K mg [] false 1 o [.ref a] H (fun v _ => v = .bl true) fun _ _ _ => False := by
    refine ⟨H, [], [], [.fz (ns.map D.int)], ⟨Ex.refl _, rfl, List.nodup_nil, fun n b ds e => by simp at e, fun p hp => (nomatch hp), fun p hp => (nomatch hp)⟩, .cons (.fz script (reps_ints ns)) .nil, rfl, ?_⟩
    rw [end_]
    intro F' μ' H' _ _ _ v r
    have r : Rep K F' μ' (.bl true) v := r
    cases r
    rfl
  refine codeAny_mono ((FG _ inB (names _ _ glob)).run callerA [] s₁ H ⟨[.ref a], []⟩ [.ref a] [.ref a] _ _ room rfl env (bnd s₁ (.ref a)) (.cons rfl .nil) want) ?_
  intro r s' h
  match r, h with
  | .error e, h =>
    obtain ⟨_, _, _, _, _, _, _, _, _, _, _, _, z⟩ := h
    exact z.elim
  | .ok .next, h => exact h.elim
  | .ok .brk, h => exact h.elim
  | .ok .cont, h => exact h.elim
  | .ok (.ret u), ⟨v, H', os, bare, un, hok', rv, hv⟩ =>
    have hv : v = .bl true := hv
    subst hv
    have hu : u = Value.bool true := rv
    subst hu
    refine ⟨rfl, OldK.of_keep fun b q e => ?_, os, bare⟩
    match z : H b with
    | none => exact un.keep b q e z (fun z => nomatch z) (fun z => nomatch z)
    | some u =>
      obtain ⟨rfl, _, rfl⟩ := hH b u z
      have k1 := hok' b _ (un.frzs b _ _ z)
      rw [at_] at e
      injection e with e
      subst e
      exact k1.1
/-- .. with tables of code objects: cs, the code objects and their tables -/
theorem law_runT {o : OpB} {cs : List (Addr × Addr)} {T : List (Addr × Str)} (inK : K.In s₁.heap) (glob : s₁.heap.Ns mainGlobals mg) (blt : s₁.heap.Ns builtinsNs mb) (bltv : ∀ x : Str, x ≠ "__name__" → mb x = bootBuiltins x) (nolim : s₁.heap.NoLimit) (nogen : s₁.gens = #[])
    (at_ : s₁.heap.get? a = some { cls := .type "list", data := .seq vs.toArray }) (iav : IntsAre vs ns) (len : ns.length ≤ 63) (room : Room k callerA)
    (FG : ∀ base : Heap, K.In base → base.Ns mainGlobals mg → (∀ p ∈ cs, LamX.TabB base mg p.1 p.2) → FnG P w K mg base k fa fd [x] (spOf K mg T false 1 o)) (bnd : ∀ (s : Shared) (u : Value), BindsTo s fd ⟨[u], []⟩ [(x, u)])
    (tabs : ∀ p ∈ cs, s₁.heap.get? p.2 = some { cls := .none, data := .fields #[] }) (tabK : ∀ p ∈ cs, K.lookup p.2 = none) (cod : ∀ p ∈ cs, PySem.W.CodeHd s₁.heap p.1 p.2) (Tcs : ∀ t ∈ T, ∃ p ∈ cs, t.1 = p.2)
    (bmn : ∃ (bm : Addr) (ob : Obj), mg "__builtins__" = some (.ref bm) ∧ bm ≠ builtinsNs ∧ s₁.heap.get? bm = some ob ∧ ob.cls = .type "module" ∧ ob.dict = some builtinsNs ∧ ob.data = .plain)
    (end_ : o [.fz (ns.map D.int)] [] = some (.ok (.bl true), [])) :
    codeAny (model P w) callerA (.call (.ref fa) ⟨[.ref a], []⟩) (fun r s' => r = .ok (.ret (.bool true)) ∧ OldK s₁.heap s'.heap ∧ s'.os = s₁.os ∧ AllBare s'.gens) s₁ := by
  let ob : Obj := { cls := .type "list", data := .seq vs.toArray }
  let S0 := scriptH K a ob ns
  let H : Hp := fun b => if b ∈ cs.map (·.2) then some (.tbl #[]) else S0 b
  have isTab : ∀ b, b ∈ cs.map (·.2) → s₁.heap.get? b = some { cls := .none, data := .fields #[] } ∧ K.lookup b = none := fun b hb => by
    obtain ⟨p, hp, rfl⟩ := List.mem_map.mp hb
    exact ⟨tabs p hp, tabK p hp⟩
  have aNo : a ∉ cs.map (·.2) := fun z => by
    have h1 := (isTab a z).1
    rw [at_] at h1
    have h2 : Data.seq vs.toArray _ = Data.fields #[] := congrArg Obj.data (Option.some.inj h1)
    cases h2
  have HT : ∀ p ∈ cs, H p.2 = some (.tbl #[]) := fun p hp => if_pos (List.mem_map.mpr ⟨p, hp, rfl⟩)
  have rel : Vals (ns.map V.int) vs := vals_ints iav
  have small : (ns.map V.int).length ≤ sizeLine := by rw [List.length_map]; exact Nat.le_trans len (by decide)
  have hH : ∀ b u, H b = some u → (b ∈ cs.map (·.2) ∧ u = .tbl #[]) ∨ (b = a ∧ K.lookup a = none ∧ u = .frz ob (.lst (ns.map V.int))) := fun b u e => by
    by_cases hb : b ∈ cs.map (·.2)
    · exact .inl ⟨hb, (Option.some.inj ((if_pos hb).symm.trans e)).symm⟩
    · exact .inr (scriptH_some ((if_neg hb).symm.trans e))
  -- what is no list is not tracked
  have out : ∀ b (q : Obj), s₁.heap.get? b = some q → (∀ n, q.data ≠ .seq vs.toArray n) → q.data ≠ .fields #[] → H b = none := by
    intro b q e nd nf
    match z : H b with
    | none => rfl
    | some u =>
      rcases hH b u z with ⟨hb, _⟩ | ⟨rfl, _, _⟩
      · rw [(isTab b hb).1] at e
        injection e with e
        subst e
        exact absurd rfl nf
      · rw [at_] at e
        injection e with e
        subst e
        exact absurd rfl (nd _)
  have names : ∀ (L : Addr) (m : Str → Option Value), s₁.heap.Ns L m → (hidT s₁.heap H).Ns L m := by
    rintro L m ⟨q, es, ep, e, dd, rest⟩
    exact ⟨q, es, ep, hidT_get e (out L q e (fun n z => by rw [dd] at z; cases z) (fun z => by rw [dd] at z; cases z)), dd, rest⟩
  have inB : K.In (hidT s₁.heap H) := by
    intro b q e
    refine hidT_get (inK b q e) ?_
    match z : H b with
    | none => rfl
    | some u =>
      rcases hH b u z with ⟨hb, _⟩ | ⟨rfl, nk, _⟩
      · rw [(isTab b hb).2] at e; cases e
      · rw [nk] at e; cases e
  have mod : Mod K mg (hidT s₁.heap H) := { kin := inB, glob := names _ _ glob, blt := ⟨mb, names _ _ blt, bltv⟩, nolimit := by obtain ⟨mc, n1, n2⟩ := nolim; exact ⟨mc, names _ _ n1, n2⟩ }
  have tb : ∀ p ∈ cs, LamX.TabB (hidT s₁.heap H) mg p.1 p.2 := fun p hp => by
    refine ⟨?_, ?_, fun z => ?_⟩
    · obtain ⟨oo, us, file, tf, flags, tg, inF, text, tt, e1, r1, r2, r3, rest⟩ := cod p hp
      refine ⟨oo, us, file, tf, flags, tg, inF, text, tt, hidT_get e1 (out _ _ e1 (fun n z => ?_) fun z => ?_), r1, r2, r3, rest⟩
      · rw [r2] at z; cases z
      · rw [r2] at z; cases z; simp at r3
    · obtain ⟨bm, om, m1, m2, m3, m4, m5, m6⟩ := bmn
      have n1 : bm ≠ mainGlobals := fun q => by
        obtain ⟨q2, es, ep, eq, dq, _⟩ := glob
        rw [q, eq] at m3
        cases m3
        rw [dq] at m6
        cases m6
      have n2 : bm ≠ p.2 := fun q => by
        rw [q, tabs p hp] at m3
        cases m3
        cases m6
      exact ⟨bm, om, m1, m2, n1, n2, hidT_get m3 (out _ _ m3 (fun n z => by rw [m6] at z; cases z) (fun z => by rw [m6] at z; cases z)), m4, m5, m6⟩
    · obtain ⟨q2, es, ep, eq, dq, _⟩ := glob
      rw [z, tabs p hp] at eq
      cases eq
      cases dq
  have held : HOk P w H s₁.heap := by
    intro b u e
    rcases hH b u e with ⟨hb, rfl⟩ | ⟨rfl, _, rfl⟩
    · exact (isTab b hb).1
    · exact ⟨at_, small, vs, _, rel, at_⟩
  have env : Env0 P w K mg (hidT s₁.heap H) callerA [] s₁ H := { frames := rfl, mod := mod, bs := fun b q e => of_hidT e, bsz := by rw [hidT_size]; exact Nat.le_refl _, funs := trivial, frf := fun b hb => (nomatch hb), hok := held, bare := .of_eq nogen }
  have scriptF : SqL K S0 a (ns.map V.int) := by
    match z : K.lookup a with
    | none => exact .inl (.inr ⟨ob, if_pos ⟨rfl, by rw [z]; rfl⟩⟩)
    | some q =>
      have e := inK a q z
      rw [at_] at e
      injection e with e
      subst e
      exact .inr ⟨_, vs.toArray, _, z, rfl, rfl, rfl, by rw [List.size_toArray, ← rel.length]; exact small, by simpa using rel⟩
  have want : spOf K mg T false 1 o [.ref a] H (fun v _ => v = .bl true) fun _ _ _ => False := by
    have s0H : Ex S0 H := fun b u e => by
      have eb := (scriptH_some e).1
      exact (if_neg (by rw [eb]; exact aNo)).trans e
    refine ⟨S0, [], [], [.fz (ns.map D.int)], ⟨s0H, rfl, List.nodup_nil, fun n b ds e => by simp at e, fun p hp => ?_, fun p hp => ?_⟩, .cons (.fz scriptF (reps_ints ns)) .nil, rfl, ?_⟩
    · obtain ⟨c, hc, e⟩ := Tcs p hp
      exact LamX.TabS.nil (by rw [e]; exact HT c hc)
    · obtain ⟨c, hc, e⟩ := Tcs p hp
      match z : S0 p.1 with
      | none => rfl
      | some u =>
        have ea := (scriptH_some z).1
        exact absurd (List.mem_map.mpr ⟨c, hc, by rw [← e, ea]⟩) aNo
    rw [end_]
    intro F' μ' H' _ _ _ v r
    have r : Rep K F' μ' (.bl true) v := r
    cases r
    rfl
  refine codeAny_mono ((FG _ inB (names _ _ glob) tb).run callerA [] s₁ H ⟨[.ref a], []⟩ [.ref a] [.ref a] _ _ room rfl env (bnd s₁ (.ref a)) (.cons rfl .nil) want) ?_
  intro r s' h
  match r, h with
  | .error e, h =>
    obtain ⟨_, _, _, _, _, _, _, _, _, _, _, _, z⟩ := h
    exact z.elim
  | .ok .next, h => exact h.elim
  | .ok .brk, h => exact h.elim
  | .ok .cont, h => exact h.elim
  | .ok (.ret u), ⟨v, H', os, bare, un, hok', rv, hv⟩ =>
    have hv : v = .bl true := hv
    subst hv
    have hu : u = Value.bool true := rv
    subst hu
    have keepO : ∀ b q, b ∉ cs.map (·.2) → s₁.heap.get? b = some q → s'.heap.get? b = some q := fun b q nb e => by
      match z : H b with
      | none => exact un.keep b q e z (fun z => nomatch z) (fun z => nomatch z)
      | some u =>
        rcases hH b u z with ⟨hb, _⟩ | ⟨rfl, _, rfl⟩
        · exact absurd hb nb
        · have k1 := hok' b _ (un.frzs b _ _ z)
          rw [at_] at e
          injection e with e
          subst e
          exact k1.1
    have grow : ∀ p ∈ cs, ∃ more : Array Value, s'.heap.get? p.2 = some { cls := .none, data := .fields more } := fun p hp => by
      obtain ⟨more, z⟩ := un.tbls p.2 #[] (HT p hp)
      exact ⟨_, hok' p.2 _ z⟩
    refine ⟨rfl, ⟨fun b q e => ?_, fun b q e => ?_⟩, os, bare⟩
    · by_cases hb : b ∈ cs.map (·.2)
      · obtain ⟨p, hp, rfl⟩ := List.mem_map.mp hb
        obtain ⟨more, hm⟩ := grow p hp
        rw [tabs p hp] at e
        cases e
        exact .inr (.inl ⟨((cod p hp).tab (tabs p hp)).isCodeTable, rfl, #[], more, rfl, by rw [Array.empty_append]; exact hm⟩)
      · exact .inl (keepO b q hb e)
    · by_cases hb : b ∈ cs.map (·.2)
      · obtain ⟨p, hp, rfl⟩ := List.mem_map.mp hb
        obtain ⟨more, hm⟩ := grow p hp
        exact ⟨_, hm⟩
      · exact ⟨q, keepO b q hb e⟩
end
/-- the law's end over a head by facts -/
theorem walk_pf {l : PySem.W.OpenLaw} {k : Nat} {q : Program} {loose : List Str} {XP : (Str → Option Value) → Heap → Prop} {YP : World → Heap → Prop} {d : DefRec} {x : Str} {o : OpB}
    (hn : l.most = some 63) (hdf : d.params.defaults = []) (hr : Room k callerA) (end_ : ∀ ns : List Int, ns.length ≤ 63 → o [.fz (ns.map D.int)] [] = some (.ok (.bl true), []))
    (F : ∀ (w : World) (mg : Str → Option Value) (fa : Addr) (h : Heap), YP w h → h.Ns mainGlobals mg → mg d.name = some (.ref fa) →
      ∃ (K : PySem.W.Frag) (fd : FuncData), K.In h ∧ (∀ (s : Shared) (u : Value), BindsTo s fd ⟨[u], []⟩ [(x, u)]) ∧ ∀ base : Heap, K.In base → base.Ns mainGlobals mg → FnG l.prog w K mg base k fa fd [x] (spOf K mg [] false 1 o)) :
    PySem.W.WalkO q loose XP YP l.row.toRowW d [] (fun f vs => PySem.call f vs) := by
  refine Att.attach_call hn hdf ?_
  intro w s₀ s₁ mg mb fa ob pm cd doc a vs ns G Y ho hd hcd hmg hobj hints hlen hg
  obtain ⟨K, fd, KX, hb, hF⟩ := F w mg fa _ Y G.T.g hmg
  exact law_run KX G.T.g G.T.b G.T.builtins G.T.nolimit hg hobj hints hlen hr hF hb (end_ ns hlen)
/-- .. with tables of code objects -/
theorem walk_pfT {l : PySem.W.OpenLaw} {k : Nat} {q : Program} {loose : List Str} {XP : (Str → Option Value) → Heap → Prop} {YP : World → Heap → Prop} {d : DefRec} {x : Str} {o : OpB}
    (hn : l.most = some 63) (hdf : d.params.defaults = []) (hr : Room k callerA) (end_ : ∀ ns : List Int, ns.length ≤ 63 → o [.fz (ns.map D.int)] [] = some (.ok (.bl true), []))
    (F : ∀ (w : World) (mg : Str → Option Value) (fa : Addr) (h : Heap), YP w h → h.Ns mainGlobals mg → mg d.name = some (.ref fa) →
      ∃ (K : PySem.W.Frag) (fd : FuncData) (cs : List (Addr × Addr)) (T : List (Addr × Str)), K.In h ∧ (∀ p ∈ cs, h.get? p.2 = some { cls := .none, data := .fields #[] }) ∧ (∀ p ∈ cs, K.lookup p.2 = none) ∧ (∀ p ∈ cs, PySem.W.CodeHd h p.1 p.2) ∧ (∀ t ∈ T, ∃ p ∈ cs, t.1 = p.2) ∧
        (∀ (s : Shared) (u : Value), BindsTo s fd ⟨[u], []⟩ [(x, u)]) ∧ ∀ base : Heap, K.In base → base.Ns mainGlobals mg → (∀ p ∈ cs, LamX.TabB base mg p.1 p.2) → FnG l.prog w K mg base k fa fd [x] (spOf K mg T false 1 o)) :
    PySem.W.WalkO q loose XP YP l.row.toRowW d [] (fun f vs => PySem.call f vs) := by
  refine Att.attach_call hn hdf ?_
  intro w s₀ s₁ mg mb fa ob pm cd doc a vs ns G Y ho hd hcd hmg hobj hints hlen hg
  obtain ⟨K, fd, cs, T, KX, t1, t2, t3, t4, hb, hF⟩ := F w mg fa _ Y G.T.g hmg
  exact law_runT KX G.T.g G.T.b G.T.builtins G.T.nolimit hg hobj hints hlen hr hF hb t1 t2 t3 t4 G.T.bmain (end_ ns hlen)
end PF
set_option Elab.async false
set_option linter.all false
set_option maxRecDepth 100000
set_option maxHeartbeats 4000000
/-! PF8: what the printed derivations call. -/
namespace PF
open PySem L2 Evl PySem.Spec PyProof.Rows
section
variable {X : Cx} {T : List (Addr × Str)} {W : WX}
theorem OpOk.freeze {r : R2} {o : Op2} (h : OpOk X T true r o) : OpOk X T false r o := fun F μ S H x y v u Q er s rx ry g => h F μ S H x y v u Q er s rx ry (gp_freeze g)
/-- + of ints, texts, tuples, lists -/
def oAddA : Op2 := fun x y S => match oAdd x y S with
  | some r => some r
  | none => oCat x y S
def rAddA (K : PySem.W.Frag) : R2 := fun x y H Q => rAdd3 K x y H Q ∨ rCat x y H Q
theorem op_add4 : OpR X (binaryOp .Add) (rAddA X.K) := op_add3.or op_cat
theorem oAddA_ok : OpOk X T false (rAddA X.K) oAddA := OpOk.or oAdd_ok oCat_ok.freeze fun x y S => by
  unfold oAddA
  cases h : oAdd x y S with
  | some r => exact .inl rfl
  | none => exact .inr rfl
theorem oAdd_nerr : ∀ x y S z S', oAdd x y S ≠ some (.error z, S') := by
  intro x y S z S' h
  unfold oAdd at h
  split at h
  · cases h
  · split at h <;> cases h
  · split at h <;> cases h
  · cases h
theorem oCat_nerr : ∀ x y S z S', oCat x y S ≠ some (.error z, S') := by
  intro x y S z S' h
  unfold oCat at h
  split at h
  · split at h
    · split at h <;> cases h
    · cases h
  · cases h
theorem oAddA_ne : ∀ x y S z S', oAddA x y S ≠ some (.error z, S') := by
  intro x y S z S' h
  unfold oAddA at h
  split at h
  · rename_i r hr
    rw [h] at hr
    exact oAdd_nerr _ _ _ _ _ hr
  · exact oCat_nerr _ _ _ _ _ h
theorem oI_ne {C : Int → Int → Bool} {g : Int → Int → D} : ∀ x y S z S', oI C g x y S ≠ some (.error z, S') := by
  intro x y S z S' h
  unfold oI at h
  split at h
  · split at h <;> cases h
  · cases h
theorem oSub_ne : ∀ x y S z S', oSub x y S ≠ some (.error z, S') := oI_ne
theorem oMul_ne : ∀ x y S z S', oMul x y S ≠ some (.error z, S') := oI_ne
def rIadd3 (K : PySem.W.Frag) : R2 := fun x y H Q => (∃ i j, x = .int i ∧ y = .int j ∧ Q (.int (i + j)) H) ∨ (∃ i j, x = .str i ∧ y = .str j ∧ i.length + j.length ≤ sizeLine ∧ Q (.str (i ++ j)) H)
/-- < of ints, texts, tuples of ints -/
def oLtA : Op2 := fun x y S => match x, y with
  | .int i, .int j => some (.ok (.bl (decide (i < j))), S)
  | .str i, .str j => some (.ok (.bl (decide (i.cps.toList < j.cps.toList))), S)
  | .tup a, .tup b => (match intsOf a, intsOf b with
    | some ns, some ms => some (.ok (.bl (HT.lexLt ns ms)), S)
    | _, _ => none)
  | _, _ => none
def rLtA (K : PySem.W.Frag) : R2 := fun x y H Q => (∃ i j, x = .int i ∧ y = .int j ∧ Q (.bl (decide (i < j))) H) ∨ (∃ i j, x = .str i ∧ y = .str j ∧ Q (.bl (decide (i.cps.toList < j.cps.toList))) H) ∨ rLtT K x y H Q
theorem op_ltA (hu : X.A.units < cLine) : OpR X (compareOp .Lt) (rLtA X.K) := op_lt.or (op_lt_str.or (op_ltT hu))
theorem oLtA_ok : OpOk X T false (rLtA X.K) oLtA := by
  intro F μ S H x y v u Q er s rx ry h
  unfold oLtA at h
  cases rx with
  | int i =>
    cases ry with
    | int j => exact .inl ⟨i, j, rfl, rfl, gp_val h s (.bl _)⟩
    | _ => exact h.elim
  | str i =>
    cases ry with
    | str j => exact .inr (.inl ⟨i, j, rfl, rfl, gp_val h s (.bl _)⟩)
    | _ => exact h.elim
  | @tup a xs ds hq rs =>
    cases ry with
    | @tup b ys es hq2 rs2 =>
      dsimp only at h
      split at h
      · rename_i ns ms h1 h2
        have e1 := ints_rep rs h1
        have e2 := ints_rep rs2 h2
        subst e1; subst e2
        exact .inr (.inr ⟨a, b, ns, ms, rfl, rfl, s.sqT hq, s.sqT hq2, gp_val h s (.bl _)⟩)
      · exact h.elim
    | _ => exact h.elim
  | _ => exact h.elim
/-- in: a thing in a list or tuple, a text in a text -/
def oInA (neg : Bool) : Op2 := fun x y S => match y with
  | .str _ => oInS neg x y S
  | _ => oIn neg x y S
theorem oInS_ok : OpOk X T false (fun x y H Q => ∃ i j, x = .str i ∧ y = .str j ∧ Q (.bl (!(Builtin.Str.occurrences j i 0 j.length 1).isEmpty)) H) (oInS false) := by
  intro F μ S H x y v u Q er s rx ry h
  unfold oInS at h
  cases rx with
  | str i =>
    cases ry with
    | str j => exact ⟨i, j, rfl, rfl, gp_val h s (.bl _)⟩
    | _ => exact h.elim
  | _ => exact h.elim
theorem oNinS_ok : OpOk X T false (fun x y H Q => ∃ i j, x = .str i ∧ y = .str j ∧ Q (.bl (!(!(Builtin.Str.occurrences j i 0 j.length 1).isEmpty))) H) (oInS true) := by
  intro F μ S H x y v u Q er s rx ry h
  unfold oInS at h
  cases rx with
  | str i =>
    cases ry with
    | str j => exact ⟨i, j, rfl, rfl, gp_val h s (.bl _)⟩
    | _ => exact h.elim
  | _ => exact h.elim
theorem op_inA : OpR X (compareOp .In) (fun x y H Q => rIn X.K false x y H Q ∨ ∃ i j, x = .str i ∧ y = .str j ∧ Q (.bl (!(Builtin.Str.occurrences j i 0 j.length 1).isEmpty)) H) := op_in_seq.or op_in_str
theorem op_ninA : OpR X (compareOp .NotIn) (fun x y H Q => rIn X.K true x y H Q ∨ ∃ i j, x = .str i ∧ y = .str j ∧ Q (.bl (!(!(Builtin.Str.occurrences j i 0 j.length 1).isEmpty))) H) := op_notIn_seq.or op_notin_str
theorem oInA_ok : OpOk X T false (fun x y H Q => rIn X.K false x y H Q ∨ ∃ i j, x = .str i ∧ y = .str j ∧ Q (.bl (!(Builtin.Str.occurrences j i 0 j.length 1).isEmpty)) H) (oInA false) := OpOk.or oIn_ok oInS_ok fun x y S => by
  cases y <;> first | exact .inr rfl | exact .inl rfl
theorem oNinA_ok : OpOk X T false (fun x y H Q => rIn X.K true x y H Q ∨ ∃ i j, x = .str i ∧ y = .str j ∧ Q (.bl (!(!(Builtin.Str.occurrences j i 0 j.length 1).isEmpty))) H) (oInA true) := OpOk.or oIn_ok oNinS_ok fun x y S => by
  cases y <;> first | exact .inr rfl | exact .inl rfl
/-- a[lo:hi], whatever a is: a list goes as a value -/
def cSliceA (a : EX) (lo hi : OX) : EX := fun ρ S => bindO (a ρ S) fun x S => bindO (lo ρ S) fun l S => bindO (hi ρ S) fun h S => match x with
  | .tup xs => some (.ok (.tup (cutL xs l h)), S)
  | .str z => if z.length ≤ lim then some (.ok (.str (cutS z l h)), S) else none
  | d => (match asL d S with
    | some xs => some (.ok (.lst (cutL xs l h)), S)
    | none => none)
theorem re_sliceA {e : Expr} {lo hi : Option Expr} {a : EX} {cl ch : OX} {pos p2 : Pos} (ha : RE T false X W e a) (hl : RO T X W lo cl) (hh : RO T X W hi ch) : RE T false X W (.Subscript e (.Slice lo hi none p2) pos) (cSliceA a cl ch) := by
  obtain ⟨ta, pa, fa⟩ := ha
  obtain ⟨tl, pl, fl⟩ := hl
  obtain ⟨th, ph, fh⟩ := hh
  refine ⟨_, pe_slice (sl_tupA.or (sl_str.or sl_list)) pa pl ph, fun σ ρ F μ S H Q s hE g => ?_⟩
  refine fa σ ρ F μ S H _ s hE (GP.seq g fun x F1 μ1 H1 S1 e1 p1 s1 g1 v rx => ?_)
  refine fl σ ρ F1 μ1 S1 H1 _ s1 (hE.mono e1 p1) (GP.seq g1 fun l F2 μ2 H2 S2 e2 p2 s2 g2 => ?_)
  refine fh σ ρ F2 μ2 S2 H2 _ s2 ((hE.mono e1 p1).mono e2 p2) (GP.seq g2 fun h F3 μ3 H3 S3 e3 p3 s3 g3 => ?_)
  have rx := Rep.mono e3 p3 (Rep.mono e2 p2 rx)
  have aslist : ∀ ds, asL x S3 = some ds → GP X.K T F3 μ3 (some (.ok (.lst (cutL ds l h)), S3)) (OkV X.K false Q) (ErW X.K X.mg fun cls dd H' => W cls dd σ H') → rSlL X.K v l h H3 Q := by
    intro ds hq g
    obtain ⟨a, vs, rfl, h1, h2⟩ := asL_ok s3 rx hq
    exact ⟨a, vs, rfl, h1, gp_lst (gp_freeze g) s3 (h2.cut _ _)⟩
  cases rx with
  | @tup a xs ds hq rs =>
    refine .inl ⟨a, xs, rfl, s3.sqT hq, fun hw => ?_, fun _ => gp_tup g3 s3 (rs.cut _ _)⟩
    dsimp only at g3
    rw [sIx_all hw rs.length] at g3
    exact gp_val g3 s3 (.tup hq rs)
  | str z =>
    dsimp only at g3
    split at g3
    · rename_i hz
      exact .inr (.inl ⟨z, rfl, lim_ok hz, gp_val g3 s3 (.str _)⟩)
    · exact g3.elim
  | lst hq rs =>
    dsimp only at g3
    split at g3
    · rename_i ds hd
      exact .inr (.inr (aslist ds hd g3))
    · exact g3.elim
  | fz hq rs =>
    dsimp only at g3
    split at g3
    · rename_i ds hd
      exact .inr (.inr (aslist ds hd g3))
    · exact g3.elim
  | loc hq =>
    dsimp only at g3
    split at g3
    · rename_i ds hd
      exact .inr (.inr (aslist ds hd g3))
    · exact g3.elim
  | _ => simp only [asL] at g3; exact g3.elim
/-- what is walked: a list, a tuple, a text -/
def srcOfA : D → Option Src
  | .str z => some (.items (z.cps.toList.map fun c => .str ⟨#[c]⟩))
  | d => srcOf d
def cSeqA (c : EX) : IX := fun ρ S => bindO (c ρ S) fun d S => match srcOfA d with
  | some src => some (.ok src, S)
  | none => none
theorem walks_s {K : PySem.W.Frag} {F : Hp} {μ : List Addr} {z : Str} : Walks K T F μ (.items (z.cps.toList.map fun c => .str ⟨#[c]⟩)) (Its z) := by
  intro F' μ' S H ds i e p s q
  cases q
  refine ⟨fun d hd => ?_, fun hl => ?_⟩
  · rw [List.getElem?_map, Option.map_eq_some_iff] at hd
    obtain ⟨c, hc, rfl⟩ := hd
    have hc' : z.cps[i]? = some c := by simpa using hc
    have hi : i < z.cps.size := by
      rcases Nat.lt_or_ge i z.cps.size with q | q
      · exact q
      · rw [Array.getElem?_eq_none q] at hc'; cases hc'
    refine ⟨hi, fun x H' y => ?_⟩
    obtain ⟨rfl, c', h1, rfl⟩ := y
    rw [hc'] at h1; cases h1
    exact ⟨F', Ex.refl _, s, .str _⟩
  · show z.cps.size ≤ i
    simpa using hl
theorem ri_seqA {tg e : Expr} {c : EX} (h : RE T false X W e c) : RI T X W tg e (cSeqA c) := by
  obtain ⟨t, pe, f⟩ := h
  refine ⟨fun σ H R => t σ H fun x H1 => (∃ a, x = .ref a ∧ (((∃ vs, SqL X.K H1 a vs) ∧ R (Itl X.K a) H1) ∨ ((∃ vs, SqT X.K H1 a vs) ∧ R (Itt X.K a) H1))) ∨ ∃ z, x = .str z ∧ R (Its z) H1, ⟨fun pins s σ H R I h => ?_⟩, fun σ ρ F μ S H R s hE g => ?_⟩
  · refine thn (pe.run pins s σ H _ I h) ?_
    rintro v s1 ⟨x, H1, I1, r1, q1⟩
    have newest : ∀ (ob : Obj), Inv X pins σ H1 { s1 with heap := s1.heap.push ob } := fun ob => Inv.kept (t' := s1.toks) I1 fun b o q => Heap.get?_push_of_some _ q
    have foot : ∀ b ∈ [s1.heap.objs.size], FpOk X pins H1 b := fun b hb => by
      rw [List.mem_singleton] at hb
      subst hb
      exact Inv.fpOk I1 (Nat.le_refl _) (HOk.fresh I1.hok (Nat.le_refl _))
    rcases q1 with ⟨a, rfl, q1⟩ | ⟨z, rfl, q⟩
    · cases r1
      rcases q1 with ⟨⟨vs, hq⟩, q⟩ | ⟨⟨vs, hq⟩, q⟩
      · obtain ⟨its, _, pl, _⟩ := Inv.list I1 hq
        exact wpAny_pyIter_list pl.isList ⟨_, _, _, _, H1, rfl, newest _, turn_list a _, ⟨_, Heap.get?_push_size _ rfl, rfl, rfl⟩, foot, q⟩
      · obtain ⟨its, _, pt, _⟩ := Inv.tuple I1 hq
        exact wpAny_pyIter_tuple (items := its.toArray) pt ⟨_, _, _, _, H1, rfl, newest _, turn_tuple a _, ⟨_, Heap.get?_push_size _ rfl, rfl, rfl⟩, foot, q⟩
    · obtain ⟨tk, rfl⟩ := r1
      by_cases ha : z.cps.all (· < 128) = true
      · exact wpAny_pyIter_ascii ha ⟨_, _, _, _, H1, rfl, newest _, turn_str _ z tk "str_ascii_iterator" (.inl rfl), ⟨_, Heap.get?_push_size _ rfl, rfl, rfl⟩, foot, q⟩
      · exact wpAny_pyIter_wide (by simpa using ha) ⟨_, _, _, _, H1, rfl, newest _, turn_str _ z tk "str_iterator" (.inr rfl), ⟨_, Heap.get?_push_size _ rfl, rfl, rfl⟩, foot, q⟩
  · refine f σ ρ F μ S H _ s hE (GP.seq g fun d F1 μ1 H1 S1 e1 p1 s1 g1 v rv => ?_)
    split at g1
    · rename_i src hs
      have fin := GP.here g1 s1
      have other : srcOf d = some src → (∃ a, v = .ref a ∧ (((∃ vs, SqL X.K H1 a vs) ∧ R (Itl X.K a) H1) ∨ ((∃ vs, SqT X.K H1 a vs) ∧ R (Itt X.K a) H1))) := by
        intro hs
        obtain ⟨a, rfl, hh⟩ := stand s1 rv hs
        refine ⟨a, rfl, ?_⟩
        rcases hh with ⟨h1, h2⟩ | ⟨h1, h2⟩
        · exact .inl ⟨h1, fin _ (walks_l h2)⟩
        · exact .inr ⟨h1, fin _ (walks_t h2)⟩
      cases d with
      | str z =>
        cases rv
        simp only [srcOfA] at hs
        cases hs
        exact .inr ⟨z, rfl, fin _ walks_s⟩
      | _ => exact .inl (other hs)
    · exact g1.elim
abbrev cEnum : AX → IX := cEnumL
theorem ri_enum {e : Expr} {ca : AX} {p pos : Pos} {elts : List Expr} {kk : Nat} {tpos : Pos} (ha : RA T X W [e] ca) (hm : X.mg "enumerate" = none) (hg : Gl X "enumerate" := by rfl) (hs : starEach [e] X.env = [(false, eval e X.env)] := by rfl) : RI T X W (.Tuple elts kk tpos) (.Call (.Name "enumerate" p) [e] [] pos) (cEnum ca) := ri_enumL ha hm hg hs
/-! ### what is let out -/
theorem pass_blk {s : Shared} {H : Hp} {scope : Scope} {env : PySem.Env} {fp : List Addr} : ∀ σ, PassesAt (L2.CX X.prog X.w) (X.blk s H scope env fp) σ fun cls d H => WF cls d σ H := fun σ pins H s e s' I h => by
  obtain ⟨_, _, _, _, _, _, _, _, _, _, _, _, z⟩ := h
  exact z.elim
end
section
variable {P : Program} {w : World} {K : PySem.W.Frag} {mg : Str → Option Value} {base : Heap} {N : List Str} {qual : Str} {scope : Scope} {f : Addr} {cd : Value} {A : Around} {outer : List PySem.Env} {s : Shared} {H : Hp} {E : XK}
theorem pass_cx : ∀ σ, PassesAt (L2.CX P w) (cxOf (L2.CX P w) P w K mg base N qual scope f cd A outer s H E) σ fun cls d H' => E cls d H' := fun σ =>
  passAt (X := cxOf (L2.CX P w) P w K mg base N qual scope f cd A outer s H E) (W := fun cls d _ H' => E cls d H') (takes_of rfl rfl rfl rfl) σ
theorem own_cx : PassesOwn (model P w) (cxOf (L2.CX P w) P w K mg base N qual scope f cd A outer s H E).A (cxOf (L2.CX P w) P w K mg base N qual scope f cd A outer s H E).env (cxOf (L2.CX P w) P w K mg base N qual scope f cd A outer s H E).xe := passes_of rfl
theorem globInt {x : Str} {i : Int} (h : ∃ t, mg x = some (.int i t)) : GlobK K mg x (.int i) := by
  obtain ⟨t, h⟩ := h
  exact ⟨_, .int i, h, ⟨t, rfl⟩, fun F μ => .int i⟩
theorem globStr {x z : Str} (h : ∃ t, mg x = some (.str z t)) : GlobK K mg x (.str z) := by
  obtain ⟨t, h⟩ := h
  exact ⟨_, .str z, h, ⟨t, rfl⟩, fun F μ => .str z⟩
end
/-! ### == with texts of any kind -/
section
variable {X : Cx} {T : List (Addr × Str)}
def oEqS : Op2 := fun x y S => match x, y with
  | .str a, .str b => some (.ok (.bl (a == b)), S)
  | _, _ => none
def oNeS : Op2 := fun x y S => match x, y with
  | .str a, .str b => some (.ok (.bl (!(a == b))), S)
  | _, _ => none
theorem oEqS_ok : OpOk X T false rEq oEqS := by
  intro F μ S H x y v u Q er s rx ry h
  unfold oEqS at h
  split at h
  · cases rx; cases ry
    exact ⟨rfl, by rw [dec_str]; exact gp_val h s (.bl _)⟩
  · exact h.elim
theorem oNeS_ok : OpOk X T false rNe oNeS := by
  intro F μ S H x y v u Q er s rx ry h
  unfold oNeS at h
  split at h
  · cases rx; cases ry
    exact ⟨rfl, by rw [dec_str]; exact gp_val h s (.bl _)⟩
  · exact h.elim
def oEqA : Op2 := fun x y S => match oEqS x y S with
  | some r => some r
  | none => oEq x y S
def oNeA : Op2 := fun x y S => match oNeS x y S with
  | some r => some r
  | none => oNe x y S
theorem op_eqA (hu : X.A.units + 64 < cLine) : OpR X (compareOp .Eq) (fun x y H Q => rEq x y H Q ∨ rEqD X.K x y H Q) := op_eq.or (op_eqD hu)
theorem op_neA (hu : X.A.units + 64 < cLine) : OpR X (compareOp .NotEq) (fun x y H Q => rNe x y H Q ∨ rNeD X.K x y H Q) := op_ne.or (op_neD hu)
theorem oEqA_ok : OpOk X T false (fun x y H Q => rEq x y H Q ∨ rEqD X.K x y H Q) oEqA := OpOk.or oEqS_ok oEq_ok fun x y S => by
  unfold oEqA
  cases h : oEqS x y S with
  | none => exact .inr rfl
  | some r => exact .inl rfl
theorem oNeA_ok : OpOk X T false (fun x y H Q => rNe x y H Q ∨ rNeD X.K x y H Q) oNeA := OpOk.or oNeS_ok oNe_ok fun x y S => by
  unfold oNeA
  cases h : oNeS x y S with
  | none => exact .inr rfl
  | some r => exact .inl rfl
end
end PF
set_option Elab.async false
set_option linter.all false
set_option maxRecDepth 100000
set_option maxHeartbeats 4000000
/-! PFX: xs[::-1], range with a step. -/
namespace PF
open PySem L2 Evl PySem.Spec PyProof.Rows
section
variable {X : Cx} {T : List (Addr × Str)} {W : WX} {F H : Hp} {μ : List Addr} {K : PySem.W.Frag}
/-- xs[::-1] of a list -/
def cBack (a : EX) : EX := fun ρ S => bindO (a ρ S) fun x S => match asL x S with
  | some xs => some (.ok (.lst xs.reverse), S)
  | none => none
theorem re_back {e : Expr} {a : EX} {k : Nat} {p1 p2 p3 pos : Pos} (ha : RE T false X W e a) : RE T true X W (.Subscript e (.Slice none none (some (.UnaryOp .USub (.Constant (.int 1) k p1) p2)) p3) pos) (cBack a) := by
  obtain ⟨ta, pa, fa⟩ := ha
  refine ⟨_, pe_revL pa, fun σ ρ F μ S H Q s hE g => fa σ ρ F μ S H _ s hE (GP.seq g fun x F1 μ1 H1 S1 e1 p1 s1 g1 v rx => ?_)⟩
  split at g1
  · rename_i xs hq
    obtain ⟨a, vs, rfl, h1, h2⟩ := asL_ok s1 rx hq
    exact ⟨a, vs, rfl, h1, gp_lst g1 s1 h2.reverse⟩
  · exact g1.elim
/-- lo, lo + c, .. -/
def stepped (lo c : Int) : Nat → List D
  | 0 => []
  | n + 1 => .int lo :: stepped (lo + c) c n
theorem stepped_get : ∀ (n : Nat) (lo c : Int) (i : Nat), i < n → (stepped lo c n)[i]? = some (.int (lo + i * c))
  | n + 1, lo, c, 0, _ => by simp [stepped]
  | n + 1, lo, c, i + 1, h => by
    simp only [stepped, List.getElem?_cons_succ]
    rw [stepped_get n (lo + c) c i (by omega)]
    congr 2
    rw [Int.natCast_add, Int.add_mul]
    omega
theorem stepped_len : ∀ (n : Nat) (lo c : Int), (stepped lo c n).length = n
  | 0, _, _ => rfl
  | n + 1, lo, c => by simp [stepped, stepped_len n]
theorem walks_st {lo c : Int} {n : Nat} : Walks K T F μ (.items (stepped lo c n)) (Itc lo c n) := by
  intro F' μ' S H ds i e p s q
  cases q
  refine ⟨fun d hd => ?_, fun hl => by rw [stepped_len] at hl; exact hl⟩
  have hi : i < n := by
    have := (List.getElem?_eq_some_iff.mp hd).1
    rw [stepped_len] at this; exact this
  rw [stepped_get n lo c i hi] at hd
  cases hd
  refine ⟨hi, fun x H' y => ?_⟩
  obtain ⟨rfl, rfl⟩ := y
  exact ⟨F', Ex.refl _, s, .int _⟩
/-- range(i, j, -1) -/
def cRangeD (c : AX) : IX := fun ρ S => bindO (c ρ S) fun ds S => match ds with
  | [.int i, .int j, .int d] => if d = -1 ∧ (i < 1000000000 ∧ -1000000000 < i) ∧ (j < 1000000000 ∧ -1000000000 < j) then some (.ok (.items (stepped i (-1) (i - j).toNat)), S) else none
  | _ => none
theorem ri_rangeD {tg e1 e2 e3 : Expr} {ca : AX} {p pos : Pos} (ha : RA T X W [e1, e2, e3] ca) (hm : X.mg "range" = none) (hg : Gl X "range" := by rfl) (hs : starEach [e1, e2, e3] X.env = (false, eval e1 X.env) :: starEach [e2, e3] X.env := by rfl) (hpl : (backTo pos (starEach [e2, e3] X.env)).any (·.1) = false := by rfl) :
    RI T X W tg (.Call (.Name "range" p) [e1, e2, e3] [] pos) (cRangeD ca) := by
  obtain ⟨t, pa, f⟩ := ha
  refine ⟨_, pi_range3 hg hm pa hs hpl, fun σ ρ F μ S H R s hE g => f σ ρ F μ S H _ s hE (GP.seq g fun ds F1 μ1 H1 S1 e1 p1 s1 g1 vs rs => ?_)⟩
  split at g1
  · rename_i i j d
    split at g1
    · rename_i hn
      cases rs with
      | cons rv rs' =>
      obtain ⟨u, w, rfl, ru, rw'⟩ := rs'.inv2
      cases rv; cases ru; cases rw'
      obtain ⟨rfl, h1, h2⟩ := hn
      exact ⟨i, j, -1, (i - j).toNat, rfl, RgC.neg (by omega) (by omega) (by omega) (by omega), GP.here g1 s1 _ walks_st⟩
    · exact g1.elim
  · exact g1.elim
/-! list(range(n)), list(range(m, n)) -/
theorem reps_of_get : ∀ {ds : List D} {vs : List V}, ds.length = vs.length → (∀ (i : Nat) (d : D) (v : V), ds[i]? = some d → vs[i]? = some v → Rep K F μ d v) → Reps K F μ ds vs
  | [], [], _, _ => .nil
  | [], _ :: _, h, _ => by cases h
  | _ :: _, [], h, _ => by cases h
  | d :: ds, v :: vs, h, f => .cons (f 0 d v rfl rfl) (reps_of_get (by simpa using h) fun i d v h1 h2 => f (i + 1) d v (by simpa using h1) (by simpa using h2))
theorem reps_rg {a b : Int} : Reps K F μ (ranged a (b - a).toNat) (rgV a b) := by
  refine reps_of_get (by rw [ranged_len, rgV_length]) fun i d v h1 h2 => ?_
  have hi : i < (b - a).toNat := by
    have := (List.getElem?_eq_some_iff.mp h1).1
    rw [ranged_len] at this; exact this
  rw [ranged_get _ _ _ hi] at h1
  unfold rgV at h2
  rw [List.getElem?_map, List.getElem?_range hi] at h2
  cases h1; cases h2
  exact .int _
def cListR1 (c : EX) : EX := fun ρ S => bindO (c ρ S) fun d S => match d with
  | .int n => if n ≤ 1000000 ∧ -1000000000 < n then some (.ok (.lst (ranged 0 n.toNat)), S) else none
  | _ => none
def cListR2 (a b : EX) : EX := fun ρ S => bindO (a ρ S) fun x S => bindO (b ρ S) fun y S => match x, y with
  | .int m, .int n => if (n ≤ 1000000 ∧ -1000000000 < n) ∧ (0 ≤ m ∧ m ≤ 1000000) then some (.ok (.lst (ranged m (n - m).toNat)), S) else none
  | _, _ => none
theorem re_listR1 {e : Expr} {c : EX} {p p2 pos pos2 : Pos} (ha : RE T false X W e c) (hc : X.calm = true) (hml : X.mg "list" = none) (hmr : X.mg "range" = none) (hg : Gl X "list" := by rfl) (hgr : Gl X "range" := by rfl) (na : starEach [e] X.env = (false, eval e X.env) :: starEach [] X.env := by rfl)
    (nb : starEach [.Call (.Name "range" p2) [e] [] pos2] X.env = (false, eval (.Call (.Name "range" p2) [e] [] pos2) X.env) :: starEach [] X.env := by rfl) :
    RE T true X W (.Call (.Name "list" p) [.Call (.Name "range" p2) [e] [] pos2] [] pos) (cListR1 c) := by
  obtain ⟨t, pa, f⟩ := ha
  refine ⟨_, pe_listRg hc hg hml (prg_1 hgr hmr pa na) nb, fun σ ρ F μ S H Q s hE g => f σ ρ F μ S H _ s hE (GP.seq g fun d F1 μ1 H1 S1 e1 p1 s1 g1 v rv => ?_)⟩
  split at g1
  · rename_i n
    split at g1
    · rename_i hn
      cases rv
      refine ⟨n, rfl, ⟨by omega, by omega, by omega, by omega, by omega⟩, gp_lst g1 s1 ?_⟩
      have := reps_rg (K := X.K) (F := F1) (μ := μ1) (a := 0) (b := n)
      rw [Int.sub_zero] at this
      exact this
    · exact g1.elim
  · exact g1.elim
end
end PF
set_option Elab.async false
set_option linter.all false
set_option maxRecDepth 100000
set_option maxHeartbeats 4000000
/-! PFE: enumerate of a tuple. -/
namespace PF
open PySem L2 Evl PySem.Spec PyProof.Rows
abbrev tupIt (t : Addr) : Obj := { cls := .type "tuple_iterator", data := .fields #[.ref t, .int 0 0] }
abbrev enuOf (a : Addr) : Obj := { cls := .type "enumerate", data := .fields #[.none, .bool false, .ref a, rawInt 0, .none, .none] }
theorem meets_enumT (t : Addr) (items : Array Value) :
    Meets (Builtin.«enumerate.__new__» ⟨[.type "enumerate", .ref t], []⟩) (fun _ R s => s.heap.IsTuple t items ∧ R (.ok (.ret (.ref (s.heap.push (tupIt t)).objs.size))) { s with heap := (s.heap.push (tupIt t)).push (enuOf s.heap.objs.size) }) :=
  .of_wp fun pr wo ar re st hh => by
    obtain ⟨hp, gg, dd, tk, oo⟩ := st; obtain ⟨hl, hk⟩ := hh
    have enumSub := sub_enumerate
    have it1 : ∀ {ar' : Around} {E : Value → Shared → Prop} {Q : Value → Shared → Prop}, Q (.ref hp.objs.size) ⟨hp.push (tupIt t), gg, dd, tk, oo⟩ → wpAny (model pr wo) ar' (pyIter (.ref t)) Q E ⟨hp, gg, dd, tk, oo⟩ :=
      fun q => wpAny_pyIter_tuple (s := ⟨hp, gg, dd, tk, oo⟩) hl q
    obtain ⟨⟨c, dct, dt, sl⟩, hl1, hc1, n1, hd1⟩ := id hl
    have hc1 : c = .type "tuple" := hc1
    have hd1 : dt = .seq items n1 := hd1
    subst hc1 hd1
    wp_walk using AutoSeq1.wpAny_loadPart' hl1, it1
    refine wpAny_stack_any fun stk => wpAny_pure ?_
    split
    · rename_i c _ _ _ _ _
      cases (c == Value.type "enumerate")
      · wp_walk using AutoSeq1.wpAny_loadPart' hl1, it1
        exact ⟨_, rfl, hk⟩
      · wp_walk using AutoSeq1.wpAny_loadPart' hl1, it1
        exact ⟨_, rfl, hk⟩
    · wp_walk using AutoSeq1.wpAny_loadPart' hl1, it1
      exact ⟨_, rfl, hk⟩
theorem call_enumT {prog : Program} {w : World} {A : Around} {E : Value → Shared → Prop} {s : Shared} {t : Addr} {items : Array Value} {Q : Value → Shared → Prop} (ht : s.heap.IsTuple t items)
    (h : ∀ h', IsEnum h' (s.heap.objs.size + 1) s.heap.objs.size 0 .none → h'.IsTupleIter s.heap.objs.size t 0 → h'.objs.size = s.heap.objs.size + 2 → (∀ b o, s.heap.get? b = some o → h'.get? b = some o) → Q (.ref (s.heap.objs.size + 1)) { s with heap := h' }) :
    wpAny (model prog w) A (call (.type "enumerate") [.ref t]) Q E s := by
  refine callType_new F.called_enumerate (by decide) (F.typeCall_enumerate_1 _) (F.newCall_enumerate_1 _) (fun ob => F.args_object_init_2 ob _) F.entry_enumerate_new (meets_enumT t items) ⟨ht, ?_⟩
  have size1 : (s.heap.push (tupIt t)).objs.size = s.heap.objs.size + 1 := Heap.size_push ..
  show _ ∧ _
  rw [size1]
  have isE : IsEnum ((s.heap.push (tupIt t)).push (enuOf s.heap.objs.size)) (s.heap.objs.size + 1) s.heap.objs.size 0 .none := by
    have e := Heap.get?_push_size (s.heap.push (tupIt t)) (o := enuOf s.heap.objs.size) rfl
    rw [size1] at e; exact e
  exact ⟨⟨_, isE, rfl⟩, h _ isE ⟨_, Heap.get?_push_of_some _ (Heap.get?_push_size _ rfl), rfl, rfl⟩ (by rw [Heap.size_push, size1]) fun b o x => Heap.get?_push_of_some _ (Heap.get?_push_of_some _ x)⟩
/-- an enumeration of a tuple that is through -/
theorem next_endT {prog : Program} {w : World} {A : Around} {E : Value → Shared → Prop} {s : Shared} {e it a : Addr} {i : Nat} {items : Array Value} {old : Value} {k : Int} {Q : Option Value → Shared → Prop} (hh : A.handled = none)
    (isE : IsEnum s.heap e it k old) (isI : s.heap.IsTupleIter it a i) (isT : s.heap.IsTuple a items) (no : items[i]? = none) (q : ∀ h', Heap.ExtBut it s.heap h' → Q none { s with heap := h' }) : wpAny (model prog w) A (pyNext (.ref e)) Q E s := by
  have ty : s.TypeIs (.ref e) "enumerate" := ⟨_, isE, rfl⟩
  unfold pyNext
  refine wpAny_bind (wpAny_attempt (wpAny_callSpecial?_slot (name := Str.ofString "__next__") ty F.slot_enumerate_next (wpAny_call_entry F.slot_enumerate_next ty F.entry_enumerate_next ?_ (F.args_enumerate_next_1 _))))
  show wpAny _ _ (field (.ref e) 2 >>= _) _ _ s
  refine wpAny_bind (wpAny_field isE rfl (x := .ref it) rfl (wpAny_bind (wpAny_nextOf_tuple_end (show A.in1.handled = none from hh) isI isT no fun h' x ext stop => ?_)))
  obtain ⟨so, hso, cso⟩ := stop
  exact wpAny_bind (wpAny_isInstance (T := "StopIteration") (b := true) ⟨so, hso, cso⟩ isSubtype_stop (wpAny_pure (q _ ext)))
/-- the tuple at a, each item in a new pair with its place -/
def IteT (K : PySem.W.Frag) (a : Addr) : It :=
  ⟨fun i H => ∃ (xs : List V) (x : V), SqT K H a xs ∧ xs[i]? = some x, fun i H v H' => ∃ (A : Addr) (x : V), v = .ref A ∧ H A = none ∧ H' = upd H A (.tup [.int (i : Nat), x]) ∧ ∀ xs, SqT K H a xs → xs[i]? = some x, fun i H => ∃ xs : List V, SqT K H a xs ∧ xs.length ≤ i⟩
theorem turn_enumT {P : Program} {w : World} {K : PySem.W.Frag} {elts : List Expr} {kk : Nat} {tpos : Pos} (a e it : Addr) :
    Turn P w K (.Tuple elts kk tpos) (IteT K a) [e, it] e (fun i h => (∃ old, IsEnum h e it ((i : Nat) : Int) old) ∧ h.IsTupleIter it a i ∧ e ≠ it) where
  mem := List.mem_cons_self ..
  obj := fun i h st b hb => by
    obtain ⟨⟨old, he⟩, ⟨oo, ho, _, hd⟩, _⟩ := st
    rcases List.mem_cons.mp hb with rfl | hb
    · exact ⟨_, he, fun v q => nomatch q⟩
    · rw [List.mem_singleton] at hb
      subst hb
      exact ⟨oo, ho, fun v q => by rw [hd] at q; cases q⟩
  keep := fun i h h' st k => let ⟨⟨old, he⟩, hi, hne⟩ := st; ⟨⟨old, k e (by simp) _ he⟩, hi.at fun o q => k it (by simp) o q, hne⟩
  item := by
    intro X hP hw hK hc i pins s σ H E I hf st hg
    subst hP hw hK
    obtain ⟨⟨old, isE⟩, isI, apart⟩ := st
    obtain ⟨xs, x, hq, hx⟩ := hg
    obtain ⟨its, rv, p, hz⟩ := I.tuple hq
    obtain ⟨u, hu, ru⟩ := rv.get hx
    have eLt : e < s.heap.objs.size := Heap.lt_size isE
    have iLt : it < s.heap.objs.size := by obtain ⟨_, q, _⟩ := isI; exact Heap.lt_size q
    have aIt : a ≠ it := fun z => by
      obtain ⟨o1, q1, c1, _⟩ := isI
      obtain ⟨o2, q2, c2, _⟩ := p
      rw [z, q1] at q2
      cases q2
      rw [c1] at c2
      exact absurd (Value.type.inj c2) (by decide)
    have aE : a ≠ e := fun z => by
      obtain ⟨o2, q2, c2, _⟩ := p
      rw [z, isE] at q2
      cases q2
      exact absurd (Value.type.inj c2) (by decide)
    have size : i < its.toArray.size := by
      have := (List.getElem?_eq_some_iff.mp hu).1
      simpa using this
    refine wpAny_pyNext_enum_itemD (Draws.tuple (A := X.A.in1) (show X.A.in1.handled = none from I.ok.hd hc) it a aIt its.toArray) isE ⟨isI, p⟩ size apart (by simp only [List.mem_cons, List.not_mem_nil, or_false, not_or]; exact ⟨apart, fun z => aE z.symm⟩) fun y h' tk hy ho st' hT hsz hk => ?_
    have hyu : y = u := by
      have hy : its.toArray[i]? = some y := hy
      have hu2 : its.toArray[i]? = some u := by simpa using hu
      rw [hu2] at hy
      exact (Option.some.inj hy).symm
    subst hyu
    refine ⟨_, rfl, wpAny_letOwnedTupleGo_enum (s := { s with heap := h', toks := tk + 1 }) ho fun h2 he2 sb => ?_⟩
    have newT : h2.get? s.heap.objs.size = some { cls := .type "tuple", data := .seq #[.int i tk, y] } := (sb.2 _ (Nat.ne_of_gt eLt)).trans hT
    have newOk : ObjOk X.prog X.w (upd H s.heap.objs.size (.tup [.int (i : Nat), x])) h2 s.heap.objs.size (.tup [.int (i : Nat), x]) :=
      ⟨by show 2 ≤ sizeLine; decide, [.int i tk, y], .cons ⟨_, rfl⟩ (.cons ru .nil), ⟨_, newT, rfl, _, rfl⟩⟩
    have J : Inv X pins σ (upd H s.heap.objs.size (.tup [.int (i : Nat), x])) { s with heap := h2, toks := tk + 1 } :=
      I.turnedNew (ch := [e, it]) (fun b ob hb q => (sb.2 b (fun z => hb (by simp [z]))).trans (hk b ob (fun z => hb (by simp [z])) (fun z => hb (by simp [z])) q)) hf (Nat.le_refl _) newOk
    refine ⟨.ref s.heap.objs.size, _, J, rfl, ⟨_, x, rfl, I.hok.fresh (Nat.le_refl _), rfl, fun ys hys => by rw [I.tuple_inj hys hq]; exact hx⟩, ⟨⟨y, ?_⟩, st'.1.at fun o q => (sb.2 it (Ne.symm apart)).trans q, apart⟩, fun b hb => ?_⟩
    · rw [show ((i + 1 : Nat) : Int) = (i : Int) + 1 by omega]; exact he2
    · have bLt : b < s.heap.objs.size := by
        rcases List.mem_cons.mp hb with rfl | hb
        · exact eLt
        · rw [List.mem_singleton] at hb; subst hb; exact iLt
      rw [upd_ne (Nat.ne_of_lt bLt)]
      exact (hf b hb).1
  done := by
    intro X hP hw hK hc i pins s σ H E I hf st hg
    subst hP hw hK
    obtain ⟨⟨old, isE⟩, isI, apart⟩ := st
    obtain ⟨xs, hq, hx⟩ := hg
    obtain ⟨its, rv, p, hz⟩ := I.tuple hq
    obtain ⟨f0, f1, f2, f3, f4, f5⟩ := hf it (by simp)
    have hl := rv.length
    exact next_endT (I.ok.hd hc) isE isI p (by simp; omega) fun h' eb => ⟨rfl, I.turned (t' := s.toks) (fun b o hb q => eb b o hb q) f0 f1 f3 f4 f5⟩
  self := fun A i s Q E st h => let ⟨⟨_, he⟩, _⟩ := st; wpAny_pyIter_enum he h
/-- enumerate of a list or a tuple -/
def iEnumA (K : PySem.W.Frag) (ta : TA) : TI := fun σ H R => ta σ H fun vs H1 => ∃ a, vs = [.ref a] ∧ ((∃ xs, SqL K H1 a xs ∧ R (Ite K a) H1) ∨ (∃ xs, SqT K H1 a xs ∧ R (IteT K a) H1))
theorem pi_enumA {X : Cx} {e : Expr} {ta : TA} {p pos tpos : Pos} {elts : List Expr} {kk : Nat} (hg : Gl X "enumerate") (hm : X.mg "enumerate" = none) (ha : PA X [e] ta) (hs : starEach [e] X.env = [(false, eval e X.env)] := by rfl) :
    PI X (.Tuple elts kk tpos) (.Call (.Name "enumerate" p) [e] [] pos) (iEnumA X.K ta) := by
  refine ⟨fun pins s σ H R I h => Call_ (ld_blt I hg hm boot_enumerate (PyProof.Rows.callWith_type1 (thn (ha.run pos pins s σ H _ I h) fun us s1 ⟨vs, H1, I1, r1, q1⟩ => ?_) hs rfl))⟩
  obtain ⟨a, rfl, q1⟩ := q1
  cases r1 with
  | cons r rr =>
    cases rr
    cases r
    have away : ∀ b : Addr, b ∈ [s1.heap.objs.size + 1, s1.heap.objs.size] → s1.heap.objs.size ≤ b := fun b hb => by
      rcases List.mem_cons.mp hb with rfl | hb
      · exact Nat.le_succ _
      · rw [List.mem_singleton] at hb; subst hb; exact Nat.le_refl _
    rcases q1 with ⟨xs, hq, q⟩ | ⟨xs, hq, q⟩
    · obtain ⟨its, rv, pl, _⟩ := I1.list hq
      refine call_enumerate_list pl.isList fun h' isE isI hsz hk => wpAny_pyIter_enum isE ?_
      have J : Inv X pins σ H1 { s1 with heap := h' } := I1.kept (t' := s1.toks) hk
      exact ⟨s1.heap.objs.size + 1, [s1.heap.objs.size + 1, s1.heap.objs.size], _, _, H1, rfl, J, turn_enum a (s1.heap.objs.size + 1) s1.heap.objs.size, ⟨⟨.none, isE⟩, isI, Nat.succ_ne_self _⟩, fun b hb => I1.fpOk (away b hb) (I1.hok.fresh (away b hb)), q⟩
    · obtain ⟨its, rv, pl, _⟩ := I1.tuple hq
      refine call_enumT pl fun h' isE isI hsz hk => wpAny_pyIter_enum isE ?_
      have J : Inv X pins σ H1 { s1 with heap := h' } := I1.kept (t' := s1.toks) hk
      exact ⟨s1.heap.objs.size + 1, [s1.heap.objs.size + 1, s1.heap.objs.size], _, _, H1, rfl, J, turn_enumT a (s1.heap.objs.size + 1) s1.heap.objs.size, ⟨⟨.none, isE⟩, isI, Nat.succ_ne_self _⟩, fun b hb => I1.fpOk (away b hb) (I1.hok.fresh (away b hb)), q⟩
section
variable {X : Cx} {T : List (Addr × Str)} {W : WX} {K : PySem.W.Frag} {F : Hp} {μ : List Addr} {src : Src} {a : Addr}
theorem walks_eT (h : StandT K T F μ src a) : PF.Walks K T F μ (.enum src) (IteT K a) := by
  intro F' μ' S H ds i e p s q
  simp only [srcAt, Option.map_eq_some_iff] at q
  obtain ⟨es, q, rfl⟩ := q
  obtain ⟨vs, h1, h2⟩ := h F' μ' S H es e p s q
  refine ⟨fun d hd => ?_, fun hl => ⟨vs, h1, by rw [← h2.length]; rw [numb_len] at hl; exact hl⟩⟩
  rw [numb_get, Option.map_eq_some_iff] at hd
  obtain ⟨d', hd, rfl⟩ := hd
  obtain ⟨v, k1, k2⟩ := h2.get hd
  refine ⟨⟨vs, v, h1, k1⟩, fun x H' y => ?_⟩
  obtain ⟨A, w, rfl, hA, rfl, y⟩ := y
  have := (y vs h1).symm.trans k1
  cases this
  have hF := fresh_back s.ex hA
  rw [Nat.zero_add]
  exact ⟨upd F' A (.tup [.int (i : Nat), _]), Ex.new hF, s.new hA, .tup (st_of upd_same) (.cons (.int _) (.cons (k2.mono (Ex.new hF) (List.prefix_refl _)) .nil))⟩
def cEnumA (c : AX) : IX := fun ρ S => bindO (c ρ S) fun ds S => match ds with
  | [d] => (match srcOf d with
    | some src => some (.ok (.enum src), S)
    | none => none)
  | _ => none
theorem ri_enumA {e : Expr} {ca : AX} {p pos : Pos} {elts : List Expr} {kk : Nat} {tpos : Pos} (ha : RA T X W [e] ca) (hm : X.mg "enumerate" = none) (hg : Gl X "enumerate" := by rfl) (hs : starEach [e] X.env = [(false, eval e X.env)] := by rfl) : RI T X W (.Tuple elts kk tpos) (.Call (.Name "enumerate" p) [e] [] pos) (cEnumA ca) := by
  obtain ⟨t, pa, f⟩ := ha
  refine ⟨_, pi_enumA hg hm pa hs, fun σ ρ F μ S H R s hE g => f σ ρ F μ S H _ s hE (GP.seq g fun ds F1 μ1 H1 S1 e1 p1 s1 g1 vs rs => ?_)⟩
  split at g1
  · rename_i d
    split at g1
    · rename_i src hsrc
      obtain ⟨v, rfl, rv⟩ := rs.inv1
      cases hl : isL d with
      | true =>
        obtain ⟨a, rfl, ⟨ws, h1⟩, h2⟩ := stand_l s1 rv hsrc hl
        exact ⟨a, rfl, .inl ⟨ws, h1, GP.here g1 s1 _ (walks_e h2)⟩⟩
      | false =>
        obtain ⟨a, rfl, ⟨ws, h1⟩, h2⟩ := stand_t s1 rv hsrc hl
        exact ⟨a, rfl, .inr ⟨ws, h1, GP.here g1 s1 _ (walks_eT h2)⟩⟩
    · exact g1.elim
  · exact g1.elim
end
end PF
set_option Elab.async false
set_option linter.all false
set_option maxRecDepth 100000
set_option maxHeartbeats 4000000
/-! PFT: sorted of a tuple of numbers. -/
namespace PF
open PySem L2 Evl PySem.Spec PyProof.Rows
section
variable {pr : Program} {wo : World} {ar : Around} {ex : Value → Shared → Prop} {st : Shared}
theorem tup_collect {p : Addr} {ws : List Value} {R : List Value → Shared → Prop} (tp : st.heap.IsTuple p ws.toArray) (len : ws.length ≤ sizeLine)
    (go : R ws { st with heap := (st.heap.push (seqObj "list" #[] 0)).update st.heap.objs.size (Obj.mapSeq (· ++ ws.toArray)) }) : wpAny (model pr wo) ar (collect (.ref p)) R ex st := by
  obtain ⟨ob, hob, hcl, nn, hdt⟩ := id tp
  have kept : (st.heap.push (seqObj "list" #[] 0)).get? p = some ob := Heap.get?_push_of_some _ hob
  have mine : (st.heap.push (seqObj "list" #[] 0)).get? st.heap.objs.size = some (seqObj "list" #[] 0) := Heap.get?_push_size _ rfl
  have is2 : (Value.type "tuple" == Value.type "tuple") = true := by rfl
  have joined : ((#[] : Array Value) ++ ws.toArray).toList = ws := by simp
  have short : (#[] ++ ws.toArray : Array Value).size ≤ sizeLine + 1 := by
    rw [Array.size_append, List.size_toArray]
    show 0 + ws.length ≤ _
    omega
  (unfold collect)
  refine wpAny_bind (wpAny_runValue (codeAny_builtin entry_proto_collect' (?_ : wpAny _ _ (do again (.builtin "list.__iadd__" ⟨[← newList [], .ref p], []⟩)) _ _ st)))
  refine wpAny_bind (wpAny_newList (wpAny_pure ⟨Code.quiet_builtin _ (by decide +kernel), codeAny_builtin entry_list_iadd' (?_ : wpAny _ _ (Builtin.List.listExtendWith (.ref st.heap.objs.size) (.ref p) (.ref st.heap.objs.size)) _ _ { st with heap := st.heap.push (seqObj "list" #[] 0) })⟩))
  (unfold Builtin.List.listExtendWith)
  refine wpAny_bind (wpAny_typeOf (T := "tuple") ⟨ob, kept, hcl⟩ ?_)
  rw [if_pos (by rw [is2, Bool.or_true])]
  refine wpAny_bind (listItems_at kept hdt (wpAny_bind (listItems_at (xs := #[]) (n := 0) mine rfl ?_)))
  rw [if_neg (by simp)]
  refine wpAny_bind (listUpdate_at (xs := #[]) (n := 0) mine rfl (wpAny_pure ?_) (Nat.zero_le _) short)
  refine wpAny_bind (m := load st.heap.objs.size) (wpAny_load (get?_update_seq mine _) ?_)
  show wpAny _ _ (pure (#[] ++ ws.toArray : Array Value).toList) R ex _
  rw [joined]
  exact wpAny_pure go
/-- as sorted_ord, of a tuple -/
theorem tup_sorted {p : Addr} {ws : List Value} {lt : Value → Value → Bool} {R : Value → Shared → Prop} (sw : SrtO.Swo lt) (tp : st.heap.IsTuple p ws.toArray) (len : ws.length ≤ sizeLine)
    (able : 2 ≤ ws.length → ∀ (hp : Heap) (b : Addr), hp.get? b = some (seqObj "list" ws.toArray 0) → (∀ c q, st.heap.get? c = some q → c ≠ b ∧ hp.get? c = some q) → SrtO.SortableO pr wo ar.in1.in1 { st with heap := hp } b ws lt)
    (go : ∀ zs : List Value, SrtO.Srtd lt zs → SrtO.Stb lt zs ws → R (.ref (st.heap.objs.size + 1)) { st with heap := sortedAll st.heap ws zs.toArray }) : wpAny (model pr wo) ar (call (.builtin "sorted") [.ref p]) R ex st := by
  generalize hq : ((st.heap.push (seqObj "list" #[] 0)).update st.heap.objs.size (Obj.mapSeq (· ++ ws.toArray))) = mid
  have sz : mid.objs.size = st.heap.objs.size + 1 := by rw [← hq, Heap.size_update, size_push']
  have made : (mid.push (seqObj "list" ws.toArray 0)).get? (st.heap.objs.size + 1) = some (seqObj "list" ws.toArray 0) := by rw [← sz]; exact Heap.get?_push_size _ rfl
  have old : ∀ c q, st.heap.get? c = some q → c ≠ st.heap.objs.size + 1 ∧ (mid.push (seqObj "list" ws.toArray 0)).get? c = some q := fun c q h => by
    have below := Heap.lt_size h
    refine ⟨Nat.ne_of_lt (Nat.lt_succ_of_lt below), Heap.get?_push_of_some _ ?_⟩
    rw [← hq, Heap.get?_update_ne _ _ _ _ (Nat.ne_of_lt below)]
    exact Heap.get?_push_of_some _ h
  refine Calls.call_function_entry kind_sorted plain_sorted entry_sorted (args_sorted1 _) ?_
  (unfold Builtin.«sorted»)
  refine wpAny_bind (m := checkCount "sorted" 1 1 _) (wpAny_pure (wpAny_bind (tup_collect tp len (wpAny_bind (wpAny_newList ?_ len)))))
  rw [hq]
  show wpAny _ _ _ _ _ { st with heap := mid.push (seqObj "list" ws.toArray 0) }
  have go2 : ∀ zs : List Value, SrtO.Srtd lt zs → SrtO.Stb lt zs ws → R (.ref (st.heap.objs.size + 1)) { st with heap := sortedHeap (mid.push (seqObj "list" ws.toArray 0)) (st.heap.objs.size + 1) ws zs.toArray } := fun zs h1 h2 => by
    have := go zs h1 h2
    unfold sortedAll at this
    rw [hq] at this
    exact this
  rw [sz]
  exact wpAny_bind (wpAny_holding (wpAny_call_entry slot_list_sort ⟨_, made, rfl⟩ entry_list_sort (SrtO.list_sort_ord sw made len (fun h2 => able h2 _ _ made old) fun zs h1 h2 => ⟨_, rfl, wpAny_pure ⟨_, rfl, go2 zs h1 h2⟩⟩) (args_list_sort _)))
end
section
variable {X : Cx} {T : List (Addr × Str)}
def rSortedTI (K : PySem.W.Frag) : List V → Hp → VK → Prop := fun xs H Q => ∃ (b : Addr) (is : List Int), xs = [V.ref b] ∧ SqT K H b (is.map V.int) ∧
  ∀ (js : List Int) (c : Addr), js.Perm is → js.Pairwise (· ≤ ·) → H c = none → Q (.ref c) (upd H c (.lst (js.map V.int)))
theorem cr_sortedTI : CallR X (.builtin "sorted") (rSortedTI X.K) := by
  intro pn sh σ H xs us Q I rel h
  obtain ⟨b, is, rfl, ht, q⟩ := h
  obtain ⟨its, rv, tp, hz⟩ := I.tuple ht
  rw [Vals.ref1 rel]
  have hI := rv.ints
  have len2 : its.length ≤ sizeLine := by rw [← rv.length]; exact hz
  refine tup_sorted SrtO.swo_int tp len2 (fun h2 _ _ _ _ => SrtO.ints_sortable hI h2) fun zs h1 h2 => ?_
  obtain ⟨i1, i2, i3⟩ := SrtO.ints_out hI h1 h2
  obtain ⟨ep, hep⟩ := PyProof.Rows.sortedAll_at sh.heap its zs.toArray
  have lenz : ((zs.map SrtO.iv).map V.int).length ≤ sizeLine := by
    rw [List.length_map, i2.length_eq]
    rw [List.length_map] at hz
    exact hz
  have J := I.laid (t' := sh.toks) (fun _ _ => PyProof.Rows.sortedAll_old) (Nat.le_succ _) (show ObjOk X.prog X.w _ _ _ (.lst ((zs.map SrtO.iv).map V.int)) from ⟨lenz, zs, ep, vals_of_ints i1, hep⟩)
  exact ⟨.ref _, _, J, rfl, q _ _ i2 i3 (I.hok.fresh (Nat.le_succ _))⟩
def bSortedTI : OpB := fun ds S => match ds with
  | [.tup xs] => (match intsOf xs with
    | some ns => some (.ok (.lst ((sortI ns).map D.int)), S)
    | none => none)
  | _ => none
theorem bSortedTI_ok : BltOk X T true (rSortedTI X.K) bSortedTI := by
  intro F μ S H ds vs Q er s rs h
  unfold bSortedTI at h
  split at h
  · rename_i xs
    split at h
    · rename_i ns hn
      obtain ⟨v, rfl, r⟩ := rs.inv1
      obtain ⟨b, ws, rfl, h1, h2⟩ := asT_ok s r (ds := xs) rfl
      rw [ints_rep h2 hn] at h1
      refine ⟨b, ns, rfl, h1, fun js c k1 k2 hc => ?_⟩
      have e : js = sortI ns := sorted_unique (k1.trans (sortI_perm ns).symm) k2 (sortI_sorted ns)
      subst e
      exact gp_lst h s (reps_ints _) c hc
    · exact h.elim
  · exact h.elim
/-- of a list or a tuple -/
def bSortedA : OpB := fun ds S => match bSortedTI ds S with
  | some r => some r
  | none => bSorted ds S
theorem BltOk.or {fr : Bool} {r r' : List V → Hp → VK → Prop} {o o' : OpB} (h : BltOk X T fr r o) (h' : BltOk X T fr r' o') : BltOk X T fr (fun xs H Q => r xs H Q ∨ r' xs H Q) (fun ds S => match o ds S with
  | some r => some r
  | none => o' ds S) := by
  intro F μ S H ds vs Q er s rs g
  cases e : o ds S with
  | none =>
    simp only [e] at g
    exact .inr (h' F μ S H ds vs Q er s rs g)
  | some z =>
    simp only [e] at g
    exact .inl (h F μ S H ds vs Q er s rs (by rw [e]; exact g))
theorem cr_sortedA : CallR X (.builtin "sorted") (fun xs H Q => rSortedTI X.K xs H Q ∨ rSortedI X.K xs H Q) := cr_sortedTI.or cr_sortedI
theorem bSortedA_ok : BltOk X T true (fun xs H Q => rSortedTI X.K xs H Q ∨ rSortedI X.K xs H Q) bSortedA := bSortedTI_ok.or bSorted_ok
end
end PF
set_option Elab.async false
set_option linter.all false
set_option maxRecDepth 100000
set_option maxHeartbeats 4000000
/-! PFM: a tuple so many times, none and once too. -/
namespace PF
open PySem L2 Evl PySem.Spec PyProof.Rows
theorem tuple_mulOne (p : Addr) (xs : Array Value) (c : Nat) (di : Option Addr) (so : Array (Option Value)) (tk : Tok) :
    Meets (Builtin.«tuple.__mul__» ⟨[.ref p, .int 1 tk], []⟩) (fun _ R s => s.heap.get? p = some { cls := .type "tuple", dict := di, data := .seq xs c, slots := so } ∧ R (.ok (.ret (Value.ref p))) s) :=
  .of_wp fun pr wo ar re st hh => by
    obtain ⟨hp, gg, dd, tt, oo⟩ := st
    obtain ⟨at_, hk⟩ := hh
    have idx := AutoSeq1.idx_int
    have one : (xs.isEmpty || ((1 : Int) == 1)) = true := by simp
    have small : (decide ((1 : Int) < -(2 ^ 63)) || decide ((1 : Int) ≥ 2 ^ 63)) = false := by decide
    wp_walk using wpAny_loadPart' at_
    repeat (first
      | (refine wpAny_ite_false (decide_eq_false (by rw [small]; exact Bool.false_ne_true)) ?_; wp_walk using wpAny_loadPart' at_)
      | (refine wpAny_ite_true (decide_eq_true one) ?_; wp_walk using wpAny_loadPart' at_))
    exact ⟨_, rfl, hk⟩
theorem tuple_mulNone (p : Addr) (xs : Array Value) (c : Nat) (di : Option Addr) (so : Array (Option Value)) (k : Int) (tk : Tok) (small : (decide (k < -(2 ^ 63)) || decide (k ≥ 2 ^ 63)) = false) (more : (xs.isEmpty || k == 1) = false) (none_ : (decide (k ≤ 0) || xs.isEmpty) = true) :
    Meets (Builtin.«tuple.__mul__» ⟨[.ref p, .int k tk], []⟩) (fun _ R s => s.heap.get? p = some { cls := .type "tuple", dict := di, data := .seq xs c, slots := so } ∧
      R (.ok (.ret (Value.ref s.heap.objs.size))) { s with heap := s.heap.push { cls := Value.type "tuple", data := Data.seq #[] }, toks := s.toks }) :=
  .of_wp fun pr wo ar re st hh => by
    obtain ⟨hp, gg, dd, tt, oo⟩ := st
    obtain ⟨at_, hk⟩ := hh
    have idx := AutoSeq1.idx_int
    wp_walk using wpAny_loadPart' at_
    repeat (first
      | (refine wpAny_ite_false (decide_eq_false (by rw [small]; exact Bool.false_ne_true)) ?_; wp_walk using wpAny_loadPart' at_)
      | (refine wpAny_ite_false (decide_eq_false (by rw [more]; exact Bool.false_ne_true)) ?_; wp_walk using wpAny_loadPart' at_)
      | (refine wpAny_ite_true (decide_eq_true none_) ?_; wp_walk using wpAny_loadPart' at_))
    exact ⟨_, rfl, hk⟩
section
variable {X : Cx} {T : List (Addr × Str)}
def rRepO (K : PySem.W.Frag) : R2 := fun x y H Q => ∃ b ws, x = .ref b ∧ y = .int 1 ∧ SqT K H b ws ∧ Q (.ref b) H
def rRepN (K : PySem.W.Frag) : R2 := fun x y H Q => ∃ b k ws, x = .ref b ∧ y = .int k ∧ SqT K H b ws ∧ ws ≠ [] ∧ -1000 ≤ k ∧ k ≤ 0 ∧ ∀ p, H p = none → Q (.ref p) (upd H p (.tup []))
theorem op_repO : OpR X (binaryOp .Mult) (rRepO X.K) := by
  intro pn sh σ H x y v u Q I rel rel2 hh
  obtain ⟨b, ws, rfl, rfl, sq, q⟩ := hh
  cases rel
  obtain ⟨tk, rfl⟩ := rel2
  obtain ⟨its, rv, ⟨⟨oc, od, dt, osl⟩, hob, hcl, c, hdt⟩, hz⟩ := I.tuple sq
  simp only at hcl hdt
  subst hcl hdt
  exact wpAny_binaryOp_repeat_ref (T := "tuple") (U := "int") (by decide) ⟨_, hob, rfl⟩ (fun s' => typeIs_int s' 1 tk) noFill_tuple_mul F.fills_int_mul F.slot_int_rmul repeat_tuple F.slot_int_index.lookup
    (call_meets F.slot_int_rmul (typeIs_int sh 1 tk) F.entry_int_rmul (F.args_int_rmul_2 _ _) (int_rmul_tuple 1 tk b its.toArray c od osl)
      ⟨hob, rfl, ⟨_, hob, rfl⟩, call_meets F.slot_tuple_mul ⟨_, hob, rfl⟩ F.entry_tuple_mul (F.args_tuple_mul_2 _ _) (tuple_mulOne b its.toArray c od osl tk) ⟨hob, ⟨.ref b, H, I, rfl, q⟩⟩⟩)
theorem op_repN : OpR X (binaryOp .Mult) (rRepN X.K) := by
  intro pn sh σ H x y v u Q I rel rel2 hh
  obtain ⟨b, k, ws, rfl, rfl, sq, hne, k0, k1, q⟩ := hh
  cases rel
  obtain ⟨tk, rfl⟩ := rel2
  obtain ⟨its, rv, ⟨⟨oc, od, dt, osl⟩, hob, hcl, c, hdt⟩, hz⟩ := I.tuple sq
  simp only at hcl hdt
  subst hcl hdt
  have nemp : its.toArray.isEmpty = false := by
    match its, rv.length with
    | [], h => exact absurd (List.length_eq_zero_iff.mp h) hne
    | _ :: _, _ => rfl
  have small : (decide (k < -(2 ^ 63)) || decide (k ≥ 2 ^ 63)) = false := by
    rw [decide_eq_false (show ¬ k < -(2 ^ 63) by omega), decide_eq_false (show ¬ k ≥ 2 ^ 63 by omega), Bool.or_self]
  have more : (its.toArray.isEmpty || k == 1) = false := by
    rw [nemp, Bool.false_or]
    exact beq_eq_false_iff_ne.mpr (show k ≠ 1 by omega)
  have none_ : (decide (k ≤ 0) || its.toArray.isEmpty) = true := by rw [decide_eq_true k1, Bool.true_or]
  refine wpAny_binaryOp_repeat_ref (T := "tuple") (U := "int") (by decide) ⟨_, hob, rfl⟩ (fun s' => typeIs_int s' k tk) noFill_tuple_mul F.fills_int_mul F.slot_int_rmul repeat_tuple F.slot_int_index.lookup
    (call_meets F.slot_int_rmul (typeIs_int sh k tk) F.entry_int_rmul (F.args_int_rmul_2 _ _) (int_rmul_tuple k tk b its.toArray c od osl)
      ⟨hob, rfl, ⟨_, hob, rfl⟩, call_meets F.slot_tuple_mul ⟨_, hob, rfl⟩ F.entry_tuple_mul (F.args_tuple_mul_2 _ _) (tuple_mulNone b its.toArray c od osl k tk small more none_) ⟨hob, ?_⟩⟩)
  exact ⟨.ref sh.heap.objs.size, _, I.laid (t' := sh.toks) (o := .tup []) (fun _ _ z => Heap.get?_push_of_some _ z) (Nat.le_refl _) ⟨Nat.zero_le _, [], .nil, IsTup.new _ _⟩, rfl, q _ (I.hok.fresh (Nat.le_refl _))⟩
def rRepA (K : PySem.W.Frag) : R2 := fun x y H Q => rRepT K x y H Q ∨ (rRepO K x y H Q ∨ rRepN K x y H Q)
theorem op_repA : OpR X (binaryOp .Mult) (rRepA X.K) := op_repT.or (op_repO.or op_repN)
def oRepT : Op2 := fun x y S => match x, y with
  | .tup xs, .int k => if (1 ≤ xs.length ∧ xs.length ≤ 1000) ∧ (-1000 ≤ k ∧ k ≤ 1000) then some (.ok (.tup (List.replicate k.toNat xs).flatten), S) else none
  | _, _ => none
theorem oRepT_ok : OpOk X T false (rRepA X.K) oRepT := by
  intro F μ S H x y v u Q er s rx ry h
  unfold oRepT at h
  split at h
  · rename_i xs k
    split at h
    · rename_i hc
      obtain ⟨⟨l1, l2⟩, k1, k2⟩ := hc
      obtain ⟨b, ws, rfl, sq, rs⟩ := asT_ok s rx (ds := xs) rfl
      cases ry
      have hl := rs.length
      have ne : ws ≠ [] := fun e => by
        rw [e, List.length_nil] at hl
        omega
      by_cases a1 : 2 ≤ k
      · exact .inl ⟨b, k, ws, rfl, rfl, sq, ne, a1, k2, by omega, gp_tup h s (rs.rep _)⟩
      · by_cases a2 : k = 1
        · subst a2
          refine .inr (.inl ⟨b, ws, rfl, rfl, sq, ?_⟩)
          have e : (List.replicate (Int.toNat 1) xs).flatten = xs := by simp
          rw [e] at h
          exact gp_val h s rx
        · have e : (List.replicate k.toNat xs).flatten = [] := by
            have : k.toNat = 0 := by omega
            rw [this]; rfl
          rw [e] at h
          exact .inr (.inr ⟨b, k, ws, rfl, rfl, sq, ne, k1, by omega, gp_tup h s .nil⟩)
    · exact h.elim
  · exact h.elim
def oMulA : Op2 := fun x y S => match oMul x y S with
  | some r => some r
  | none => oRepT x y S
theorem op_mulA : OpR X (binaryOp .Mult) (fun x y H Q => rI CMul (fun i j => .int (i * j)) x y H Q ∨ rRepA X.K x y H Q) := op_mul.or op_repA
theorem oMulA_ok : OpOk X T false (fun x y H Q => rI CMul (fun i j => .int (i * j)) x y H Q ∨ rRepA X.K x y H Q) oMulA := OpOk.or oMul_ok oRepT_ok fun x y S => by
  unfold oMulA
  cases h : oMul x y S with
  | some r => exact .inl rfl
  | none => exact .inr rfl
end
end PF
set_option Elab.async false
set_option linter.all false
set_option maxRecDepth 100000
set_option maxHeartbeats 4000000
/-! PFN: max of three numbers. -/
namespace PF
open PySem L2 Evl PySem.Spec PyProof.Rows
section
variable {X : Cx} {T : List (Addr × Str)}
def bMax3 : OpB := fun ds S => match ds with
  | [.int i, .int j, .int k] => some (.ok (.int (max (max i j) k)), S)
  | _ => none
theorem nuMax2_int (i j : Int) : nuMax2 (.int i) (.int j) = some (.int (max i j)) := by
  have e : nuLt (.int i) (.int j) = some (decide (i < j)) := rfl
  unfold nuMax2
  rw [e, Option.map_some]
  by_cases h : i < j
  · rw [decide_eq_true h, if_pos rfl, Int.max_eq_right (Int.le_of_lt h)]
  · rw [decide_eq_false h, if_neg (by decide), Int.max_eq_left (Int.not_lt.mp h)]
theorem bMax3_ok : BltOk X T false (rNuC3 nuMax3) bMax3 := by
  intro F μ S H ds vs Q er s rs h
  unfold bMax3 at h
  split at h
  · cases rs with
    | cons r1 rs' =>
    obtain ⟨v, u, rfl, r2, r3⟩ := rs'.inv2
    cases r1; cases r2; cases r3
    refine ⟨_, _, _, _, rfl, ?_, gp_val h s (.int _)⟩
    unfold nuMax3
    rw [nuMax2_int, Option.bind_some, nuMax2_int]
  · exact h.elim
theorem b_max3 {i j k : Int} {S : Store} : bMax3 [.int i, .int j, .int k] S = some (.ok (.int (max (max i j) k)), S) := rfl
end
end PF
set_option Elab.async false
set_option linter.all false
set_option maxRecDepth 100000
set_option maxHeartbeats 4000000
/-! PFS: places in a text; the makers' tables. -/
namespace PF
open PySem L2 Evl PySem.Spec PyProof.Rows
def noE : Expr := .Name "" ⟨0, 0, 0, 0⟩
def noS : Stmt := .Pass ⟨0, 0, 0, 0⟩
def nthS (b : List Stmt) (i : Nat) : Stmt := b.getD i noS
def stE : Stmt → Expr
  | .Assign _ v _ => v
  | .Return (some v) _ => v
  | .Expr v _ => v
  | .AugAssign _ _ v _ => v
  | .If t _ _ _ => t
  | .While t _ _ _ => t
  | .For _ i _ _ _ => i
  | _ => noE
def stB (i : Nat) : Stmt → Stmt
  | .If _ b _ _ => nthS b i
  | .While _ b _ _ => nthS b i
  | .For _ _ b _ _ => nthS b i
  | _ => noS
def stO (i : Nat) : Stmt → Stmt
  | .If _ _ b _ => nthS b i
  | _ => noS
def exA (i : Nat) : Expr → Expr
  | .Call _ as _ _ => as.getD i noE
  | .Compare _ _ as _ => as.getD i noE
  | .BoolOp _ as _ => as.getD i noE
  | .Tuple as _ _ => as.getD i noE
  | .List as _ => as.getD i noE
  | _ => noE
def exK (i : Nat) : Expr → Expr
  | .Call _ _ ks _ => (ks[i]?.map (·.value)).getD noE
  | _ => noE
def ex0 : Expr → Expr
  | .IfExp t _ _ _ => t
  | _ => noE
def ex1 : Expr → Expr
  | .IfExp _ a _ _ => a
  | .BinOp a _ _ _ => a
  | .Compare a _ _ _ => a
  | .UnaryOp _ a _ => a
  | .Subscript a _ _ => a
  | _ => noE
def ex2 : Expr → Expr
  | .IfExp _ _ b _ => b
  | .BinOp _ _ b _ => b
  | _ => noE
def lamAt (q : Str) : Expr → LamSite
  | .Lambda a b s _ => ⟨a, b, s, q⟩
  | _ => ⟨⟨[], [], none, [], [], none, []⟩, noE, ⟨.function, [], false, false, []⟩, q⟩
/-! ### how a new list is held -/
inductive Held : EX → EX → Prop
  | val {c : EX} : Held c c
  | loc {c : EX} : Held c (cAlloc c)
section
variable {X : Cx} {T : List (Addr × Str)} {W : WX} {fr : Bool}
theorem rs_setLh {os : List Nat} {i : Nat} {y : Str} {elt tg iter : Expr} {ifs : List Expr} {scope : Scope} {own : List (Str × Nat)} {js : List Nat} {pos spos py : Pos} {ci : IX} {ct : TX} {cb : BX} {ce c2 : EX} (hd : Held (cComp ci os ct cb ce) c2) (hc : X.calm = true) (hN : X.N.Nodup)
    (ok : BlkOk X.N X.env.scope scope own) (hos : own.map (·.2) = os) (hjs : ∀ j ∈ js, j ∈ os) (hi : RI T X W tg iter ci)
    (hg : ∀ (s : Shared) (H : Hp) (C : Addr) (cl : List (Str × Addr)) (fp : List Addr), RG T (X.blk s H scope (compEnvC scope cl C X.env) fp) js tg ct) (ht : ∀ (s : Shared) (H : Hp) (C : Addr) (cl : List (Str × Addr)) (fp : List Addr), RTs T (X.blk s H scope (compEnvC scope cl C X.env) fp) WF ifs cb)
    (he : ∀ (s : Shared) (H : Hp) (C : Addr) (cl : List (Str × Addr)) (fp : List Addr), RE T false (X.blk s H scope (compEnvC scope cl C X.env) fp) WF elt ce)
    (hsw : swapsWith (.ListComp elt [⟨tg, iter, ifs, 0⟩] scope pos) (some (.Name y py)) spos.line X.env = pure true) (hy : X.N[i]? = some y := by rfl) (hyl : X.env.scope.names.lookup y = some .local := by rfl) (hs : ∀ x, foldedSetIterable iter X.env x = pure x := by intro _; rfl) :
    RS T fr X W (.Assign [.Name y py] (.ListComp elt [⟨tg, iter, ifs, 0⟩] scope pos) spos) (sSet i c2) := by
  cases hd with
  | val => exact rs_setLc hc hN ok hos hjs hi hg ht he _ hold_val hsw hy hyl hs
  | loc => exact rs_setLc hc hN ok hos hjs hi hg ht he _ hold_loc hsw hy hyl hs
end
/-! ### the makers -/
def qualL (p : He.Defn) : Str := p.1 ++ ".<locals>.<lambda>"
def tabsL (tf : List He.Defn) (K : PySem.W.Frag) : List (Addr × Str) := tf.map fun p => ((He.cT K p).2, qualL p)
def apartL (tf : List He.Defn) (K : PySem.W.Frag) : Bool := decide (tf.Pairwise fun p q => (He.cT K p).2 ≠ (He.cT K q).2)
theorem code_of {K : PySem.W.Frag} {p : Str × Option Str} {x qual : Str} {params : Arguments} {body : List Stmt} {scope : Scope} {dvs : List V} {kws : List (Str × V)} {fd : FuncData} (FD : FunD K x qual params body scope dvs kws (He.fAd K p) fd) : fd.code = .ref (He.codeOf K p) := by
  obtain ⟨oc, od, dV, kV, doc, pm, an, cdv, ct, osl, rfl, lk, hcd, _, _⟩ := FD.ex
  obtain ⟨c, rfl⟩ := He.codeIn_ref hcd
  rw [He.codeOf_eq lk rfl]
theorem apart_pick {α β : Type} {f : α → β} {q : α} : ∀ {l : List α} {p : α}, l.Pairwise (fun x y => f x ≠ f y) → p ∈ l → q ∈ l → f p = f q → p = q
  | x :: l, p, h, hp, hq, e => by
    obtain ⟨h1, h2⟩ := List.pairwise_cons.mp h
    rcases List.mem_cons.mp hp with rfl | hp'
    · rcases List.mem_cons.mp hq with rfl | hq'
      · rfl
      · exact absurd e (h1 q hq')
    · rcases List.mem_cons.mp hq with rfl | hq'
      · exact absurd e.symm (h1 p hp')
      · exact apart_pick h2 hp' hq' e
theorem uniqL {tf : List He.Defn} {K : PySem.W.Frag} (h : apartL tf K = true) {a : He.Defn} (ha : a ∈ tf) : ∀ p ∈ tabsL tf K, p.1 = (He.cT K a).2 → p.2 = qualL a := by
  intro p hp e
  obtain ⟨b, hb, rfl⟩ := List.mem_map.mp hp
  rw [apart_pick (f := fun p => (He.cT K p).2) (of_decide_eq_true h) hb ha e]
theorem memL {tf : List He.Defn} {K : PySem.W.Frag} {a : He.Defn} (ha : a ∈ tf) : ((He.cT K a).2, qualL a) ∈ tabsL tf K := List.mem_map.mpr ⟨a, ha, rfl⟩
/-- what a maker's derivation asks -/
theorem makes {tf : List He.Defn} {K : PySem.W.Frag} {mg : Str → Option Value} {base : Heap} {x : Str} {params : Arguments} {body : List Stmt} {scope : Scope} {fd : FuncData} (a : He.Defn) (h : apartL tf K = true) (ha : a ∈ tf) (tb : ∀ p ∈ tf.map (He.cT K), LamX.TabB base mg p.1 p.2) (FD : FunD K x x params body scope [] [] (He.fAd K a) fd) (hm : mg x = some (.ref (He.fAd K a))) :
    ∃ f fd c P, FunD K x x params body scope [] [] f fd ∧ mg x = some (.ref f) ∧ fd.code = .ref c ∧ LamX.TabB base mg c P ∧ (P, qualL a) ∈ tabsL tf K ∧ ∀ p ∈ tabsL tf K, p.1 = P → p.2 = qualL a :=
  ⟨_, fd, _, _, FD, hm, code_of FD, tb _ (List.mem_map.mpr ⟨a, ha, rfl⟩), memL ha, uniqL h ha⟩
end PF
set_option Elab.async false
set_option linter.all false
set_option maxRecDepth 100000
set_option maxHeartbeats 4000000
/-! PF9: the plain reckoning of outcomes. -/
namespace PF
open PySem L2 Evl PySem.Spec PyProof.Rows
/-- an outcome: a value with Q, or an exception with E -/
def Pst {α : Type} (r : Out α) (Q : α → Store → Prop) (E : XV → Store → Prop) : Prop := match r with
  | none => False
  | some (.ok a, S) => Q a S
  | some (.error x, S) => E x S
abbrev NoE : XV → Store → Prop := fun _ _ => False
section
variable {α β : Type} {Q : α → Store → Prop} {E : XV → Store → Prop} {S : Store}
theorem Pst_congr {r r' : Out α} (h : r = r') : Pst r Q E = Pst r' Q E := by rw [h]
@[simp] theorem Pst_ok {a : α} : Pst (some (.ok a, S)) Q E = Q a S := rfl
@[simp] theorem Pst_err {x : XV} : Pst (some (.error x, S)) Q E = E x S := rfl
@[simp] theorem Pst_none : Pst none Q E = False := rfl
@[simp] theorem Pst_bind {r : Out β} {k : β → Store → Out α} : Pst (bindO r k) Q E = Pst r (fun a S => Pst (k a S) Q E) E := by
  unfold bindO
  split <;> rfl
@[simp] theorem Pst_stm {r : Out β} {k : β → Store → Out Fl} {ρ : PF.Env} {Q : Fl → Store → Prop} : Pst (stm ρ r k) Q E = Pst r (fun a S => Pst (k a S) Q E) (fun x S => Q (.exc x ρ) S) := by
  unfold stm
  split <;> rfl
@[simp] theorem Pst_noX {r : Out α} : Pst (noX r) Q E = Pst r Q NoE := by
  unfold noX
  split
  · rfl
  · rename_i h
    match r with
    | none => rfl
    | some (.ok a, S) => rfl
    | some (.error x, S) => exact absurd rfl (h x S)
@[simp] theorem Pst_exit {fr : Bool} {n : Nat} {r : Out Fl} {Q : D → Store → Prop} : Pst (exitF fr n r) Q E = Pst r (fun fl S => Pst (exitF fr n (some (.ok fl, S))) Q E) NoE := by
  match r with
  | none => rfl
  | some (.ok a, S) => rfl
  | some (.error x, S) => rfl
@[simp] theorem Pst_ite {c : Prop} [Decidable c] {r : Out α} : Pst (if c then r else none) Q E = (c ∧ Pst r Q E) := by
  split <;> simp_all
theorem Pst.mono {r : Out α} {Q0 : α → Store → Prop} {E0 : XV → Store → Prop} (h : Pst r Q0 E0) (hq : ∀ a S, Q0 a S → Q a S) (he : ∀ x S, E0 x S → E x S) : Pst r Q E := by
  match r, h with
  | some (.ok a, S), h => exact hq _ _ h
  | some (.error x, S), h => exact he _ _ h
theorem Pst.imp {r : Out α} {Q0 : α → Store → Prop} (h : Pst r Q0 NoE) (hq : ∀ a S, Q0 a S → Q a S) : Pst r Q E := h.mono hq fun _ _ h => h.elim
theorem Pst.eq {r : Out α} {a : α} : Pst r (fun x S' => x = a ∧ S' = S) NoE ↔ r = some (.ok a, S) := by
  match r with
  | none => exact ⟨fun h => h.elim, fun h => by cases h⟩
  | some (.ok a, S) => exact ⟨fun h => by obtain ⟨rfl, rfl⟩ := h; rfl, fun h => by cases h; exact ⟨rfl, rfl⟩⟩
  | some (.error x, S) => exact ⟨fun h => h.elim, fun h => by cases h⟩
end
theorem bindO_congr {α β : Type} {r r' : Out α} {k : α → Store → Out β} (h : r = r') : bindO r k = bindO r' k := by rw [h]
theorem stm_congr {α : Type} {ρ : PF.Env} {r r' : Out α} {k : α → Store → Out Fl} (h : r = r') : stm ρ r k = stm ρ r' k := by rw [h]
@[simp] theorem noX_ok {α : Type} {a : α} {S : Store} : noX (some (.ok a, S)) = some (.ok a, S) := rfl
/-! ### by letters -/
section
variable {ρ : PF.Env} {S : Store}
@[simp] theorem ap_var {i : Nat} : cVar i ρ S = (match ρ[i]? with | some (some d) => some (.ok d, S) | _ => none) := rfl
@[simp] theorem ap_k {d : D} : cK d ρ S = some (.ok d, S) := rfl
@[simp] theorem ap_bin {o : Op2} {a b : EX} : cBin o a b ρ S = bindO (a ρ S) fun x S => bindO (b ρ S) fun y S => o x y S := rfl
@[simp] theorem ap_un {o : D → Store → Out D} {a : EX} : cUn o a ρ S = bindO (a ρ S) fun x S => o x S := rfl
@[simp] theorem ap_nil : aNil ρ S = some (.ok [], S) := rfl
@[simp] theorem ap_cons {a : EX} {r : AX} : aCons a r ρ S = bindO (a ρ S) fun x S => bindO (r ρ S) fun xs S => some (.ok (x :: xs), S) := rfl
@[simp] theorem ap_tup {r : AX} : cTup r ρ S = bindO (r ρ S) fun xs S => if xs.length ≤ lim then some (.ok (.tup xs), S) else none := rfl
@[simp] theorem ap_lst {r : AX} : cLst r ρ S = bindO (r ρ S) fun xs S => if xs.length ≤ lim then some (.ok (.lst xs), S) else none := rfl
@[simp] theorem ap_blt {o : OpB} {r : AX} : cBlt o r ρ S = bindO (r ρ S) fun ds S => o ds S := rfl
@[simp] theorem ap_call {n : Nat} {o : OpB} {r : AX} : cCall n o r ρ S = bindO (r ρ S) fun ds S => if ds.length = n then o ds S else none := rfl
@[simp] theorem ap_callK {n m : Nat} {g : List D → List D → List D} {o : OpB} {r rk : AX} : cCallK n m g o r rk ρ S = bindO (r ρ S) fun ds S => bindO (rk ρ S) fun es S => if ds.length = n ∧ es.length = m then o (g ds es) S else none := rfl
@[simp] theorem ap_mt {o : OpM} {a : EX} {r : AX} : cMt o a r ρ S = bindO (a ρ S) fun d S => match d with
  | .loc n => bindO (r ρ S) fun ds S => o (.loc n) ds S
  | _ => none := rfl
@[simp] theorem ap_isi {t : Ty} {a : EX} : cIsi t a ρ S = bindO (a ρ S) fun x S => if x.isFn = false then some (.ok (.bl (isTy x t)), S) else none := rfl
@[simp] theorem ap_slice {a : EX} {lo hi : OX} : cSliceA a lo hi ρ S = bindO (a ρ S) fun x S => bindO (lo ρ S) fun l S => bindO (hi ρ S) fun h S => match x with
  | .tup xs => some (.ok (.tup (cutL xs l h)), S)
  | .str z => if z.length ≤ lim then some (.ok (.str (cutS z l h)), S) else none
  | d => (match asL d S with
    | some xs => some (.ok (.lst (cutL xs l h)), S)
    | none => none) := rfl
@[simp] theorem ap_sliceL {a : EX} {lo hi : OX} : cSliceL a lo hi ρ S = bindO (a ρ S) fun x S => bindO (lo ρ S) fun l S => bindO (hi ρ S) fun h S => match asL x S with
  | some xs => some (.ok (.lst (cutL xs l h)), S)
  | none => none := rfl
@[simp] theorem ap_no : cNo ρ S = some (.ok none, S) := rfl
@[simp] theorem ap_part {c : EX} : cPart c ρ S = bindO (c ρ S) fun d S => match d with
  | .int i => some (.ok (some i), S)
  | _ => none := rfl
@[simp] theorem ap_alloc {c : EX} : cAlloc c ρ S = bindO (c ρ S) fun d S => match d with
  | .lst ds => if D.pures ds = true then some (.ok (.loc S.length), S ++ [ds]) else none
  | _ => none := rfl
variable {Q : D → Store → Prop} {E : XV → Store → Prop} {QB : Bool → Store → Prop} {QF : Fl → Store → Prop}
@[simp] theorem ap_test {c : EX} : Pst (cTest c ρ S) QB E = Pst (c ρ S) (fun d S => match d with
  | .bl b => QB b S
  | _ => False) E := by
  unfold cTest
  rw [Pst_bind]
  congr 1
  funext d S
  cases d <;> rfl
@[simp] theorem ap_band {a b : BX} : Pst (bAnd a b ρ S) QB E = Pst (a ρ S) (fun x S => (x = true → Pst (b ρ S) QB E) ∧ (x = false → QB false S)) E := by
  unfold bAnd
  rw [Pst_bind]
  congr 1
  funext d S
  cases d <;> simp
@[simp] theorem ap_bor {a b : BX} : Pst (bOr a b ρ S) QB E = Pst (a ρ S) (fun x S => (x = false → Pst (b ρ S) QB E) ∧ (x = true → QB true S)) E := by
  unfold bOr
  rw [Pst_bind]
  congr 1
  funext d S
  cases d <;> simp
@[simp] theorem ap_bnot {a : BX} : Pst (bNot a ρ S) QB E = Pst (a ρ S) (fun x S => QB (!x) S) E := by
  unfold bNot
  rw [Pst_bind]
  rfl
@[simp] theorem ap_byes : bYes ρ S = some (.ok true, S) := rfl
@[simp] theorem ap_and {a b : EX} : Pst (cAnd a b ρ S) Q E = Pst (a ρ S) (fun x S => match x with
  | .bl x => (x = true → Pst (b ρ S) Q E) ∧ (x = false → Q (.bl false) S)
  | _ => False) E := by
  unfold cAnd
  rw [Pst_bind]
  congr 1
  funext d S
  cases d <;> try rfl
  rename_i b
  cases b <;> simp
@[simp] theorem ap_or {a b : EX} : Pst (cOr a b ρ S) Q E = Pst (a ρ S) (fun x S => match x with
  | .bl x => (x = false → Pst (b ρ S) Q E) ∧ (x = true → Q (.bl true) S)
  | _ => False) E := by
  unfold cOr
  rw [Pst_bind]
  congr 1
  funext d S
  cases d <;> try rfl
  rename_i b
  cases b <;> simp
@[simp] theorem ap_not {a : EX} : Pst (cNot a ρ S) Q E = Pst (a ρ S) (fun x S => match x with
  | .bl x => Q (.bl (!x)) S
  | _ => False) E := by
  unfold cNot
  rw [Pst_bind]
  congr 1
  funext d S
  cases d <;> rfl
@[simp] theorem ap_ife {c : BX} {a b : EX} : Pst (cIfE c a b ρ S) Q E = Pst (c ρ S) (fun x S => (x = true → Pst (a ρ S) Q E) ∧ (x = false → Pst (b ρ S) Q E)) E := by
  unfold cIfE
  rw [Pst_bind]
  congr 1
  funext d S
  cases d <;> simp
@[simp] theorem ap_chain {o o' : Op2} {a b c : EX} : Pst (cChain o o' a b c ρ S) Q E = Pst (a ρ S) (fun x S => Pst (b ρ S) (fun y S => Pst (o x y S) (fun z S => match z with
  | .bl z => (z = true → Pst (c ρ S) (fun w S => Pst (o' y w S) Q E) E) ∧ (z = false → Q (.bl false) S)
  | _ => False) E) E) E := by
  unfold cChain
  simp only [Pst_bind]
  congr 1
  funext x S
  congr 1
  funext y S
  congr 1
  funext z S
  cases z <;> try rfl
  rename_i b
  cases b <;> simp
/-! statements -/
@[simp] theorem st_nil : sNil ρ S = some (.ok (.nx ρ), S) := rfl
@[simp] theorem st_brk : sBrk ρ S = some (.ok (.brk ρ), S) := rfl
@[simp] theorem st_ct : sCt ρ S = some (.ok (.ct ρ), S) := rfl
@[simp] theorem st_ret {c : EX} : sRet c ρ S = stm ρ (c ρ S) fun d S => some (.ok (.ret d), S) := rfl
@[simp] theorem st_retL {c : EX} : sRetL c ρ S = stm ρ (c ρ S) fun d S => match d with
  | .loc n => some (.ok (.ret (.loc n)), S)
  | _ => none := rfl
@[simp] theorem st_expr {c : EX} : sExpr c ρ S = stm ρ (c ρ S) fun _ S => some (.ok (.nx ρ), S) := rfl
@[simp] theorem st_set {i : Nat} {c : EX} : sSet i c ρ S = stm ρ (c ρ S) fun d S => some (.ok (.nx (ρ.set i (some d))), S) := rfl
@[simp] theorem st_par {i j : Nat} {r : AX} : sPar i j r ρ S = stm ρ (r ρ S) fun ds S => match ds with
  | [x, y] => some (.ok (.nx ((ρ.set i (some x)).set j (some y))), S)
  | _ => none := rfl
@[simp] theorem st_asg {t : TX} {c : EX} : sAsg t c ρ S = stm ρ (c ρ S) fun d S => bindO (noX (t d ρ S)) fun ρ' S => some (.ok (.nx ρ'), S) := rfl
@[simp] theorem st_stuck : sStuck ρ S = none := rfl
@[simp] theorem tg_name {i : Nat} {d : D} : tName i d ρ S = some (.ok (ρ.set i (some d)), S) := rfl
@[simp] theorem tg_tup {n : Nat} {c : TXs} {ds : List D} : tTup n c (.tup ds) ρ S = if ds.length = n then c ds ρ S else none := rfl
@[simp] theorem tg_nil : tsNil [] ρ S = some (.ok ρ, S) := rfl
@[simp] theorem tg_cons {t : TX} {r : TXs} {d : D} {ds : List D} : tsCons t r (d :: ds) ρ S = bindO (t d ρ S) fun ρ1 S => r ds ρ1 S := rfl
@[simp] theorem tg_sub {a b : EX} {d : D} : tSub a b d ρ S = bindO (noX (a ρ S)) fun o S => bindO (noX (b ρ S)) fun i S => match o, i with
  | .loc n, .int k => (match S[n]? with
    | some ds => (match ixN ds.length k with
      | some j => if d.pure = true then some (.ok ρ, S.set n (ds.set j d)) else none
      | none => none)
    | none => none)
  | _, _ => none := rfl
@[simp] theorem st_seq {a b : SX} : Pst (sSeq a b ρ S) QF E = Pst (a ρ S) (fun fl S => match fl with
  | .nx ρ' => Pst (b ρ' S) QF E
  | fl => QF fl S) E := by
  unfold sSeq
  rw [Pst_bind]
  congr 1
  funext d S
  cases d <;> rfl
@[simp] theorem st_if {c : BX} {a b : SX} : Pst (sIf c a b ρ S) QF E = Pst (c ρ S) (fun x S => (x = true → Pst (a ρ S) QF E) ∧ (x = false → Pst (b ρ S) QF E)) (fun x S => QF (.exc x ρ) S) := by
  unfold sIf
  rw [Pst_stm]
  congr 1
  funext d S
  cases d <;> simp
end
/-! ### operators on letters -/
section
variable {S : Store}
@[simp] theorem o_sub {i j : Int} : oSub (.int i) (.int j) S = some (.ok (.int (i - j)), S) := rfl
@[simp] theorem o_add {i j : Int} : oAddA (.int i) (.int j) S = some (.ok (.int (i + j)), S) := rfl
@[simp] theorem o_mul {i j : Int} : oMul (.int i) (.int j) S = if i.natAbs < 18446744073709551616 ∨ j.natAbs < 18446744073709551616 then some (.ok (.int (i * j)), S) else none := by
  simp [oMul, oI]
@[simp] theorem o_div {i j : Int} : oDiv (.int i) (.int j) S = if j ≠ 0 ∧ j.natAbs < 1073741824 then some (.ok (.int (i.fdiv j)), S) else none := by
  simp [oDiv, oI]
@[simp] theorem o_mod {i j : Int} : oMod (.int i) (.int j) S = if j ≠ 0 then some (.ok (.int (i.fmod j)), S) else none := by
  simp [oMod, oI]
@[simp] theorem o_pow {i j : Int} : oPow (.int i) (.int j) S = if 0 ≤ j ∧ j ≤ 1000 ∧ i.natAbs < 18446744073709551616 then some (.ok (.int (i ^ j.toNat)), S) else none := by
  simp [oPow, oI]
@[simp] theorem o_lt {i j : Int} : oLtA (.int i) (.int j) S = some (.ok (.bl (decide (i < j))), S) := rfl
@[simp] theorem o_le {i j : Int} : oLe (.int i) (.int j) S = some (.ok (.bl (decide (i ≤ j))), S) := rfl
@[simp] theorem o_gt {i j : Int} : oGt (.int i) (.int j) S = some (.ok (.bl (decide (j < i))), S) := rfl
@[simp] theorem o_ge {i j : Int} : oGe (.int i) (.int j) S = some (.ok (.bl (decide (j ≤ i))), S) := rfl
@[simp] theorem o_neg {i : Int} : oNeg (.int i) S = some (.ok (.int (-i)), S) := rfl
@[simp] theorem o_eq {i j : Int} : oEq (.int i) (.int j) S = some (.ok (.bl (i == j)), S) := by
  simp [oEq, told, eqOk, D.pure, D.eqv, D.py, SeqAt.shaped, PyData.canLay0, PyData.depth]
@[simp] theorem o_ne {i j : Int} : oNe (.int i) (.int j) S = some (.ok (.bl (!(i == j))), S) := by
  simp [oNe, told, eqOk, D.pure, D.eqv, D.py, SeqAt.shaped, PyData.canLay0, PyData.depth]
@[simp] theorem o_addT {xs ys : List D} : oAddA (.tup xs) (.tup ys) S = if xs.length + ys.length ≤ lim then some (.ok (.tup (xs ++ ys)), S) else none := by
  simp only [oAddA, oAdd]
  split
  · rename_i h
    split at h
    · cases h; simp [*]
    · cases h
  · rename_i h
    split at h
    · cases h
    · simp [oCat, asM, *]
@[simp] theorem o_addL {xs ys : List D} : oAddA (.lst xs) (.lst ys) S = if xs.length + ys.length ≤ lim then some (.ok (.lst (xs ++ ys)), S) else none := rfl
@[simp] theorem o_ixT {xs : List D} {i : Int} : oIx (.tup xs) (.int i) S = (match atI xs i with
  | some d => some (.ok d, S)
  | none => none) := rfl
@[simp] theorem o_ixL {xs : List D} {i : Int} : oIx (.lst xs) (.int i) S = (match atI xs i with
  | some d => some (.ok d, S)
  | none => none) := rfl
@[simp] theorem o_ixF {xs : List D} {i : Int} : oIx (.fz xs) (.int i) S = (match atI xs i with
  | some d => some (.ok d, S)
  | none => none) := rfl
@[simp] theorem o_ixC {n : Nat} {i : Int} : oIx (.loc n) (.int i) S = (match S[n]? with
  | some ds => (match atI ds i with
    | some d => some (.ok d, S)
    | none => none)
  | none => none) := by
  first | (simp only [oIx, asS, asL]; done) | (simp only [oIx, asS, asL]; rfl)
end
/-! ### built-ins on letters -/
section
variable {S : Store}
@[simp] theorem b_lenT {xs : List D} : bLen [.tup xs] S = some (.ok (.int xs.length), S) := rfl
@[simp] theorem b_lenL {xs : List D} : bLen [.lst xs] S = some (.ok (.int xs.length), S) := rfl
@[simp] theorem b_lenF {xs : List D} : bLen [.fz xs] S = some (.ok (.int xs.length), S) := rfl
@[simp] theorem b_lenC {n : Nat} : bLen [.loc n] S = (match S[n]? with
    | some xs => some (.ok (.int xs.length), S)
    | none => none) := rfl
@[simp] theorem b_abs {i : Int} : bAbs [.int i] S = some (.ok (.int (if i < 0 then -i else i)), S) := rfl
@[simp] theorem b_int {i : Int} : bInt [.int i] S = some (.ok (.int i), S) := rfl
@[simp] theorem b_min2 {i j : Int} : bMin2 [.int i, .int j] S = some (.ok (.int (if j < i then j else i)), S) := rfl
@[simp] theorem b_max2 {i j : Int} : bMax2 [.int i, .int j] S = some (.ok (.int (if i < j then j else i)), S) := rfl
@[simp] theorem b_tupleL {xs : List D} : bTuple [.lst xs] S = some (.ok (.tup xs), S) := rfl
@[simp] theorem b_tupleT {xs : List D} : bTuple [.tup xs] S = some (.ok (.tup xs), S) := rfl
@[simp] theorem b_tupleC {n : Nat} : bTuple [.loc n] S = (match S[n]? with
    | some xs => some (.ok (.tup xs), S)
    | none => none) := rfl
@[simp] theorem b_listT {xs : List D} : bList [.tup xs] S = some (.ok (.lst xs), S) := rfl
theorem intsOf_map {ns : List Int} : intsOf (ns.map D.int) = some ns := by
  induction ns with
  | nil => rfl
  | cons n ns ih => simp [intsOf, ih]
theorem blsOf_map {ns : List Bool} : blsOf (ns.map D.bl) = some ns := by
  induction ns with
  | nil => rfl
  | cons n ns ih => simp [blsOf, ih]
theorem b_all {ns : List Bool} : bAll [.lst (ns.map D.bl)] S = some (.ok (.bl (ns.all id)), S) := by
  simp [bAll, bL1, asL, blsOf_map]
theorem b_any {ns : List Bool} : bAny [.lst (ns.map D.bl)] S = some (.ok (.bl (ns.any id)), S) := by
  simp [bAny, bL1, asL, blsOf_map]
theorem b_sorted {ns : List Int} : bSorted [.lst (ns.map D.int)] S = some (.ok (.lst ((sortI ns).map D.int)), S) := by
  simp [bSorted, bL1, asL, intsOf_map]
theorem b_sum {ns : List Int} : bSum [.lst (ns.map D.int)] S = some (.ok (.int ns.sum), S) := by
  simp [bSum, bL1, asL, intsOf_map]
@[simp] theorem b_divmod {i j : Int} : bDivmod [.int i, .int j] S = if 0 < j ∧ j < 1073741824 then some (.ok (.tup [.int (i / j), .int (i % j)]), S) else none := rfl
@[simp] theorem m_append {n : Nat} {x : D} : mAppend (.loc n) [x] S = (match S[n]? with
    | some xs => if x.pure = true ∧ xs.length < lim then some (.ok .non, S.set n (xs ++ [x])) else none
    | none => none) := rfl
@[simp] theorem is_nonN {S : Store} : oIsN .non .non S = some (.ok (.bl true), S) := rfl
@[simp] theorem is_nonI {i : Int} : oIsN (.int i) .non S = some (.ok (.bl false), S) := rfl
@[simp] theorem not_nonN {S : Store} : oNotN .non .non S = some (.ok (.bl false), S) := rfl
@[simp] theorem not_nonI {i : Int} : oNotN (.int i) .non S = some (.ok (.bl true), S) := rfl
@[simp] theorem is_nonT {xs : List D} : oIsN (.tup xs) .non S = some (.ok (.bl false), S) := rfl
@[simp] theorem not_nonT {xs : List D} : oNotN (.tup xs) .non S = some (.ok (.bl true), S) := rfl
end
/-! ### a call's end -/
section
variable {fr : Bool} {n0 : Nat} {S : Store} {ρ : PF.Env}
theorem call_pst {n : Nat} {b : SX} {ds : List D} {Q : D → Store → Prop} {E : XV → Store → Prop} : Pst (callF fr n b ds S) Q E = Pst (b (startE n ds) S) (fun fl S1 => Pst (exitF fr S.length (some (.ok fl, S1))) Q E) NoE := by
  unfold callF
  rw [Pst_exit]
@[simp] theorem exit_nx : exitF false n0 (some (.ok (.nx ρ), S)) = some (.ok .non, S.take n0) := rfl
@[simp] theorem exit_int {i : Int} : exitF fr n0 (some (.ok (.ret (.int i)), S)) = some (.ok (.int i), S.take n0) := rfl
@[simp] theorem exit_bl {i : Bool} : exitF fr n0 (some (.ok (.ret (.bl i)), S)) = some (.ok (.bl i), S.take n0) := rfl
@[simp] theorem exit_non : exitF fr n0 (some (.ok (.ret .non), S)) = some (.ok .non, S.take n0) := rfl
@[simp] theorem exit_str {i : Str} : exitF fr n0 (some (.ok (.ret (.str i)), S)) = some (.ok (.str i), S.take n0) := rfl
@[simp] theorem exit_tup {ds : List D} : exitF fr n0 (some (.ok (.ret (.tup ds)), S)) = if D.pures ds = true then some (.ok (.tup ds), S.take n0) else none := rfl
@[simp] theorem exit_lst {ds : List D} : exitF fr n0 (some (.ok (.ret (.lst ds)), S)) = if D.pures ds = true then some (.ok (.lst ds), S.take n0) else none := rfl
@[simp] theorem exit_tpn {ds : List D} : exitF fr n0 (some (.ok (.ret (.tpn ds)), S)) = if D.pures ds = true then some (.ok (.tpn ds), S.take n0) else none := rfl
theorem exit_pure {d : D} (h : d.pure = true) : exitF fr n0 (some (.ok (.ret d), S)) = some (.ok d, S.take n0) := by
  cases d <;> simp_all [D.pure] <;> first | rfl | skip
theorem exit_loc {n : Nat} {ds : List D} (h : n0 ≤ n) (e : S[n]? = some ds) : exitF fr n0 (some (.ok (.ret (.loc n)), S)) = some (.ok (.lst ds), S.take n0) := by
  simp only [exitF, exitD, if_neg (Nat.not_lt.mpr h), e]
end
/-! ### loops -/
section
variable {QF : Fl → Store → Prop} {E : XV → Store → Prop} {Q : D → Store → Prop} {ρ : PF.Env} {S : Store}
@[simp] theorem st_for {src : IX} {t : TX} {b : SX} : Pst (sFor src t b ρ S) QF E = Pst (src ρ S) (fun src S => match srcAt src S with
  | some ds => Pst (forGo src t b ds.length 0 ρ S) QF E
  | none => False) (fun x S => QF (.exc x ρ) S) := by
  unfold sFor
  rw [Pst_stm]
  congr 1
  funext src S
  cases srcAt src S <;> rfl
theorem for_inv {src : Src} {t : TX} {b : SX} {ds : List D} (I : Nat → PF.Env → Store → Prop) (hs : ∀ i ρ S, I i ρ S → srcAt src S = some ds)
    (step : ∀ i d ρ S, ds[i]? = some d → I i ρ S → Pst (t d ρ S) (fun ρ1 S => Pst (b ρ1 S) (fun fl S => match fl with
      | .nx ρ' => I (i + 1) ρ' S
      | .ct ρ' => I (i + 1) ρ' S
      | .brk ρ' => QF (.nx ρ') S
      | fl => QF fl S) E) NoE) (fin : ∀ ρ S, I ds.length ρ S → QF (.nx ρ) S) :
    ∀ (k i : Nat) (ρ : PF.Env) (S : Store), k + i = ds.length → I i ρ S → Pst (forGo src t b k i ρ S) QF E
  | 0, i, ρ, S, hk, hi => by
    have hi' : i = ds.length := by omega
    subst hi'
    simp only [forGo, hs _ _ _ hi, Nat.le_refl, if_true]
    exact fin _ _ hi
  | k + 1, i, ρ, S, hk, hi => by
    have h1 : i < ds.length := by omega
    have h2 : ds[i]? = some ds[i] := List.getElem?_eq_getElem h1
    simp only [forGo, hs _ _ _ hi, h2, Pst_bind, Pst_noX]
    refine (step i _ ρ S h2 hi).mono (fun ρ1 S1 h => h.mono (fun fl S2 h => ?_) fun _ _ h => h) fun _ _ h => h
    match fl, h with
    | .nx ρ', h => exact for_inv I hs step fin k (i + 1) ρ' S2 (by omega) h
    | .ct ρ', h => exact for_inv I hs step fin k (i + 1) ρ' S2 (by omega) h
    | .brk ρ', h => exact h
    | .ret d, h => exact h
    | .exc x ρ', h => exact h
theorem for_of {src : Src} {t : TX} {b : SX} {ds : List D} (I : Nat → PF.Env → Store → Prop) (h0 : I 0 ρ S) (hs : ∀ i ρ S, I i ρ S → srcAt src S = some ds)
    (step : ∀ i d ρ S, ds[i]? = some d → I i ρ S → Pst (t d ρ S) (fun ρ1 S => Pst (b ρ1 S) (fun fl S => match fl with
      | .nx ρ' => I (i + 1) ρ' S
      | .ct ρ' => I (i + 1) ρ' S
      | .brk ρ' => QF (.nx ρ') S
      | fl => QF fl S) E) NoE) (fin : ∀ ρ S, I ds.length ρ S → QF (.nx ρ) S) : Pst (forGo src t b ds.length 0 ρ S) QF E :=
  for_inv I hs step fin ds.length 0 ρ S rfl h0
/-- a while: I k with k turns left at most -/
theorem while_inv {c : BX} {b : SX} (I : Nat → PF.Env → Store → Prop)
    (step : ∀ k ρ S, I k ρ S → Pst (c ρ S) (fun x S => (x = true → ∃ k', k = k' + 1 ∧ Pst (b ρ S) (fun fl S => match fl with
      | .nx ρ' => I k' ρ' S
      | .ct ρ' => I k' ρ' S
      | .brk ρ' => QF (.nx ρ') S
      | fl => QF fl S) E) ∧ (x = false → QF (.nx ρ) S)) (fun x S => QF (.exc x ρ) S)) :
    ∀ (m k : Nat) (ρ : PF.Env) (S : Store), k < m → I k ρ S → Pst (sWhile m c b ρ S) QF E
  | 0, k, ρ, S, hk, hi => absurd hk (Nat.not_lt_zero _)
  | m + 1, k, ρ, S, hk, hi => by
    have h := step k ρ S hi
    show Pst (whileGo c b (m + 1) ρ S) QF E
    unfold whileGo
    rw [Pst_stm]
    refine h.mono (fun x S1 h => ?_) fun _ _ h => h
    cases x with
    | false => exact h.2 rfl
    | true =>
      obtain ⟨k', hk', h2⟩ := h.1 rfl
      subst hk'
      show Pst (bindO (b ρ S1) _) QF E
      rw [Pst_bind]
      refine h2.mono (fun fl S2 h => ?_) fun _ _ h => h
      cases fl with
      | nx ρ' => exact while_inv I step m k' ρ' S2 (by omega) h
      | ct ρ' => exact while_inv I step m k' ρ' S2 (by omega) h
      | brk ρ' => exact h
      | ret d => exact h
      | exc x ρ' => exact h
@[simp] theorem src_items {ds : List D} : srcAt (.items ds) S = some ds := rfl
@[simp] theorem src_cell {n : Nat} : srcAt (.cell n) S = S[n]? := rfl
@[simp] theorem sq_tup {c : EX} : cSeqA c ρ S = bindO (c ρ S) fun d S => match srcOfA d with
  | some src => some (.ok src, S)
  | none => none := rfl
@[simp] theorem sq_range {c : AX} : cRange1 c ρ S = bindO (c ρ S) fun ds S => match ds with
  | [.int n] => if n < 1000000000 ∧ -1000000000 < n then some (.ok (.items (ranged 0 n.toNat)), S) else none
  | _ => none := rfl
@[simp] theorem sq_range2 {c : AX} : cRange2 c ρ S = bindO (c ρ S) fun ds S => match ds with
  | [.int m, .int n] => if (n < 1000000000 ∧ -1000000000 < n) ∧ (m < 1000000000 ∧ -1000000000 < m) then some (.ok (.items (ranged m (n - m).toNat)), S) else none
  | _ => none := rfl
@[simp] theorem sq_ofT {ds : List D} : srcOfA (.tup ds) = some (.items ds) := rfl
@[simp] theorem sq_ofL {ds : List D} : srcOfA (.lst ds) = some (.items ds) := rfl
@[simp] theorem sq_ofF {ds : List D} : srcOfA (.fz ds) = some (.items ds) := rfl
@[simp] theorem sq_ofC {n : Nat} : srcOfA (.loc n) = some (.cell n) := rfl
/-- a list that is made: I after i of the source's items, with what is made -/
theorem comp_inv {src : IX} {js : List Nat} {tgt : TX} {test : BX} {elt : EX} {so : Src} {S0 : Store} {ds : List D} (I : Nat → List D → Store → Prop)
    (hsrc : src ρ S = some (.ok so, S0)) (hs : ∀ i acc S1, I i acc S1 → S1.length = S0.length ∧ srcAt so (S1 ++ [acc]) = some ds) (hs0 : srcAt so S0 = some ds) (hl : ds.length ≤ lim) (h0 : I 0 [] S0)
    (step : ∀ i d acc S1, ds[i]? = some d → I i acc S1 → Pst (tgt d (wipeE ρ js) (S1 ++ [acc])) (fun ρ1 S2 => Pst (test ρ1 S2) (fun b S2 =>
      (b = true → Pst (elt ρ1 S2) (fun y S2 => ∃ S3, S2 = S3 ++ [acc] ∧ y.pure = true ∧ I (i + 1) (acc ++ [y]) S3) NoE) ∧ (b = false → ∃ S3, S2 = S3 ++ [acc] ∧ I (i + 1) acc S3)) NoE) NoE)
    (fin : ∀ acc S1, I ds.length acc S1 → Q (.lst acc) S1) : Pst (cComp src js tgt test elt ρ S) Q E := by
  unfold cComp
  rw [hsrc, bindO_ok]
  simp only [hs0, Pst_bind]
  have go : ∀ (k i : Nat) (acc : List D) (S1 : Store), k + i = ds.length → acc.length ≤ i → I i acc S1 →
      Pst (compGo so S0.length (fun d S => bindO (tgt d (wipeE ρ js) S) fun ρ1 S => bindO (test ρ1 S) fun b S => match b with
      | true => bindO (elt ρ1 S) fun y S => some (.ok (some y), S)
      | false => some (.ok none, S)) k i (S1 ++ [acc])) (fun _ S' => ∃ acc S1, S' = S1 ++ [acc] ∧ I ds.length acc S1) E := by
    intro k
    induction k with
    | zero =>
      intro i acc S1 hk ha hi
      have hi' : i = ds.length := by omega
      subst hi'
      simp only [compGo, (hs _ _ _ hi).2, Nat.le_refl, if_true, Pst_ok]
      exact ⟨acc, S1, rfl, hi⟩
    | succ k ih =>
      intro i acc S1 hk ha hi
      have h1 : i < ds.length := by omega
      have h2 : ds[i]? = some ds[i] := List.getElem?_eq_getElem h1
      simp only [compGo, (hs _ _ _ hi).2, h2, Pst_bind, Pst_noX]
      refine (step i _ acc S1 h2 hi).mono (fun ρ1 S2 h => h.mono (fun b S2 h => ?_) fun _ _ h => h) fun _ _ h => h
      match b, h with
      | false, h =>
        obtain ⟨S3, rfl, hi3⟩ := h.2 rfl
        exact ih (i + 1) acc S3 (by omega) (by omega) hi3
      | true, h =>
        rw [Pst_bind]
        refine (h.1 rfl).mono (fun y S2 h => ?_) fun _ _ h => h
        obtain ⟨S3, rfl, hp, hi3⟩ := h
        have l3 := (hs _ _ _ hi3).1
        have e1 : (S3 ++ [acc])[S0.length]? = some acc := by rw [← l3]; simp
        have e2 : (S3 ++ [acc]).set S0.length (acc ++ [y]) = S3 ++ [acc ++ [y]] := by rw [← l3]; simp
        have e3 : acc.length < lim := by omega
        simp only [Pst_ok, e1, e2, hp, e3, and_self, if_true]
        exact ih (i + 1) (acc ++ [y]) S3 (by omega) (by simp; omega) hi3
  refine (go ds.length 0 [] S0 rfl (Nat.le_refl _) h0).mono (fun _ S' h => ?_) fun _ _ h => h
  obtain ⟨acc, S1, rfl, hi⟩ := h
  have l3 := (hs _ _ _ hi).1
  have e1 : (S1 ++ [acc])[S0.length]? = some acc := by rw [← l3]; simp
  have e2 : (S1 ++ [acc]).take S0.length = S1 := by rw [← l3]; simp
  simp only [e1, e2, Pst_ok]
  exact fin acc S1 hi
/-- a list that is made of a source by a function, with nothing written -/
theorem comp_pure {src : IX} {js : List Nat} {tgt : TX} {test : BX} {elt : EX} {so : Src} {ds : List D} (g : D → Option D)
    (hsrc : src ρ S = some (.ok so, S)) (hs : srcAt so S = some ds) (hs1 : ∀ acc, srcAt so (S ++ [acc]) = some ds) (hl : ds.length ≤ lim)
    (hg : ∀ d ∈ ds, ∀ acc, Pst (tgt d (wipeE ρ js) (S ++ [acc])) (fun ρ1 S2 => Pst (test ρ1 S2) (fun b S2 =>
      (b = true → Pst (elt ρ1 S2) (fun y S2 => S2 = S ++ [acc] ∧ y.pure = true ∧ g d = some y) NoE) ∧ (b = false → S2 = S ++ [acc] ∧ g d = none)) NoE) NoE) :
    cComp src js tgt test elt ρ S = some (.ok (.lst (ds.filterMap g)), S) := by
  refine Pst.eq.mp (comp_inv (so := so) (ds := ds) (fun i acc S1 => S1 = S ∧ acc = (ds.take i).filterMap g) hsrc ?_ hs hl ⟨rfl, rfl⟩ ?_ ?_)
  · rintro i acc S1 ⟨rfl, rfl⟩
    exact ⟨rfl, hs1 _⟩
  · rintro i d acc S1 hd ⟨rfl, ha⟩
    have hm : d ∈ ds := List.mem_of_getElem? hd
    have ht : ds.take (i + 1) = ds.take i ++ [d] := by
      have h1 : i < ds.length := by
        rcases Nat.lt_or_ge i ds.length with h | h
        · exact h
        · rw [List.getElem?_eq_none h] at hd; cases hd
      rw [List.getElem?_eq_getElem h1] at hd
      cases hd
      exact List.take_succ_eq_append_getElem h1
    refine (hg d hm acc).mono (fun ρ1 S2 h => h.mono (fun b S2 h => ⟨fun hb => (h.1 hb).mono (fun y S2 h => ?_) fun _ _ h => h, fun hb => ?_⟩) fun _ _ h => h) fun _ _ h => h
    · exact ⟨S1, h.1, h.2.1, rfl, by rw [ht, List.filterMap_append, ← ha]; simp [h.2.2]⟩
    · exact ⟨S1, (h.2 hb).1, rfl, by rw [ht, List.filterMap_append, ← ha]; simp [(h.2 hb).2]⟩
  · rintro acc S1 ⟨rfl, rfl⟩
    rw [List.take_length]
    exact ⟨rfl, rfl⟩
end
section
variable {ρ : PF.Env} {S : Store}
@[simp] theorem ap_lam {l : LamSite} : cLam l ρ S = some (.ok (.fn l), S) := rfl
@[simp] theorem ap_back {a : EX} : cBack a ρ S = bindO (a ρ S) fun x S => match asL x S with
  | some xs => some (.ok (.lst xs.reverse), S)
  | none => none := rfl
theorem pure_noFn {d : D} (h : d.pure = true) : d.isFn = false := by cases d <;> first | rfl | (cases h)
end
end PF
set_option Elab.async false
set_option linter.all false
set_option maxRecDepth 100000
set_option maxHeartbeats 4000000
/-! PFZ: starred items. -/
namespace PF
open PySem L2 Evl PySem.Spec PyProof.Rows
section
variable {X : Cx} {T : List (Addr × Str)} {W : WX}
def aStar (a : EX) (r : AX) : AX := fun ρ S => bindO (a ρ S) fun x S => match asS x S with
  | some xs => bindO (r ρ S) fun ys S => some (.ok (xs ++ ys), S)
  | none => none
theorem ra_star {e : Expr} {es : List Expr} {a : EX} {r : AX} {sp : Pos} (h : RE T false X W e a) (hr : RA T X W es r) (hs : starEach (.Starred e sp :: es) X.env = (true, eval e X.env) :: starEach es X.env := by rfl) : RA T X W (.Starred e sp :: es) (aStar a r) := by
  obtain ⟨ta, pa, fa⟩ := h
  obtain ⟨tr, pr, fr⟩ := hr
  refine ⟨_, StX.pa_star pa pr hs, fun σ ρ F μ S H Q s hE g => fa σ ρ F μ S H _ s hE (GP.seq g fun x F1 μ1 H1 S1 e1 p1 s1 g1 v rx => ?_)⟩
  split at g1
  · rename_i xs hx
    obtain ⟨b, ws, rfl, h1, h2⟩ := asS_ok s1 rx hx
    refine ⟨b, ws, rfl, h1.symm, fr σ ρ F1 μ1 S1 H1 _ s1 (hE.mono e1 p1) (GP.seq g1 fun ys F2 μ2 H2 S2 e2 p2 s2 g2 vs rs => ?_)⟩
    exact GP.here g2 s2 _ ((h2.mono e2 p2).append rs)
  · exact g1.elim
end
section
variable {X : Cx} {T : List (Addr × Str)}
/-- is True, is not True -/
def oIsB : Op2 := fun x y S => match x, y with
  | .bl a, .bl b => some (.ok (.bl (decide (a = b))), S)
  | _, _ => none
def oNotB : Op2 := fun x y S => match x, y with
  | .bl a, .bl b => some (.ok (.bl (!decide (a = b))), S)
  | _, _ => none
theorem oIsB_ok : OpOk X T false (fun x y H Q => ∃ a b, x = .bl a ∧ y = .bl b ∧ Q (.bl (decide (a = b))) H) oIsB := by
  intro F μ S H x y v u Q er s rx ry h
  unfold oIsB at h
  split at h
  · cases rx; cases ry
    exact ⟨_, _, rfl, rfl, gp_val h s (.bl _)⟩
  · exact h.elim
theorem oNotB_ok : OpOk X T false (fun x y H Q => ∃ a b, x = .bl a ∧ y = .bl b ∧ Q (.bl (!decide (a = b))) H) oNotB := by
  intro F μ S H x y v u Q er s rx ry h
  unfold oNotB at h
  split at h
  · cases rx; cases ry
    exact ⟨_, _, rfl, rfl, gp_val h s (.bl _)⟩
  · exact h.elim
theorem o1_isB {a b : Bool} {S : Store} {Q : D → Store → Prop} {E : XV → Store → Prop} (h : Q (.bl (decide (a = b))) S) : Pst (oIsB (.bl a) (.bl b) S) Q E := h
theorem o1_notB {a b : Bool} {S : Store} {Q : D → Store → Prop} {E : XV → Store → Prop} (h : Q (.bl (!decide (a = b))) S) : Pst (oNotB (.bl a) (.bl b) S) Q E := h
end
section
variable {Q : List D → Store → Prop} {E : XV → Store → Prop} {S : Store} {ρ : PF.Env}
theorem r_star {a : EX} {r : AX} (h : Pst (a ρ S) (fun x S => ∃ xs, asS x S = some xs ∧ Pst (r ρ S) (fun ys S => Q (xs ++ ys) S) E) E) : Pst (aStar a r ρ S) Q E := by
  unfold aStar
  rw [Pst_bind]
  refine h.mono (fun x S h => ?_) fun _ _ h => h
  obtain ⟨xs, e, h⟩ := h
  simp only [e, Pst_bind, Pst_ok]
  exact h
end
end PF
set_option Elab.async false
set_option linter.all false
set_option maxRecDepth 100000
set_option maxHeartbeats 4000000
/-! PFO: x or y by truth. -/
namespace PF
open PySem L2 Evl
def truD : D → Option Bool
  | .bl b => some b
  | .int i => some (i != 0)
  | .non => some false
  | _ => none
def cOrV (a b : EX) : EX := fun ρ S => bindO (a ρ S) fun x S => match truD x with
  | some true => some (.ok x, S)
  | some false => b ρ S
  | none => none
section
variable {T : List (Addr × Str)} {X : Cx} {W : WX}
theorem re_orV {e e2 : Expr} {es : List Expr} {a b : EX} {pos : Pos} (h : RE T false X W e a) (h2 : RE T false X W (.BoolOp .Or (e2 :: es) pos) b) : RE T false X W (.BoolOp .Or (e :: e2 :: es) pos) (cOrV a b) := by
  obtain ⟨ta, pa, fa⟩ := h
  obtain ⟨tb, pb, fb⟩ := h2
  refine ⟨_, pe_orT pa pb, fun σ ρ F μ S H Q s hE g => ?_⟩
  refine fa σ ρ F μ S H _ s hE (GP.seq g fun x F1 μ1 H1 S1 e1 p1 s1 g1 v rv => ?_)
  cases rv with
  | bl k =>
    refine ⟨k, rfl, ?_⟩
    cases k with
    | true => rw [if_pos rfl]; exact gp_val g1 s1 (.bl true)
    | false => rw [if_neg Bool.false_ne_true]; exact fb σ ρ F1 μ1 S1 H1 Q s1 (hE.mono e1 p1) g1
  | non =>
    refine ⟨false, rfl, ?_⟩
    rw [if_neg Bool.false_ne_true]; exact fb σ ρ F1 μ1 S1 H1 Q s1 (hE.mono e1 p1) g1
  | int i =>
    refine ⟨i != 0, rfl, ?_⟩
    dsimp only [truD] at g1
    cases hk : (i != 0) with
    | true => rw [hk] at g1; rw [if_pos rfl]; exact gp_val g1 s1 (.int i)
    | false => rw [hk] at g1; rw [if_neg Bool.false_ne_true]; exact fb σ ρ F1 μ1 S1 H1 Q s1 (hE.mono e1 p1) g1
  | _ => exact g1.elim
end
theorem r_orV {a b : EX} {ρ : Env} {S : Store} {Q : D → Store → Prop} {E : XV → Store → Prop} (h : Pst (a ρ S) (fun x S' => (truD x = some true ∧ Q x S') ∨ (truD x = some false ∧ Pst (b ρ S') Q E)) E) : Pst (cOrV a b ρ S) Q E := by
  have e : cOrV a b ρ S = bindO (a ρ S) fun x S => match truD x with
    | some true => some (.ok x, S)
    | some false => b ρ S
    | none => none := rfl
  rw [e, Pst_bind]
  refine h.mono (fun d S h => ?_) fun _ _ h => h
  rcases h with ⟨e, q⟩ | ⟨e, q⟩
  · simp only [e]; exact q
  · simp only [e]; exact q
end PF
set_option Elab.async false
set_option linter.all false
set_option maxRecDepth 100000
set_option maxHeartbeats 4000000
/-! PFA: a def that goes by another name, too. -/
namespace PF
open PySem L2 Evl PySem.Spec PyProof.Rows
/-- the def x, which the module knows as y -/
structure DefGA (P : Program) (w : World) (K : PySem.W.Frag) (mg : Str → Option Value) (base : Heap) (T : List (Addr × Str)) (k : Nat) (x y : Str) (params : Arguments) (body : List Stmt) (scope : Scope) (ps : List Str) (fr : Bool) (o : OpB) : Prop where
  ex : ∃ f fd, FunD K x x params body scope [] [] f fd ∧ mg y = some (.ref f) ∧ FnG P w K mg base k f fd ps (spOf K mg T fr ps.length o)
section
variable {X : Cx} {T : List (Addr × Str)} {W : WX} {k : Nat} {x y : Str} {params : Arguments} {body : List Stmt} {scope : Scope} {ps : List Str} {fr : Bool} {o : OpB} {p pos : Pos} {e : Expr} {es : List Expr} {c : AX}
theorem re_callA (G : DefGA X.prog X.w X.K X.mg X.base T k x y params body scope ps fr o) (hp : Posn params body scope x ps) (hr : Room k X.A) (hgu : X.A.guards = some []) (hx : ∀ σ, PassesAt (L2.CX X.prog X.w) X σ fun cls d H => W cls d σ H)
    (ha : RA T X W (e :: es) c) (hg : Gl X y := by rfl) (hdb : (y == ("__debug__" : Str)) = false := by decide) (he : starEach (e :: es) X.env = (false, eval e X.env) :: starEach es X.env := by rfl) (hpl : (backTo pos (starEach es X.env)).any (·.1) = false := by rfl) :
    RE T fr X W (.Call (.Name y p) (e :: es) [] pos) (cCall ps.length o c) := by
  obtain ⟨f, fd, FD, hm, FG⟩ := G.ex
  obtain ⟨t, pa, rd⟩ := ha
  refine ⟨fun σ H Q => t σ H fun vs H1 => spOf X.K X.mg T fr ps.length o vs H1 Q (fun cls d H => W cls d σ H), ⟨fun pins s σ H Q I h => ?_⟩, fun σ ρ F μ S H Q s hE g => ?_⟩
  · refine wpAny_Call_Name_kw (ld_glob I hg hm ?_ hdb)
    refine PySem.W.callWith_K (h₀ := X.base) I.ok.mod.kin FD.kp (thn (pa.run pos pins s σ H _ I h) fun us s1 ⟨vs, H1, I1, r, q⟩ => ⟨I1.kIn, ?_⟩) he hpl
    obtain ⟨kV, doc, pm, an, cdv, ct, rfl⟩ := FunD.to FD
    have hl : us.length = ps.length := by
      obtain ⟨_, _, _, _, _, _, hl, _⟩ := id q
      rw [← r.length]; exact hl
    exact run_g (us := us) FG hr hgu (.of_eq (hp _ _ _ _ _ _ us hl)) (hx σ) I1 r q
  · refine rd σ ρ F μ S H _ s hE (GP.seq g fun ds F1 μ1 H1 S1 e1 p1 s1 g1 vs rs => ?_)
    split at g1
    · rename_i hn
      exact ⟨F1, μ1, S1, ds, s1, rs, by rw [← rs.length]; exact hn, g1⟩
    · exact g1.elim
end
section
variable {X : Cx} {T : List (Addr × Str)} {W : WX} {k : Nat} {x y : Str} {params : Arguments} {body : List Stmt} {scope : Scope} {ps ks : List Str} {fr : Bool} {o : OpB} {p pos : Pos} {e : Expr} {es : List Expr} {kws : List Keyword} {c cs : AX}
theorem re_callKA {n : Nat} {g : {α : Type} → List α → List α → List α} (G : DefGA X.prog X.w X.K X.mg X.base T k x y params body scope ps fr o) (hp : Keyn params body scope x ps ks n g) (hgr : ∀ {K F μ} {ds es : List D} {vs us : List V}, ds.length = n → es.length = ks.length → Reps K F μ ds vs → Reps K F μ es us → Reps K F μ (g ds es) (g vs us))
    (hgv : ∀ {vs us : List V} {ws zs : List Value}, vs.length = n → us.length = ks.length → Vals vs ws → Vals us zs → Vals (g vs us) (g ws zs)) (hgl : ∀ {ds es : List V}, ds.length = n → es.length = ks.length → (g ds es).length = ps.length)
    (hr : Room k X.A) (hgu : X.A.guards = some []) (hx : ∀ σ, PassesAt (L2.CX X.prog X.w) X σ fun cls d H => W cls d σ H)
    (ha : RA T X W (e :: es) c) (hkw : RK T X W kws cs) (hg : Gl X y := by rfl) (hall : (backToKw pos (keywordEach kws X.env)).all (·.1.isSome) = true := by rfl) (hks : (backToKw pos (keywordEach kws X.env)).filterMap (·.1) = ks := by rfl)
    (hdb : (y == ("__debug__" : Str)) = false := by decide) (he : starEach (e :: es) X.env = (false, eval e X.env) :: starEach es X.env := by rfl)
    (hpl : ((backTo pos (starEach (e :: es) X.env)).any (·.1) || (backToKw pos (keywordEach kws X.env)).any (·.1.isNone)) = false := by rfl) :
    RE T fr X W (.Call (.Name y p) (e :: es) kws pos) (cCallK n ks.length g o c cs) := by
  obtain ⟨f, fd, FD, hm, FG⟩ := G.ex
  obtain ⟨t, pa, rd⟩ := ha
  obtain ⟨t2, pk, rd2⟩ := hkw
  refine ⟨fun σ H Q => t σ H fun vs H1 => t2 σ H1 fun us H2 => vs.length = n ∧ us.length = ks.length ∧ spOf X.K X.mg T fr ps.length o (g vs us) H2 Q (fun cls d H => W cls d σ H), ⟨fun pins s σ H Q I h => ?_⟩, fun σ ρ F μ S H Q s hE g => ?_⟩
  · refine wpAny_Call_Name_kw (ld_glob I hg hm ?_ hdb)
    refine PySem.W.callWith_KW (h₀ := X.base) I.ok.mod.kin FD.kp hall (thn (pa.run pos pins s σ H _ I h) fun us s1 ⟨vs, H1, I1, r, q⟩ => ?_) hpl he
    refine thn (pk.run pos pins s1 σ H1 _ I1 q) fun ws s2 ⟨zs, H2, I2, rz, l1, l2, q2⟩ => ⟨I2.kIn, ?_⟩
    obtain ⟨kV, doc, pm, an, cdv, ct, rfl⟩ := FunD.to FD
    rw [hks]
    exact run_g (us := g us ws) FG hr hgu (.of_eq (hp _ _ _ _ _ _ us ws (by rw [← r.length]; exact l1) (by rw [← rz.length]; exact l2))) (hx σ) I2 (hgv l1 l2 r rz) q2
  · refine rd σ ρ F μ S H _ s hE (GP.seq g fun ds F1 μ1 H1 S1 e1 p1 s1 g1 vs rs => ?_)
    refine rd2 σ ρ F1 μ1 S1 H1 _ s1 (hE.mono e1 p1) (GP.seq g1 fun es F2 μ2 H2 S2 e2 p2 s2 g2 us ru => ?_)
    split at g2
    · rename_i hn
      have l1 : vs.length = n := by rw [← rs.length]; exact hn.1
      have l2 : us.length = ks.length := by rw [← ru.length]; exact hn.2
      exact ⟨l1, l2, F2, μ2, S2, _, s2, hgr hn.1 hn.2 (rs.mono e2 p2) ru, hgl l1 l2, g2⟩
    · exact g2.elim
theorem re_callK0A {g : {α : Type} → List α → List α → List α} (G : DefGA X.prog X.w X.K X.mg X.base T k x y params body scope ps fr o) (hp : Keyn params body scope x ps ks 0 g) (hgr : ∀ {K F μ} {ds es : List D} {vs us : List V}, ds.length = 0 → es.length = ks.length → Reps K F μ ds vs → Reps K F μ es us → Reps K F μ (g ds es) (g vs us))
    (hgv : ∀ {vs us : List V} {ws zs : List Value}, vs.length = 0 → us.length = ks.length → Vals vs ws → Vals us zs → Vals (g vs us) (g ws zs)) (hgl : ∀ {ds es : List V}, ds.length = 0 → es.length = ks.length → (g ds es).length = ps.length)
    (hr : Room k X.A) (hgu : X.A.guards = some []) (hx : ∀ σ, PassesAt (L2.CX X.prog X.w) X σ fun cls d H => W cls d σ H)
    (hkw : RK T X W kws cs) (hg : Gl X y := by rfl) (hall : (backToKw pos (keywordEach kws X.env)).all (·.1.isSome) = true := by rfl) (hks : (backToKw pos (keywordEach kws X.env)).filterMap (·.1) = ks := by rfl)
    (hdb : (y == ("__debug__" : Str)) = false := by decide)
    (hpl : ((backTo pos (starEach [] X.env)).any (·.1) || (backToKw pos (keywordEach kws X.env)).any (·.1.isNone)) = false := by rfl) :
    RE T fr X W (.Call (.Name y p) [] kws pos) (cCallK 0 ks.length g o aNil cs) := by
  obtain ⟨f, fd, FD, hm, FG⟩ := G.ex
  obtain ⟨t2, pk, rd2⟩ := hkw
  refine ⟨fun σ H Q => t2 σ H fun us H2 => us.length = ks.length ∧ spOf X.K X.mg T fr ps.length o (g [] us) H2 Q (fun cls d H => W cls d σ H), ⟨fun pins s σ H Q I h => ?_⟩, fun σ ρ F μ S H Q s hE g => ?_⟩
  · refine wpAny_Call_Name_kw (ld_glob I hg hm ?_ hdb)
    refine PySem.W.callWith_KW0 (h₀ := X.base) I.ok.mod.kin FD.kp hall ?_ hpl
    refine thn (pk.run pos pins s σ H _ I h) fun ws s2 ⟨zs, H2, I2, rz, l2, q2⟩ => ⟨I2.kIn, ?_⟩
    obtain ⟨kV, doc, pm, an, cdv, ct, rfl⟩ := FunD.to FD
    rw [hks]
    exact run_g (us := g [] ws) FG hr hgu (.of_eq (hp _ _ _ _ _ _ [] ws rfl (by rw [← rz.length]; exact l2))) (hx σ) I2 (hgv rfl l2 .nil rz) q2
  · have g0 := g
    unfold cCallK aNil at g
    rw [bindO_ok] at g
    refine rd2 σ ρ F μ S H _ s hE (GP.seq g fun es F2 μ2 H2 S2 e2 p2 s2 g2 us ru => ?_)
    split at g2
    · rename_i hn
      have l2 : us.length = ks.length := by rw [← ru.length]; exact hn.2
      exact ⟨l2, F2, μ2, S2, _, s2, hgr rfl hn.2 .nil ru, hgl rfl l2, g2⟩
    · exact g2.elim
end
end PF
set_option Elab.async false
set_option linter.all false
set_option maxRecDepth 100000
set_option maxHeartbeats 4000000
/-! PF10: one rule for each letter (printed by mk10.py). -/
namespace PF
open PySem L2 Evl PySem.Spec PyProof.Rows
theorem set_get {S : Store} {n : Nat} {x : List D} (y : List D) (h : S[n]? = some x) : (S.set n y)[n]? = some y := by
  have : n < S.length := by
    rcases Nat.lt_or_ge n S.length with h1 | h1
    · exact h1
    · rw [List.getElem?_eq_none h1] at h; cases h
  simp [this]
/-- two ways -/
def Cs (b : Bool) (A B : Prop) : Prop := (b = true → A) ∧ (b = false → B)
def slL (x : D) (l r : Option Int) (S : Store) : Out D := match asL x S with
  | some xs => some (.ok (.lst (cutL xs l r)), S)
  | none => none
def slA (x : D) (l r : Option Int) (S : Store) : Out D := match x with
  | .tup xs => some (.ok (.tup (cutL xs l r)), S)
  | .str z => if z.length ≤ lim then some (.ok (.str (cutS z l r)), S) else none
  | d => slL d l r S
def Bl (d : D) (k : Bool → Prop) : Prop := match d with
  | .bl b => k b
  | _ => False
theorem cs_dec {p : Prop} [Decidable p] {A B : Prop} (h1 : p → A) (h2 : ¬ p → B) : Cs (decide p) A B := ⟨fun h => h1 (of_decide_eq_true h), fun h => h2 (of_decide_eq_false h)⟩
theorem cs_beq {i j : Int} {A B : Prop} (h1 : i = j → A) (h2 : i ≠ j → B) : Cs (i == j) A B := ⟨fun h => h1 (eq_of_beq h), fun h => h2 (fun e => by rw [e, beq_self_eq_true] at h; cases h)⟩
theorem cs_t {A B : Prop} (h1 : A) : Cs true A B := ⟨fun _ => h1, fun h => by cases h⟩
theorem cs_f {A B : Prop} (h1 : B) : Cs false A B := ⟨fun h => (by cases h), fun _ => h1⟩
theorem cs_te {b : Bool} {A B : Prop} (e : b = true) (h1 : A) : Cs b A B := by rw [e]; exact cs_t h1
theorem cs_fe {b : Bool} {A B : Prop} (e : b = false) (h1 : B) : Cs b A B := by rw [e]; exact cs_f h1
theorem cs_not {b : Bool} {A B : Prop} (h : Cs b B A) : Cs (!b) A B := by
  cases b with
  | true => exact cs_f (h.1 rfl)
  | false => exact cs_t (h.2 rfl)
theorem bl_bl {b : Bool} {k : Bool → Prop} (h : k b) : Bl (.bl b) k := h
section
variable {α β : Type} {Q : α → Store → Prop} {E : XV → Store → Prop} {S : Store} {ρ : PF.Env}
theorem r_ok {a : α} (h : Q a S) : Pst (some (.ok a, S)) Q E := h
theorem r_eq {r : Out α} {a : α} {S1 : Store} (e : r = some (.ok a, S1)) (h : Q a S1) : Pst r Q E := by rw [e]; exact h
theorem r_ite {c : Prop} [Decidable c] {r : Out α} (hc : c) (h : Pst r Q E) : Pst (if c then r else none) Q E := by rw [if_pos hc]; exact h
theorem r_bind {r : Out β} {k : β → Store → Out α} (h : Pst r (fun a S => Pst (k a S) Q E) E) : Pst (bindO r k) Q E := by rw [Pst_bind]; exact h
theorem r_nox {r : Out α} (h : Pst r Q NoE) : Pst (noX r) Q E := by rw [Pst_noX]; exact h
theorem r_nil {Q : List D → Store → Prop} (h : Q [] S) : Pst (aNil ρ S) Q E := h
theorem r_cons {Q : List D → Store → Prop} {a : EX} {r : AX} (h : Pst (a ρ S) (fun x S => Pst (r ρ S) (fun xs S => Q (x :: xs) S) E) E) : Pst (aCons a r ρ S) Q E := by
  rw [ap_cons, Pst_bind]
  simpa only [Pst_bind, Pst_ok] using h
theorem bool_t {QB : Bool → Store → Prop} {c : EX} (h : Pst (c ρ S) (fun d S => Bl d fun b => QB b S) E) : Pst (cTest c ρ S) QB E := by
  rw [ap_test]
  exact h
theorem bool_and {QB : Bool → Store → Prop} {a b : BX} (h : Pst (a ρ S) (fun x S => Cs x (Pst (b ρ S) QB E) (QB false S)) E) : Pst (bAnd a b ρ S) QB E := by rw [ap_band]; exact h
theorem bool_or {QB : Bool → Store → Prop} {a b : BX} (h : Pst (a ρ S) (fun x S => Cs x (QB true S) (Pst (b ρ S) QB E)) E) : Pst (bOr a b ρ S) QB E := by rw [ap_bor]; exact h.mono (fun _ _ h => ⟨h.2, h.1⟩) fun _ _ h => h
theorem bool_not {QB : Bool → Store → Prop} {a : BX} (h : Pst (a ρ S) (fun x S => QB (!x) S) E) : Pst (bNot a ρ S) QB E := by rw [ap_bnot]; exact h
theorem bool_yes {QB : Bool → Store → Prop} (h : QB true S) : Pst (bYes ρ S) QB E := h
end
section
variable {Q : D → Store → Prop} {E : XV → Store → Prop} {S : Store} {ρ : PF.Env}
theorem r_k {d : D} (h : Q d S) : Pst (cK d ρ S) Q E := h
theorem r_bin {o : Op2} {a b : EX} (h : Pst (a ρ S) (fun x S => Pst (b ρ S) (fun y S => Pst (o x y S) Q E) E) E) : Pst (cBin o a b ρ S) Q E := by
  rw [ap_bin, Pst_bind]
  simpa only [Pst_bind] using h
theorem r_un {o : D → Store → Out D} {a : EX} (h : Pst (a ρ S) (fun x S => Pst (o x S) Q E) E) : Pst (cUn o a ρ S) Q E := by rw [ap_un, Pst_bind]; exact h
theorem r_tup {r : AX} (h : Pst (r ρ S) (fun xs S => xs.length ≤ lim ∧ Q (.tup xs) S) E) : Pst (cTup r ρ S) Q E := by
  rw [ap_tup, Pst_bind]
  simpa only [Pst_ite, Pst_ok] using h
theorem r_lst {r : AX} (h : Pst (r ρ S) (fun xs S => xs.length ≤ lim ∧ Q (.lst xs) S) E) : Pst (cLst r ρ S) Q E := by
  rw [ap_lst, Pst_bind]
  simpa only [Pst_ite, Pst_ok] using h
theorem r_blt {o : OpB} {r : AX} (h : Pst (r ρ S) (fun ds S => Pst (o ds S) Q E) E) : Pst (cBlt o r ρ S) Q E := by rw [ap_blt, Pst_bind]; exact h
theorem r_call {n : Nat} {o : OpB} {r : AX} (h : Pst (r ρ S) (fun ds S => ds.length = n ∧ Pst (o ds S) Q E) E) : Pst (cCall n o r ρ S) Q E := by
  rw [ap_call, Pst_bind]
  simpa only [Pst_ite] using h
theorem r_callK {n m : Nat} {g : List D → List D → List D} {o : OpB} {r rk : AX} (h : Pst (r ρ S) (fun ds S => Pst (rk ρ S) (fun es S => (ds.length = n ∧ es.length = m) ∧ Pst (o (g ds es) S) Q E) E) E) : Pst (cCallK n m g o r rk ρ S) Q E := by
  rw [ap_callK, Pst_bind]
  simpa only [Pst_bind, Pst_ite] using h
theorem r_isi {t : Ty} {a : EX} (h : Pst (a ρ S) (fun x S => x.isFn = false ∧ Q (.bl (isTy x t)) S) E) : Pst (cIsi t a ρ S) Q E := by
  rw [ap_isi, Pst_bind]
  simpa only [Pst_ite, Pst_ok] using h
theorem r_lam {l : LamSite} (h : Q (.fn l) S) : Pst (cLam l ρ S) Q E := h
theorem r_back {a : EX} (h : Pst (a ρ S) (fun x S => ∃ xs, asL x S = some xs ∧ Q (.lst xs.reverse) S) E) : Pst (cBack a ρ S) Q E := by
  rw [ap_back, Pst_bind]
  refine h.mono (fun x S h => ?_) fun _ _ h => h
  obtain ⟨xs, e, h⟩ := h
  rw [e]; exact h
theorem r_callV {i n : Nat} {l : LamSite} {o : OpB} {r : AX} (h : ρ[i]? = some (some (.fn l))) (k : Pst (r ρ S) (fun ds S => ds.length = n ∧ Pst (o ds S) Q E) E) : Pst (cCallV i l n o r ρ S) Q E := by
  rw [ap_callV h, Pst_bind]
  simpa only [Pst_ite] using k
theorem r_listR1 {c : EX} (h : Pst (c ρ S) (fun d S => ∃ n, d = .int n ∧ (n ≤ 1000000 ∧ -1000000000 < n) ∧ Q (.lst (ranged 0 n.toNat)) S) E) : Pst (cListR1 c ρ S) Q E := by
  have e : cListR1 c ρ S = bindO (c ρ S) fun d S => match d with
    | .int n => if n ≤ 1000000 ∧ -1000000000 < n then some (.ok (.lst (ranged 0 n.toNat)), S) else none
    | _ => none := rfl
  rw [e, Pst_bind]
  refine h.mono (fun d S h => ?_) fun _ _ h => h
  obtain ⟨n, rfl, c, h⟩ := h
  simp only [c, and_self, if_true, Pst_ok]
  exact h
theorem r_mt {o : OpM} {a : EX} {r : AX} (h : Pst (a ρ S) (fun d S => ∃ n, d = .loc n ∧ Pst (r ρ S) (fun ds S => Pst (o (.loc n) ds S) Q E) E) E) : Pst (cMt o a r ρ S) Q E := by
  rw [ap_mt, Pst_bind]
  refine h.mono (fun d S h => ?_) fun _ _ h => h
  obtain ⟨n, rfl, h⟩ := h
  simpa only [Pst_bind] using h
theorem r_and {a b : EX} (h : Pst (a ρ S) (fun x S => Bl x fun x => Cs x (Pst (b ρ S) Q E) (Q (.bl false) S)) E) : Pst (cAnd a b ρ S) Q E := by
  rw [ap_and]
  exact h
theorem r_or {a b : EX} (h : Pst (a ρ S) (fun x S => Bl x fun x => Cs x (Q (.bl true) S) (Pst (b ρ S) Q E)) E) : Pst (cOr a b ρ S) Q E := by
  rw [ap_or]
  refine h.mono (fun d S h => ?_) fun _ _ h => h
  cases d <;> first | exact h.elim | exact ⟨h.2, h.1⟩
theorem r_not {a : EX} (h : Pst (a ρ S) (fun x S => Bl x fun x => Q (.bl (!x)) S) E) : Pst (cNot a ρ S) Q E := by
  rw [ap_not]
  exact h
theorem r_ife {c : BX} {a b : EX} (h : Pst (c ρ S) (fun x S => Cs x (Pst (a ρ S) Q E) (Pst (b ρ S) Q E)) E) : Pst (cIfE c a b ρ S) Q E := by rw [ap_ife]; exact h
theorem r_chain {o o' : Op2} {a b c : EX} (h : Pst (a ρ S) (fun x S => Pst (b ρ S) (fun y S => Pst (o x y S) (fun z S => Bl z fun z => Cs z (Pst (c ρ S) (fun w S => Pst (o' y w S) Q E) E) (Q (.bl false) S)) E) E) E) : Pst (cChain o o' a b c ρ S) Q E := by
  rw [ap_chain]
  exact h
theorem r_alloc {c : EX} (h : Pst (c ρ S) (fun d S => ∃ ds, d = .lst ds ∧ D.pures ds = true ∧ ∀ m S', m = S.length → S' = S ++ [ds] → S'[m]? = some ds → Q (.loc m) S') E) : Pst (cAlloc c ρ S) Q E := by
  rw [ap_alloc, Pst_bind]
  refine h.mono (fun d S h => ?_) fun _ _ h => h
  obtain ⟨ds, rfl, hp, h⟩ := h
  simp only [hp, if_true, Pst_ok]
  exact h _ _ rfl rfl (by simp)
theorem r_sliceA {a : EX} {lo hi : OX} (h : Pst (a ρ S) (fun x S => Pst (lo ρ S) (fun l S => Pst (hi ρ S) (fun r S => Pst (slA x l r S) Q E) E) E) E) : Pst (cSliceA a lo hi ρ S) Q E := by
  have e : cSliceA a lo hi ρ S = bindO (a ρ S) fun x S => bindO (lo ρ S) fun l S => bindO (hi ρ S) fun r S => slA x l r S := rfl
  rw [e]
  simpa only [Pst_bind] using h
theorem r_sliceL {a : EX} {lo hi : OX} (h : Pst (a ρ S) (fun x S => Pst (lo ρ S) (fun l S => Pst (hi ρ S) (fun r S => Pst (slL x l r S) Q E) E) E) E) : Pst (cSliceL a lo hi ρ S) Q E := by
  have e : cSliceL a lo hi ρ S = bindO (a ρ S) fun x S => bindO (lo ρ S) fun l S => bindO (hi ρ S) fun r S => slL x l r S := rfl
  rw [e]
  simpa only [Pst_bind] using h
theorem r_no {Q : Option Int → Store → Prop} (h : Q none S) : Pst (cNo ρ S) Q E := h
theorem r_part {Q : Option Int → Store → Prop} {c : EX} (h : Pst (c ρ S) (fun d S => ∃ i, d = .int i ∧ Q (some i) S) E) : Pst (cPart c ρ S) Q E := by
  rw [ap_part, Pst_bind]
  refine h.mono (fun d S h => ?_) fun _ _ h => h
  obtain ⟨i, rfl, h⟩ := h
  exact h
theorem r_scope {c : EX} (h : Pst (c ρ S) (fun d S1 => d.pure = true ∧ Q d (S1.take S.length)) NoE) : Pst (cScope c ρ S) Q E := by
  unfold cScope
  match hc : c ρ S with
  | none => rw [hc] at h; exact h.elim
  | some (.error x, S1) => rw [hc] at h; exact h.elim
  | some (.ok d, S1) =>
    rw [hc] at h
    simp only [Pst_ok] at h
    simp only [h.1, if_true, Pst_ok]
    exact h.2
end
theorem cs_pick {b : Bool} {x y : D} {c1 c2 : EX} {ρ : PF.Env} {S : Store} {Q : D → Store → Prop} {E : XV → Store → Prop} (P : D → Prop) (e1 : c1 ρ S = some (.ok x, S)) (e2 : c2 ρ S = some (.ok y, S)) (hp : P (if b = true then x else y)) (k : ∀ z, P z → Q z S) : Cs b (Pst (c1 ρ S) Q E) (Pst (c2 ρ S) Q E) := by
  rw [e1, e2]
  cases b with
  | true => exact cs_t (k _ hp)
  | false => exact cs_f (k _ hp)
/-! ### statements -/
section
variable {Q : Fl → Store → Prop} {E : XV → Store → Prop} {S : Store} {ρ : PF.Env}
def Nx (fl : Fl) (S : Store) (Q : Fl → Store → Prop) (k : PF.Env → Prop) : Prop := match fl with
  | .nx ρ => k ρ
  | fl => Q fl S
theorem nx_nx {k : PF.Env → Prop} (h : k ρ) : Nx (.nx ρ) S Q k := h
theorem nx_ret {k : PF.Env → Prop} {d : D} (h : Q (.ret d) S) : Nx (.ret d) S Q k := h
theorem nx_exc {k : PF.Env → Prop} {x : XV} (h : Q (.exc x ρ) S) : Nx (.exc x ρ) S Q k := h
theorem nx_brk {k : PF.Env → Prop} (h : Q (.brk ρ) S) : Nx (.brk ρ) S Q k := h
theorem nx_ct {k : PF.Env → Prop} (h : Q (.ct ρ) S) : Nx (.ct ρ) S Q k := h
theorem s_nil (h : Q (.nx ρ) S) : Pst (sNil ρ S) Q E := h
theorem s_brk (h : Q (.brk ρ) S) : Pst (sBrk ρ S) Q E := h
theorem s_ct (h : Q (.ct ρ) S) : Pst (sCt ρ S) Q E := h
theorem s_seq {a b : SX} (h : Pst (a ρ S) (fun fl S => Nx fl S Q fun ρ' => Pst (b ρ' S) Q E) E) : Pst (sSeq a b ρ S) Q E := by rw [st_seq]; exact h
theorem s_if {c : BX} {a b : SX} (h : Pst (c ρ S) (fun x S => Cs x (Pst (a ρ S) Q E) (Pst (b ρ S) Q E)) (fun x S => Q (.exc x ρ) S)) : Pst (sIf c a b ρ S) Q E := by rw [st_if]; exact h
theorem s_ret {c : EX} (h : Pst (c ρ S) (fun d S => Q (.ret d) S) (fun x S => Q (.exc x ρ) S)) : Pst (sRet c ρ S) Q E := by rw [st_ret, Pst_stm]; exact h
theorem s_retL {c : EX} (h : Pst (c ρ S) (fun d S => ∃ n, d = .loc n ∧ Q (.ret (.loc n)) S) (fun x S => Q (.exc x ρ) S)) : Pst (sRetL c ρ S) Q E := by
  rw [st_retL, Pst_stm]
  refine h.mono (fun d S h => ?_) fun _ _ h => h
  obtain ⟨n, rfl, h⟩ := h
  exact h
theorem s_expr {c : EX} (h : Pst (c ρ S) (fun _ S => Q (.nx ρ) S) (fun x S => Q (.exc x ρ) S)) : Pst (sExpr c ρ S) Q E := by rw [st_expr, Pst_stm]; exact h
theorem s_set {i : Nat} {c : EX} (h : Pst (c ρ S) (fun d S => Q (.nx (ρ.set i (some d))) S) (fun x S => Q (.exc x ρ) S)) : Pst (sSet i c ρ S) Q E := by rw [st_set, Pst_stm]; exact h
theorem s_asg {t : TX} {c : EX} (h : Pst (c ρ S) (fun d S => Pst (t d ρ S) (fun ρ' S => Q (.nx ρ') S) NoE) (fun x S => Q (.exc x ρ) S)) : Pst (sAsg t c ρ S) Q E := by
  rw [st_asg, Pst_stm]
  simpa only [Pst_bind, Pst_noX, Pst_ok] using h
theorem s_par {i j : Nat} {r : AX} (h : Pst (r ρ S) (fun ds S => ∃ x y, ds = [x, y] ∧ Pst (tName i x ρ S) (fun ρ1 S => Pst (tName j y ρ1 S) (fun ρ2 S => Q (.nx ρ2) S) NoE) NoE) (fun x S => Q (.exc x ρ) S)) : Pst (sPar i j r ρ S) Q E := by
  rw [st_par, Pst_stm]
  refine h.mono (fun d S h => ?_) fun _ _ h => h
  obtain ⟨x, y, rfl, h⟩ := h
  exact h
theorem s_for {src : IX} {t : TX} {b : SX} (h : Pst (src ρ S) (fun src S => ∃ ds, srcAt src S = some ds ∧ Pst (forGo src t b ds.length 0 ρ S) Q E) (fun x S => Q (.exc x ρ) S)) : Pst (sFor src t b ρ S) Q E := by
  rw [st_for]
  refine h.mono (fun d S h => ?_) fun _ _ h => h
  obtain ⟨ds, e, h⟩ := h
  rw [e]
  exact h
theorem t_name {Q : PF.Env → Store → Prop} {i : Nat} {d : D} (h : Q (ρ.set i (some d)) S) : Pst (tName i d ρ S) Q E := h
theorem t_tup {Q : PF.Env → Store → Prop} {n : Nat} {c : TXs} {ds : List D} (e : ds.length = n) (h : Pst (c ds ρ S) Q E) : Pst (tTup n c (.tup ds) ρ S) Q E := by rw [tg_tup, if_pos e]; exact h
theorem t_nil {Q : PF.Env → Store → Prop} (h : Q ρ S) : Pst (tsNil [] ρ S) Q E := h
theorem t_cons {Q : PF.Env → Store → Prop} {t : TX} {r : TXs} {d : D} {ds : List D} (h : Pst (t d ρ S) (fun ρ1 S => Pst (r ds ρ1 S) Q E) E) : Pst (tsCons t r (d :: ds) ρ S) Q E := by rw [tg_cons, Pst_bind]; exact h
/-- a place of a list of the store is written -/
def Put (S : Store) (n : Nat) (k : Int) (d : D) (Q : Store → Prop) : Prop := ∃ ds j, S[n]? = some ds ∧ ixN ds.length k = some j ∧ d.pure = true ∧ Q (S.set n (ds.set j d))
theorem t_sub {Q : PF.Env → Store → Prop} {a b : EX} {d : D} (h : Pst (a ρ S) (fun o S => Pst (b ρ S) (fun i S => ∃ n k, o = .loc n ∧ i = .int k ∧ Put S n k d fun S' => Q ρ S') NoE) NoE) : Pst (tSub a b d ρ S) Q E := by
  rw [tg_sub, Pst_bind, Pst_noX]
  refine h.mono (fun o S h => ?_) fun _ _ h => h.elim
  rw [Pst_bind, Pst_noX]
  refine h.mono (fun i S h => ?_) fun _ _ h => h.elim
  obtain ⟨n, k, rfl, rfl, ds, j, e1, e2, e3, h⟩ := h
  simp only [e1, e2, e3, if_true, Pst_ok]
  exact h
theorem put0 {n : Nat} {d a b c : D} {Q : Store → Prop} (e : S[n]? = some [a, b, c]) (p : d.pure = true) (h : (S.set n [d, b, c])[n]? = some [d, b, c] → Q (S.set n [d, b, c])) : Put S n 0 d Q := ⟨_, 0, e, rfl, p, h (set_get _ e)⟩
theorem put1 {n : Nat} {d a b c : D} {Q : Store → Prop} (e : S[n]? = some [a, b, c]) (p : d.pure = true) (h : (S.set n [a, d, c])[n]? = some [a, d, c] → Q (S.set n [a, d, c])) : Put S n 1 d Q := ⟨_, 1, e, rfl, p, h (set_get _ e)⟩
theorem put2 {n : Nat} {d a b c : D} {Q : Store → Prop} (e : S[n]? = some [a, b, c]) (p : d.pure = true) (h : (S.set n [a, b, d])[n]? = some [a, b, d] → Q (S.set n [a, b, d])) : Put S n 2 d Q := ⟨_, 2, e, rfl, p, h (set_get _ e)⟩
theorem q_seq {Q : Src → Store → Prop} {c : EX} (h : Pst (c ρ S) (fun d S => ∃ src, srcOfA d = some src ∧ Q src S) E) : Pst (cSeqA c ρ S) Q E := by
  rw [sq_tup, Pst_bind]
  refine h.mono (fun d S h => ?_) fun _ _ h => h
  obtain ⟨src, e, h⟩ := h
  rw [e]
  exact h
theorem q_range {Q : Src → Store → Prop} {c : AX} (h : Pst (c ρ S) (fun ds S => ∃ n, ds = [.int n] ∧ (n < 1000000000 ∧ -1000000000 < n) ∧ Q (.items (ranged 0 n.toNat)) S) E) : Pst (cRange1 c ρ S) Q E := by
  rw [sq_range, Pst_bind]
  refine h.mono (fun d S h => ?_) fun _ _ h => h
  obtain ⟨n, rfl, e, h⟩ := h
  simp only [e, and_self, if_true, Pst_ok]
  exact h
theorem q_range2 {Q : Src → Store → Prop} {c : AX} (h : Pst (c ρ S) (fun ds S => ∃ m n, ds = [.int m, .int n] ∧ ((n < 1000000000 ∧ -1000000000 < n) ∧ (m < 1000000000 ∧ -1000000000 < m)) ∧ Q (.items (ranged m (n - m).toNat)) S) E) : Pst (cRange2 c ρ S) Q E := by
  rw [sq_range2, Pst_bind]
  refine h.mono (fun d S h => ?_) fun _ _ h => h
  obtain ⟨m, n, rfl, e, h⟩ := h
  simp only [e, and_self, if_true, Pst_ok]
  exact h
theorem q_rangeD {Q : Src → Store → Prop} {c : AX} (h : Pst (c ρ S) (fun ds S => ∃ i j, ds = [.int i, .int j, .int (-1)] ∧ ((i < 1000000000 ∧ -1000000000 < i) ∧ (j < 1000000000 ∧ -1000000000 < j)) ∧ Q (.items (stepped i (-1) (i - j).toNat)) S) E) : Pst (cRangeD c ρ S) Q E := by
  unfold cRangeD
  rw [Pst_bind]
  refine h.mono (fun d S h => ?_) fun _ _ h => h
  obtain ⟨m, n, rfl, e, h⟩ := h
  simp only [e, and_self, if_true, Pst_ok]
  exact h
theorem q_enumA {Q : Src → Store → Prop} {c : AX} (h : Pst (c ρ S) (fun ds S => ∃ d src, ds = [d] ∧ srcOf d = some src ∧ Q (.enum src) S) E) : Pst (cEnumA c ρ S) Q E := by
  unfold cEnumA
  rw [Pst_bind]
  refine h.mono (fun d S h => ?_) fun _ _ h => h
  obtain ⟨x, src, rfl, e, h⟩ := h
  simp only [e]
  exact h
end
/-! ### operators -/
section
variable {Q : D → Store → Prop} {E : XV → Store → Prop} {S : Store} {i j : Int}
theorem o1_sub (h : Q (.int (i - j)) S) : Pst (oSub (.int i) (.int j) S) Q E := h
theorem o1_add (h : Q (.int (i + j)) S) : Pst (oAddA (.int i) (.int j) S) Q E := h
theorem o1_mul (c : (-18446744073709551616 < i ∧ i < 18446744073709551616) ∨ (-18446744073709551616 < j ∧ j < 18446744073709551616)) (h : Q (.int (i * j)) S) : Pst (oMul (.int i) (.int j) S) Q E := by
  rw [o_mul, Pst_ite]
  exact ⟨by omega, h⟩
theorem o1_div (c : 0 < j ∧ j < 1073741824) (h : Q (.int (i / j)) S) : Pst (oDiv (.int i) (.int j) S) Q E := by
  rw [o_div, Pst_ite]
  exact ⟨by omega, by rw [Int.fdiv_eq_ediv_of_nonneg _ (by omega)]; exact h⟩
theorem o1_mod (c : 0 < j) (h : Q (.int (i % j)) S) : Pst (oMod (.int i) (.int j) S) Q E := by
  rw [o_mod, Pst_ite]
  exact ⟨by omega, by rw [Int.fmod_eq_emod_of_nonneg _ (by omega)]; exact h⟩
theorem o1_lt (h : Q (.bl (decide (i < j))) S) : Pst (oLtA (.int i) (.int j) S) Q E := h
theorem o1_le (h : Q (.bl (decide (i ≤ j))) S) : Pst (oLe (.int i) (.int j) S) Q E := h
theorem o1_gt (h : Q (.bl (decide (j < i))) S) : Pst (oGt (.int i) (.int j) S) Q E := h
theorem o1_ge (h : Q (.bl (decide (j ≤ i))) S) : Pst (oGe (.int i) (.int j) S) Q E := h
theorem o1_neg (h : Q (.int (-i)) S) : Pst (oNeg (.int i) S) Q E := h
theorem o1_eq (h : Q (.bl (i == j)) S) : Pst (oEq (.int i) (.int j) S) Q E := by rw [o_eq]; exact h
theorem o1_ne (h : Q (.bl (!(i == j))) S) : Pst (oNe (.int i) (.int j) S) Q E := by rw [o_ne]; exact h
def D.isN : D → Bool
  | .non => true
  | _ => false
theorem o1_eqA (h : Q (.bl (i == j)) S) : Pst (oEqA (.int i) (.int j) S) Q E := by unfold oEqA oEqS; rw [o_eq]; exact h
theorem o1_neA (h : Q (.bl (!(i == j))) S) : Pst (oNeA (.int i) (.int j) S) Q E := by unfold oNeA oNeS; rw [o_ne]; exact h
theorem o1_eqS {a b : Str} (h : Q (.bl (a == b)) S) : Pst (oEqA (.str a) (.str b) S) Q E := h
theorem o1_isN {x : D} (h : Q (.bl x.isN) S) : Pst (oIsN x .non S) Q E := by cases x <;> exact h
theorem o1_notN {x : D} (h : Q (.bl (!x.isN)) S) : Pst (oNotN x .non S) Q E := by cases x <;> exact h
theorem o1_addT {xs ys : List D} (h : xs.length + ys.length ≤ lim ∧ Q (.tup (xs ++ ys)) S) : Pst (oAddA (.tup xs) (.tup ys) S) Q E := by
  rw [o_addT, Pst_ite]
  exact h
theorem o1_addL {xs ys : List D} (h : xs.length + ys.length ≤ lim ∧ Q (.lst (xs ++ ys)) S) : Pst (oAddA (.lst xs) (.lst ys) S) Q E := by
  rw [o_addL, Pst_ite]
  exact h
theorem o1_ix {x : D} (h : ∃ ds d, asS x S = some ds ∧ atI ds i = some d ∧ Q d S) : Pst (oIx x (.int i) S) Q E := by
  obtain ⟨ds, d, e, e2, h⟩ := h
  unfold oIx
  cases x <;> first | (cases e; done) | skip
  all_goals simp only [e, e2]
  all_goals exact h
theorem b1_len {x : D} (h : ∃ ds, asS x S = some ds ∧ Q (.int ds.length) S) : Pst (bLen [x] S) Q E := by
  obtain ⟨ds, e, h⟩ := h
  unfold bLen
  cases x <;> first | (cases e; done) | skip
  all_goals simp only [e]
  all_goals exact h
theorem o1_cat {x y : D} (h : ∃ xs ys, asM x S = some xs ∧ asM y S = some ys ∧ xs.length + ys.length ≤ lim ∧ Q (.lst (xs ++ ys)) S) : Pst (oCat x y S) Q E := by
  obtain ⟨xs, ys, e1, e2, c, h⟩ := h
  simp only [oCat, e1, e2, c, if_true]; exact h
theorem b1_abs (h : Q (.int (if i < 0 then -i else i)) S) : Pst (bAbs [.int i] S) Q E := h
theorem b1_int (h : Q (.int i) S) : Pst (bInt [.int i] S) Q E := h
theorem b1_min2 (h : Q (.int (min i j)) S) : Pst (bMin2 [.int i, .int j] S) Q E := by
  rw [b_min2]
  have e : (if j < i then j else i) = min i j := by split <;> omega
  rw [e]; exact h
theorem b1_max2 (h : Q (.int (max i j)) S) : Pst (bMax2 [.int i, .int j] S) Q E := by
  rw [b_max2]
  have e : (if i < j then j else i) = max i j := by split <;> omega
  rw [e]; exact h
theorem b1_divmod (c : 0 < j ∧ j < 1073741824) (h : Q (.tup [.int (i / j), .int (i % j)]) S) : Pst (bDivmod [.int i, .int j] S) Q E := by
  rw [b_divmod, Pst_ite]
  exact ⟨c, h⟩
theorem b1_tuple {x : D} (h : ∃ ds, asS x S = some ds ∧ Q (.tup ds) S) : Pst (bTuple [x] S) Q E := by
  obtain ⟨ds, e, h⟩ := h
  simp only [bTuple, e]; exact h
theorem b1_list {x : D} (h : ∃ ds, asS x S = some ds ∧ Q (.lst ds) S) : Pst (bList [x] S) Q E := by
  obtain ⟨ds, e, h⟩ := h
  simp only [bList, e]; exact h
theorem b1_sorted {ns : List Int} (h : Q (.lst ((sortI ns).map D.int)) S) : Pst (bSorted [.lst (ns.map D.int)] S) Q E := by rw [b_sorted]; exact h
theorem b1_max1 {ns : List Int} {m : Int} (e : ns.max? = some m) (h : Q (.int m) S) : Pst (bMax [.lst (ns.map D.int)] S) Q E := by
  have e2 : bMax [.lst (ns.map D.int)] S = some (.ok (.int m), S) := by simp [bMax, bL1, asL, intsOf_map, e]
  rw [e2]; exact h
theorem b1_sum {ns : List Int} (h : Q (.int ns.sum) S) : Pst (bSum [.lst (ns.map D.int)] S) Q E := by rw [b_sum]; exact h
theorem m1_append {n : Nat} {x : D} (h : ∃ xs, S[n]? = some xs ∧ (x.pure = true ∧ xs.length < lim) ∧ ((S.set n (xs ++ [x]))[n]? = some (xs ++ [x]) → Q .non (S.set n (xs ++ [x])))) : Pst (mAppend (.loc n) [x] S) Q E := by
  obtain ⟨xs, e, c, h⟩ := h
  rw [m_append]
  simp only [e, c, and_self, if_true]; exact h (set_get _ e)
end
section
variable {Q : D → Store → Prop} {E : XV → Store → Prop} {S : Store} {ρ : PF.Env}
theorem x_bl {fr : Bool} {n : Nat} {b : Bool} (h : Q (.bl b) (S.take n)) : Pst (exitF fr n (some (.ok (.ret (.bl b)), S))) Q E := h
theorem x_int {fr : Bool} {n : Nat} {b : Int} (h : Q (.int b) (S.take n)) : Pst (exitF fr n (some (.ok (.ret (.int b)), S))) Q E := h
theorem x_str {fr : Bool} {n : Nat} {b : Str} (h : Q (.str b) (S.take n)) : Pst (exitF fr n (some (.ok (.ret (.str b)), S))) Q E := h
theorem x_non {fr : Bool} {n : Nat} (h : Q .non (S.take n)) : Pst (exitF fr n (some (.ok (.ret .non), S))) Q E := h
theorem x_nx {n : Nat} (h : Q .non (S.take n)) : Pst (exitF false n (some (.ok (.nx ρ), S))) Q E := h
theorem x_tup {fr : Bool} {n : Nat} {ds : List D} (h : D.pures ds = true ∧ Q (.tup ds) (S.take n)) : Pst (exitF fr n (some (.ok (.ret (.tup ds)), S))) Q E := by
  rw [exit_tup, Pst_ite]; exact h
theorem x_lst {fr : Bool} {n : Nat} {ds : List D} (h : D.pures ds = true ∧ Q (.lst ds) (S.take n)) : Pst (exitF fr n (some (.ok (.ret (.lst ds)), S))) Q E := by
  rw [exit_lst, Pst_ite]; exact h
theorem sl_tup {xs : List D} {l r : Option Int} (h : Q (.tup (cutL xs l r)) S) : Pst (slA (.tup xs) l r S) Q E := h
theorem sl_lst {xs : List D} {l r : Option Int} (h : Q (.lst (cutL xs l r)) S) : Pst (slA (.lst xs) l r S) Q E := h
theorem sl_fz {xs : List D} {l r : Option Int} (h : Q (.lst (cutL xs l r)) S) : Pst (slA (.fz xs) l r S) Q E := h
theorem sL_lst {xs : List D} {l r : Option Int} (h : Q (.lst (cutL xs l r)) S) : Pst (slL (.lst xs) l r S) Q E := h
theorem sL_fz {xs : List D} {l r : Option Int} (h : Q (.lst (cutL xs l r)) S) : Pst (slL (.fz xs) l r S) Q E := h

theorem o_pow10_1 (h : Q (.int 10) S) : Pst (oPow (.int 10) (.int 1) S) Q E := by rw [o_pow, Pst_ite]; exact ⟨by decide, h⟩
theorem o_pow10_2 (h : Q (.int 100) S) : Pst (oPow (.int 10) (.int 2) S) Q E := by rw [o_pow, Pst_ite]; exact ⟨by decide, h⟩
theorem o_pow10_3 (h : Q (.int 1000) S) : Pst (oPow (.int 10) (.int 3) S) Q E := by rw [o_pow, Pst_ite]; exact ⟨by decide, h⟩
theorem o_pow10_4 (h : Q (.int 10000) S) : Pst (oPow (.int 10) (.int 4) S) Q E := by rw [o_pow, Pst_ite]; exact ⟨by decide, h⟩
theorem o_pow10_5 (h : Q (.int 100000) S) : Pst (oPow (.int 10) (.int 5) S) Q E := by rw [o_pow, Pst_ite]; exact ⟨by decide, h⟩
theorem o_pow10_6 (h : Q (.int 1000000) S) : Pst (oPow (.int 10) (.int 6) S) Q E := by rw [o_pow, Pst_ite]; exact ⟨by decide, h⟩
theorem o_pow10_7 (h : Q (.int 10000000) S) : Pst (oPow (.int 10) (.int 7) S) Q E := by rw [o_pow, Pst_ite]; exact ⟨by decide, h⟩
theorem o_pow10_8 (h : Q (.int 100000000) S) : Pst (oPow (.int 10) (.int 8) S) Q E := by rw [o_pow, Pst_ite]; exact ⟨by decide, h⟩
theorem o_pow10_9 (h : Q (.int 1000000000) S) : Pst (oPow (.int 10) (.int 9) S) Q E := by rw [o_pow, Pst_ite]; exact ⟨by decide, h⟩
theorem o_pow10_10 (h : Q (.int 10000000000) S) : Pst (oPow (.int 10) (.int 10) S) Q E := by rw [o_pow, Pst_ite]; exact ⟨by decide, h⟩
theorem o_pow10_11 (h : Q (.int 100000000000) S) : Pst (oPow (.int 10) (.int 11) S) Q E := by rw [o_pow, Pst_ite]; exact ⟨by decide, h⟩
theorem o_pow10_12 (h : Q (.int 1000000000000) S) : Pst (oPow (.int 10) (.int 12) S) Q E := by rw [o_pow, Pst_ite]; exact ⟨by decide, h⟩
theorem o_pow10_13 (h : Q (.int 10000000000000) S) : Pst (oPow (.int 10) (.int 13) S) Q E := by rw [o_pow, Pst_ite]; exact ⟨by decide, h⟩
theorem o_pow10_14 (h : Q (.int 100000000000000) S) : Pst (oPow (.int 10) (.int 14) S) Q E := by rw [o_pow, Pst_ite]; exact ⟨by decide, h⟩
theorem o_pow10_15 (h : Q (.int 1000000000000000) S) : Pst (oPow (.int 10) (.int 15) S) Q E := by rw [o_pow, Pst_ite]; exact ⟨by decide, h⟩
theorem o_pow10_16 (h : Q (.int 10000000000000000) S) : Pst (oPow (.int 10) (.int 16) S) Q E := by rw [o_pow, Pst_ite]; exact ⟨by decide, h⟩
theorem o_pow10_17 (h : Q (.int 100000000000000000) S) : Pst (oPow (.int 10) (.int 17) S) Q E := by rw [o_pow, Pst_ite]; exact ⟨by decide, h⟩
theorem o_pow10_18 (h : Q (.int 1000000000000000000) S) : Pst (oPow (.int 10) (.int 18) S) Q E := by rw [o_pow, Pst_ite]; exact ⟨by decide, h⟩
theorem o_pow10_20 (h : Q (.int 100000000000000000000) S) : Pst (oPow (.int 10) (.int 20) S) Q E := by rw [o_pow, Pst_ite]; exact ⟨by decide, h⟩
theorem o_pow10_30 (h : Q (.int 1000000000000000000000000000000) S) : Pst (oPow (.int 10) (.int 30) S) Q E := by rw [o_pow, Pst_ite]; exact ⟨by decide, h⟩
theorem v0  {d : D} (h : Q d S) : Pst (cVar 0 (some d :: ρ) S) Q E := h
theorem v1 {x0 : Option D} {d : D} (h : Q d S) : Pst (cVar 1 (x0 :: some d :: ρ) S) Q E := h
theorem v2 {x0 : Option D} {x1 : Option D} {d : D} (h : Q d S) : Pst (cVar 2 (x0 :: x1 :: some d :: ρ) S) Q E := h
theorem v3 {x0 : Option D} {x1 : Option D} {x2 : Option D} {d : D} (h : Q d S) : Pst (cVar 3 (x0 :: x1 :: x2 :: some d :: ρ) S) Q E := h
theorem v4 {x0 : Option D} {x1 : Option D} {x2 : Option D} {x3 : Option D} {d : D} (h : Q d S) : Pst (cVar 4 (x0 :: x1 :: x2 :: x3 :: some d :: ρ) S) Q E := h
theorem v5 {x0 : Option D} {x1 : Option D} {x2 : Option D} {x3 : Option D} {x4 : Option D} {d : D} (h : Q d S) : Pst (cVar 5 (x0 :: x1 :: x2 :: x3 :: x4 :: some d :: ρ) S) Q E := h
theorem v6 {x0 : Option D} {x1 : Option D} {x2 : Option D} {x3 : Option D} {x4 : Option D} {x5 : Option D} {d : D} (h : Q d S) : Pst (cVar 6 (x0 :: x1 :: x2 :: x3 :: x4 :: x5 :: some d :: ρ) S) Q E := h
theorem v7 {x0 : Option D} {x1 : Option D} {x2 : Option D} {x3 : Option D} {x4 : Option D} {x5 : Option D} {x6 : Option D} {d : D} (h : Q d S) : Pst (cVar 7 (x0 :: x1 :: x2 :: x3 :: x4 :: x5 :: x6 :: some d :: ρ) S) Q E := h
theorem v8 {x0 : Option D} {x1 : Option D} {x2 : Option D} {x3 : Option D} {x4 : Option D} {x5 : Option D} {x6 : Option D} {x7 : Option D} {d : D} (h : Q d S) : Pst (cVar 8 (x0 :: x1 :: x2 :: x3 :: x4 :: x5 :: x6 :: x7 :: some d :: ρ) S) Q E := h
theorem v9 {x0 : Option D} {x1 : Option D} {x2 : Option D} {x3 : Option D} {x4 : Option D} {x5 : Option D} {x6 : Option D} {x7 : Option D} {x8 : Option D} {d : D} (h : Q d S) : Pst (cVar 9 (x0 :: x1 :: x2 :: x3 :: x4 :: x5 :: x6 :: x7 :: x8 :: some d :: ρ) S) Q E := h
theorem v10 {x0 : Option D} {x1 : Option D} {x2 : Option D} {x3 : Option D} {x4 : Option D} {x5 : Option D} {x6 : Option D} {x7 : Option D} {x8 : Option D} {x9 : Option D} {d : D} (h : Q d S) : Pst (cVar 10 (x0 :: x1 :: x2 :: x3 :: x4 :: x5 :: x6 :: x7 :: x8 :: x9 :: some d :: ρ) S) Q E := h
theorem v11 {x0 : Option D} {x1 : Option D} {x2 : Option D} {x3 : Option D} {x4 : Option D} {x5 : Option D} {x6 : Option D} {x7 : Option D} {x8 : Option D} {x9 : Option D} {x10 : Option D} {d : D} (h : Q d S) : Pst (cVar 11 (x0 :: x1 :: x2 :: x3 :: x4 :: x5 :: x6 :: x7 :: x8 :: x9 :: x10 :: some d :: ρ) S) Q E := h
theorem v12 {x0 : Option D} {x1 : Option D} {x2 : Option D} {x3 : Option D} {x4 : Option D} {x5 : Option D} {x6 : Option D} {x7 : Option D} {x8 : Option D} {x9 : Option D} {x10 : Option D} {x11 : Option D} {d : D} (h : Q d S) : Pst (cVar 12 (x0 :: x1 :: x2 :: x3 :: x4 :: x5 :: x6 :: x7 :: x8 :: x9 :: x10 :: x11 :: some d :: ρ) S) Q E := h
theorem v13 {x0 : Option D} {x1 : Option D} {x2 : Option D} {x3 : Option D} {x4 : Option D} {x5 : Option D} {x6 : Option D} {x7 : Option D} {x8 : Option D} {x9 : Option D} {x10 : Option D} {x11 : Option D} {x12 : Option D} {d : D} (h : Q d S) : Pst (cVar 13 (x0 :: x1 :: x2 :: x3 :: x4 :: x5 :: x6 :: x7 :: x8 :: x9 :: x10 :: x11 :: x12 :: some d :: ρ) S) Q E := h
theorem tn0 {Q : PF.Env → Store → Prop} {x0 : Option D} {d : D} (h : Q (some d :: ρ) S) : Pst (tName 0 d (x0 :: ρ) S) Q E := h
theorem ss0 {Q : Fl → Store → Prop} {x0 : Option D} {c : EX} (h : Pst (c (x0 :: ρ) S) (fun d S => Q (.nx (some d :: ρ)) S) (fun x S => Q (.exc x (x0 :: ρ)) S)) : Pst (sSet 0 c (x0 :: ρ) S) Q E := s_set h
theorem tn1 {Q : PF.Env → Store → Prop} {x0 : Option D} {x1 : Option D} {d : D} (h : Q (x0 :: some d :: ρ) S) : Pst (tName 1 d (x0 :: x1 :: ρ) S) Q E := h
theorem ss1 {Q : Fl → Store → Prop} {x0 : Option D} {x1 : Option D} {c : EX} (h : Pst (c (x0 :: x1 :: ρ) S) (fun d S => Q (.nx (x0 :: some d :: ρ)) S) (fun x S => Q (.exc x (x0 :: x1 :: ρ)) S)) : Pst (sSet 1 c (x0 :: x1 :: ρ) S) Q E := s_set h
theorem tn2 {Q : PF.Env → Store → Prop} {x0 : Option D} {x1 : Option D} {x2 : Option D} {d : D} (h : Q (x0 :: x1 :: some d :: ρ) S) : Pst (tName 2 d (x0 :: x1 :: x2 :: ρ) S) Q E := h
theorem ss2 {Q : Fl → Store → Prop} {x0 : Option D} {x1 : Option D} {x2 : Option D} {c : EX} (h : Pst (c (x0 :: x1 :: x2 :: ρ) S) (fun d S => Q (.nx (x0 :: x1 :: some d :: ρ)) S) (fun x S => Q (.exc x (x0 :: x1 :: x2 :: ρ)) S)) : Pst (sSet 2 c (x0 :: x1 :: x2 :: ρ) S) Q E := s_set h
theorem tn3 {Q : PF.Env → Store → Prop} {x0 : Option D} {x1 : Option D} {x2 : Option D} {x3 : Option D} {d : D} (h : Q (x0 :: x1 :: x2 :: some d :: ρ) S) : Pst (tName 3 d (x0 :: x1 :: x2 :: x3 :: ρ) S) Q E := h
theorem ss3 {Q : Fl → Store → Prop} {x0 : Option D} {x1 : Option D} {x2 : Option D} {x3 : Option D} {c : EX} (h : Pst (c (x0 :: x1 :: x2 :: x3 :: ρ) S) (fun d S => Q (.nx (x0 :: x1 :: x2 :: some d :: ρ)) S) (fun x S => Q (.exc x (x0 :: x1 :: x2 :: x3 :: ρ)) S)) : Pst (sSet 3 c (x0 :: x1 :: x2 :: x3 :: ρ) S) Q E := s_set h
theorem tn4 {Q : PF.Env → Store → Prop} {x0 : Option D} {x1 : Option D} {x2 : Option D} {x3 : Option D} {x4 : Option D} {d : D} (h : Q (x0 :: x1 :: x2 :: x3 :: some d :: ρ) S) : Pst (tName 4 d (x0 :: x1 :: x2 :: x3 :: x4 :: ρ) S) Q E := h
theorem ss4 {Q : Fl → Store → Prop} {x0 : Option D} {x1 : Option D} {x2 : Option D} {x3 : Option D} {x4 : Option D} {c : EX} (h : Pst (c (x0 :: x1 :: x2 :: x3 :: x4 :: ρ) S) (fun d S => Q (.nx (x0 :: x1 :: x2 :: x3 :: some d :: ρ)) S) (fun x S => Q (.exc x (x0 :: x1 :: x2 :: x3 :: x4 :: ρ)) S)) : Pst (sSet 4 c (x0 :: x1 :: x2 :: x3 :: x4 :: ρ) S) Q E := s_set h
theorem tn5 {Q : PF.Env → Store → Prop} {x0 : Option D} {x1 : Option D} {x2 : Option D} {x3 : Option D} {x4 : Option D} {x5 : Option D} {d : D} (h : Q (x0 :: x1 :: x2 :: x3 :: x4 :: some d :: ρ) S) : Pst (tName 5 d (x0 :: x1 :: x2 :: x3 :: x4 :: x5 :: ρ) S) Q E := h
theorem ss5 {Q : Fl → Store → Prop} {x0 : Option D} {x1 : Option D} {x2 : Option D} {x3 : Option D} {x4 : Option D} {x5 : Option D} {c : EX} (h : Pst (c (x0 :: x1 :: x2 :: x3 :: x4 :: x5 :: ρ) S) (fun d S => Q (.nx (x0 :: x1 :: x2 :: x3 :: x4 :: some d :: ρ)) S) (fun x S => Q (.exc x (x0 :: x1 :: x2 :: x3 :: x4 :: x5 :: ρ)) S)) : Pst (sSet 5 c (x0 :: x1 :: x2 :: x3 :: x4 :: x5 :: ρ) S) Q E := s_set h
theorem tn6 {Q : PF.Env → Store → Prop} {x0 : Option D} {x1 : Option D} {x2 : Option D} {x3 : Option D} {x4 : Option D} {x5 : Option D} {x6 : Option D} {d : D} (h : Q (x0 :: x1 :: x2 :: x3 :: x4 :: x5 :: some d :: ρ) S) : Pst (tName 6 d (x0 :: x1 :: x2 :: x3 :: x4 :: x5 :: x6 :: ρ) S) Q E := h
theorem ss6 {Q : Fl → Store → Prop} {x0 : Option D} {x1 : Option D} {x2 : Option D} {x3 : Option D} {x4 : Option D} {x5 : Option D} {x6 : Option D} {c : EX} (h : Pst (c (x0 :: x1 :: x2 :: x3 :: x4 :: x5 :: x6 :: ρ) S) (fun d S => Q (.nx (x0 :: x1 :: x2 :: x3 :: x4 :: x5 :: some d :: ρ)) S) (fun x S => Q (.exc x (x0 :: x1 :: x2 :: x3 :: x4 :: x5 :: x6 :: ρ)) S)) : Pst (sSet 6 c (x0 :: x1 :: x2 :: x3 :: x4 :: x5 :: x6 :: ρ) S) Q E := s_set h
theorem tn7 {Q : PF.Env → Store → Prop} {x0 : Option D} {x1 : Option D} {x2 : Option D} {x3 : Option D} {x4 : Option D} {x5 : Option D} {x6 : Option D} {x7 : Option D} {d : D} (h : Q (x0 :: x1 :: x2 :: x3 :: x4 :: x5 :: x6 :: some d :: ρ) S) : Pst (tName 7 d (x0 :: x1 :: x2 :: x3 :: x4 :: x5 :: x6 :: x7 :: ρ) S) Q E := h
theorem ss7 {Q : Fl → Store → Prop} {x0 : Option D} {x1 : Option D} {x2 : Option D} {x3 : Option D} {x4 : Option D} {x5 : Option D} {x6 : Option D} {x7 : Option D} {c : EX} (h : Pst (c (x0 :: x1 :: x2 :: x3 :: x4 :: x5 :: x6 :: x7 :: ρ) S) (fun d S => Q (.nx (x0 :: x1 :: x2 :: x3 :: x4 :: x5 :: x6 :: some d :: ρ)) S) (fun x S => Q (.exc x (x0 :: x1 :: x2 :: x3 :: x4 :: x5 :: x6 :: x7 :: ρ)) S)) : Pst (sSet 7 c (x0 :: x1 :: x2 :: x3 :: x4 :: x5 :: x6 :: x7 :: ρ) S) Q E := s_set h
theorem tn8 {Q : PF.Env → Store → Prop} {x0 : Option D} {x1 : Option D} {x2 : Option D} {x3 : Option D} {x4 : Option D} {x5 : Option D} {x6 : Option D} {x7 : Option D} {x8 : Option D} {d : D} (h : Q (x0 :: x1 :: x2 :: x3 :: x4 :: x5 :: x6 :: x7 :: some d :: ρ) S) : Pst (tName 8 d (x0 :: x1 :: x2 :: x3 :: x4 :: x5 :: x6 :: x7 :: x8 :: ρ) S) Q E := h
theorem ss8 {Q : Fl → Store → Prop} {x0 : Option D} {x1 : Option D} {x2 : Option D} {x3 : Option D} {x4 : Option D} {x5 : Option D} {x6 : Option D} {x7 : Option D} {x8 : Option D} {c : EX} (h : Pst (c (x0 :: x1 :: x2 :: x3 :: x4 :: x5 :: x6 :: x7 :: x8 :: ρ) S) (fun d S => Q (.nx (x0 :: x1 :: x2 :: x3 :: x4 :: x5 :: x6 :: x7 :: some d :: ρ)) S) (fun x S => Q (.exc x (x0 :: x1 :: x2 :: x3 :: x4 :: x5 :: x6 :: x7 :: x8 :: ρ)) S)) : Pst (sSet 8 c (x0 :: x1 :: x2 :: x3 :: x4 :: x5 :: x6 :: x7 :: x8 :: ρ) S) Q E := s_set h
theorem tn9 {Q : PF.Env → Store → Prop} {x0 : Option D} {x1 : Option D} {x2 : Option D} {x3 : Option D} {x4 : Option D} {x5 : Option D} {x6 : Option D} {x7 : Option D} {x8 : Option D} {x9 : Option D} {d : D} (h : Q (x0 :: x1 :: x2 :: x3 :: x4 :: x5 :: x6 :: x7 :: x8 :: some d :: ρ) S) : Pst (tName 9 d (x0 :: x1 :: x2 :: x3 :: x4 :: x5 :: x6 :: x7 :: x8 :: x9 :: ρ) S) Q E := h
theorem ss9 {Q : Fl → Store → Prop} {x0 : Option D} {x1 : Option D} {x2 : Option D} {x3 : Option D} {x4 : Option D} {x5 : Option D} {x6 : Option D} {x7 : Option D} {x8 : Option D} {x9 : Option D} {c : EX} (h : Pst (c (x0 :: x1 :: x2 :: x3 :: x4 :: x5 :: x6 :: x7 :: x8 :: x9 :: ρ) S) (fun d S => Q (.nx (x0 :: x1 :: x2 :: x3 :: x4 :: x5 :: x6 :: x7 :: x8 :: some d :: ρ)) S) (fun x S => Q (.exc x (x0 :: x1 :: x2 :: x3 :: x4 :: x5 :: x6 :: x7 :: x8 :: x9 :: ρ)) S)) : Pst (sSet 9 c (x0 :: x1 :: x2 :: x3 :: x4 :: x5 :: x6 :: x7 :: x8 :: x9 :: ρ) S) Q E := s_set h
theorem tn10 {Q : PF.Env → Store → Prop} {x0 : Option D} {x1 : Option D} {x2 : Option D} {x3 : Option D} {x4 : Option D} {x5 : Option D} {x6 : Option D} {x7 : Option D} {x8 : Option D} {x9 : Option D} {x10 : Option D} {d : D} (h : Q (x0 :: x1 :: x2 :: x3 :: x4 :: x5 :: x6 :: x7 :: x8 :: x9 :: some d :: ρ) S) : Pst (tName 10 d (x0 :: x1 :: x2 :: x3 :: x4 :: x5 :: x6 :: x7 :: x8 :: x9 :: x10 :: ρ) S) Q E := h
theorem ss10 {Q : Fl → Store → Prop} {x0 : Option D} {x1 : Option D} {x2 : Option D} {x3 : Option D} {x4 : Option D} {x5 : Option D} {x6 : Option D} {x7 : Option D} {x8 : Option D} {x9 : Option D} {x10 : Option D} {c : EX} (h : Pst (c (x0 :: x1 :: x2 :: x3 :: x4 :: x5 :: x6 :: x7 :: x8 :: x9 :: x10 :: ρ) S) (fun d S => Q (.nx (x0 :: x1 :: x2 :: x3 :: x4 :: x5 :: x6 :: x7 :: x8 :: x9 :: some d :: ρ)) S) (fun x S => Q (.exc x (x0 :: x1 :: x2 :: x3 :: x4 :: x5 :: x6 :: x7 :: x8 :: x9 :: x10 :: ρ)) S)) : Pst (sSet 10 c (x0 :: x1 :: x2 :: x3 :: x4 :: x5 :: x6 :: x7 :: x8 :: x9 :: x10 :: ρ) S) Q E := s_set h
theorem tn11 {Q : PF.Env → Store → Prop} {x0 : Option D} {x1 : Option D} {x2 : Option D} {x3 : Option D} {x4 : Option D} {x5 : Option D} {x6 : Option D} {x7 : Option D} {x8 : Option D} {x9 : Option D} {x10 : Option D} {x11 : Option D} {d : D} (h : Q (x0 :: x1 :: x2 :: x3 :: x4 :: x5 :: x6 :: x7 :: x8 :: x9 :: x10 :: some d :: ρ) S) : Pst (tName 11 d (x0 :: x1 :: x2 :: x3 :: x4 :: x5 :: x6 :: x7 :: x8 :: x9 :: x10 :: x11 :: ρ) S) Q E := h
theorem ss11 {Q : Fl → Store → Prop} {x0 : Option D} {x1 : Option D} {x2 : Option D} {x3 : Option D} {x4 : Option D} {x5 : Option D} {x6 : Option D} {x7 : Option D} {x8 : Option D} {x9 : Option D} {x10 : Option D} {x11 : Option D} {c : EX} (h : Pst (c (x0 :: x1 :: x2 :: x3 :: x4 :: x5 :: x6 :: x7 :: x8 :: x9 :: x10 :: x11 :: ρ) S) (fun d S => Q (.nx (x0 :: x1 :: x2 :: x3 :: x4 :: x5 :: x6 :: x7 :: x8 :: x9 :: x10 :: some d :: ρ)) S) (fun x S => Q (.exc x (x0 :: x1 :: x2 :: x3 :: x4 :: x5 :: x6 :: x7 :: x8 :: x9 :: x10 :: x11 :: ρ)) S)) : Pst (sSet 11 c (x0 :: x1 :: x2 :: x3 :: x4 :: x5 :: x6 :: x7 :: x8 :: x9 :: x10 :: x11 :: ρ) S) Q E := s_set h
theorem tn12 {Q : PF.Env → Store → Prop} {x0 : Option D} {x1 : Option D} {x2 : Option D} {x3 : Option D} {x4 : Option D} {x5 : Option D} {x6 : Option D} {x7 : Option D} {x8 : Option D} {x9 : Option D} {x10 : Option D} {x11 : Option D} {x12 : Option D} {d : D} (h : Q (x0 :: x1 :: x2 :: x3 :: x4 :: x5 :: x6 :: x7 :: x8 :: x9 :: x10 :: x11 :: some d :: ρ) S) : Pst (tName 12 d (x0 :: x1 :: x2 :: x3 :: x4 :: x5 :: x6 :: x7 :: x8 :: x9 :: x10 :: x11 :: x12 :: ρ) S) Q E := h
theorem ss12 {Q : Fl → Store → Prop} {x0 : Option D} {x1 : Option D} {x2 : Option D} {x3 : Option D} {x4 : Option D} {x5 : Option D} {x6 : Option D} {x7 : Option D} {x8 : Option D} {x9 : Option D} {x10 : Option D} {x11 : Option D} {x12 : Option D} {c : EX} (h : Pst (c (x0 :: x1 :: x2 :: x3 :: x4 :: x5 :: x6 :: x7 :: x8 :: x9 :: x10 :: x11 :: x12 :: ρ) S) (fun d S => Q (.nx (x0 :: x1 :: x2 :: x3 :: x4 :: x5 :: x6 :: x7 :: x8 :: x9 :: x10 :: x11 :: some d :: ρ)) S) (fun x S => Q (.exc x (x0 :: x1 :: x2 :: x3 :: x4 :: x5 :: x6 :: x7 :: x8 :: x9 :: x10 :: x11 :: x12 :: ρ)) S)) : Pst (sSet 12 c (x0 :: x1 :: x2 :: x3 :: x4 :: x5 :: x6 :: x7 :: x8 :: x9 :: x10 :: x11 :: x12 :: ρ) S) Q E := s_set h
theorem tn13 {Q : PF.Env → Store → Prop} {x0 : Option D} {x1 : Option D} {x2 : Option D} {x3 : Option D} {x4 : Option D} {x5 : Option D} {x6 : Option D} {x7 : Option D} {x8 : Option D} {x9 : Option D} {x10 : Option D} {x11 : Option D} {x12 : Option D} {x13 : Option D} {d : D} (h : Q (x0 :: x1 :: x2 :: x3 :: x4 :: x5 :: x6 :: x7 :: x8 :: x9 :: x10 :: x11 :: x12 :: some d :: ρ) S) : Pst (tName 13 d (x0 :: x1 :: x2 :: x3 :: x4 :: x5 :: x6 :: x7 :: x8 :: x9 :: x10 :: x11 :: x12 :: x13 :: ρ) S) Q E := h
theorem ss13 {Q : Fl → Store → Prop} {x0 : Option D} {x1 : Option D} {x2 : Option D} {x3 : Option D} {x4 : Option D} {x5 : Option D} {x6 : Option D} {x7 : Option D} {x8 : Option D} {x9 : Option D} {x10 : Option D} {x11 : Option D} {x12 : Option D} {x13 : Option D} {c : EX} (h : Pst (c (x0 :: x1 :: x2 :: x3 :: x4 :: x5 :: x6 :: x7 :: x8 :: x9 :: x10 :: x11 :: x12 :: x13 :: ρ) S) (fun d S => Q (.nx (x0 :: x1 :: x2 :: x3 :: x4 :: x5 :: x6 :: x7 :: x8 :: x9 :: x10 :: x11 :: x12 :: some d :: ρ)) S) (fun x S => Q (.exc x (x0 :: x1 :: x2 :: x3 :: x4 :: x5 :: x6 :: x7 :: x8 :: x9 :: x10 :: x11 :: x12 :: x13 :: ρ)) S)) : Pst (sSet 13 c (x0 :: x1 :: x2 :: x3 :: x4 :: x5 :: x6 :: x7 :: x8 :: x9 :: x10 :: x11 :: x12 :: x13 :: ρ) S) Q E := s_set h
end
theorem pst_id {α : Type} {r : Out α} {Q : α → Store → Prop} {E : XV → Store → Prop} (h : Pst r Q E) : Pst r Q E := h
theorem cut_from {α : Type} (xs : List α) {k : Int} (h : 0 ≤ k) : cutL xs (some k) none = xs.drop k.toNat := by
  obtain ⟨m, rfl⟩ := Int.eq_ofNat_of_zero_le h
  unfold cutL
  rw [HT.sIx_nat, HT.sIx_none, Int.toNat_natCast]
  rcases Nat.le_total m xs.length with h1 | h1
  · rw [Nat.min_eq_left h1, List.take_of_length_le (by simp)]
  · rw [Nat.min_eq_right h1, List.drop_of_length_le h1, List.drop_of_length_le (Nat.le_refl _)]
    simp
theorem cut_mem {α : Type} {xs : List α} {a b : Option Int} {x : α} (h : x ∈ cutL xs a b) : x ∈ xs := List.mem_of_mem_drop (List.mem_of_mem_take h)
theorem cut_len {α : Type} (xs : List α) (a b : Option Int) : (cutL xs a b).length ≤ xs.length := by
  unfold cutL; simp; omega
theorem cut_pure {xs : List D} {a b : Option Int} (h : D.pures xs = true) : D.pures (cutL xs a b) = true := D.pures_iff.mpr fun d hd => D.pures_iff.mp h d (cut_mem hd)
theorem cut_to {α : Type} (xs : List α) {k : Int} (h : 0 ≤ k) : cutL xs none (some k) = xs.take k.toNat := by
  obtain ⟨m, rfl⟩ := Int.eq_ofNat_of_zero_le h
  unfold cutL
  rw [HT.sIx_nat, HT.sIx_none, Int.toNat_natCast]
  rcases Nat.le_total m xs.length with h1 | h1
  · rw [Nat.min_eq_left h1]; simp
  · rw [Nat.min_eq_right h1, List.take_of_length_le h1]; simp
theorem atI_end {α : Type} (xs : List α) : atI xs (-1) = xs.getLast? := by
  unfold atI ixN
  rw [if_neg (by decide)]
  rcases xs with _ | ⟨x, xs⟩
  · rfl
  · rw [if_pos (by simp only [List.length_cons]; omega), List.getLast?_eq_getElem?]
    simp only [Option.bind_some, List.length_cons]
    congr 1
    omega
theorem atI_nat {α : Type} (xs : List α) {i : Int} (h : 0 ≤ i) : atI xs i = xs[i.toNat]? := by
  unfold atI ixN
  rw [if_pos h]
  by_cases h1 : i < xs.length
  · rw [if_pos h1]; rfl
  · rw [if_neg h1, List.getElem?_eq_none (by omega)]; rfl
theorem atI_zero {α : Type} {x : α} {xs : List α} : atI (x :: xs) 0 = some x := by rw [atI_nat _ (by decide)]; rfl
theorem call_go {fr : Bool} {n : Nat} {b : SX} {ds : List D} {S : Store} {Q : D → Store → Prop} {E : XV → Store → Prop} {ρ : PF.Env} (e : startE n ds = ρ) (h : Pst (b ρ S) (fun fl S1 => Pst (exitF fr S.length (some (.ok fl, S1))) Q E) NoE) : Pst (callF fr n b ds S) Q E := by
  rw [call_pst, e]; exact h
theorem call_eq {fr : Bool} {n : Nat} {b : SX} {ds : List D} {S : Store} {d : D} {ρ : PF.Env} (e : startE n ds = ρ) (h : Pst (b ρ S) (fun fl S1 => Pst (exitF fr S.length (some (.ok fl, S1))) (fun x S' => x = d ∧ S' = S) NoE) NoE) : callF fr n b ds S = some (.ok d, S) :=
  Pst.eq.mp (call_go e h)
@[simp] theorem take_same {S : Store} : S.take S.length = S := List.take_of_length_le (Nat.le_refl _)
def D.isI : D → Bool
  | .int _ => true
  | _ => false
theorem zipD_ints (ns ms : List Int) : zipD (ns.map D.int) (ms.map D.int) = (ns.zip ms).map fun p => D.tup [.int p.1, .int p.2] := by
  induction ns generalizing ms with
  | nil => simp [zipD]
  | cons n ns ih => cases ms with
    | nil => simp [zipD]
    | cons m ms => simp [zipD, ih]
theorem filterMap_map {α β γ : Type} (f : α → β) (g : β → Option γ) (h : α → γ) (l : List α) (e : ∀ a ∈ l, g (f a) = some (h a)) : (l.map f).filterMap g = l.map h := by
  induction l with
  | nil => rfl
  | cons a l ih =>
    rw [List.map_cons, List.filterMap_cons, e a (List.mem_cons_self ..), ih fun b hb => e b (List.mem_cons_of_mem _ hb)]
    rfl
theorem blsOf_mapM {α : Type} {l : List α} {p : α → Bool} : blsOf (l.map fun a => D.bl (p a)) = some (l.map p) := by
  induction l with
  | nil => rfl
  | cons n ns ih => simp [blsOf, ih]
theorem b_allM {α : Type} {l : List α} {p : α → Bool} {S : Store} : bAll [.lst (l.map fun a => D.bl (p a))] S = some (.ok (.bl (l.all p)), S) := by
  simp [bAll, bL1, asL, blsOf_mapM, List.all_map]
theorem b_anyM {α : Type} {l : List α} {p : α → Bool} {S : Store} : bAny [.lst (l.map fun a => D.bl (p a))] S = some (.ok (.bl (l.any p)), S) := by
  simp [bAny, bL1, asL, blsOf_mapM, List.any_map]
theorem r_comp {src : IX} {js : List Nat} {tgt : TX} {test : BX} {elt : EX} {ρ : PF.Env} {S : Store} {Q : D → Store → Prop} {E : XV → Store → Prop}
    (h : Pst (src ρ S) (fun so S0 => Pst (cComp (fun _ _ => some (.ok so, S0)) js tgt test elt ρ S) Q E) E) : Pst (cComp src js tgt test elt ρ S) Q E := by
  unfold cComp at h ⊢
  match hs : src ρ S with
  | none => rw [hs] at h; exact h.elim
  | some (.error x, S1) => rw [hs] at h; exact h
  | some (.ok so, S1) => rw [hs] at h; exact h
/-- a list of a function's values over what is walked -/
theorem comp_map {src : IX} {js : List Nat} {tgt : TX} {elt : EX} {so : Src} {ρ : PF.Env} {S : Store} {α : Type} (l : List α) (f g : α → D)
    (hsrc : src ρ S = some (.ok so, S)) (hs : srcAt so S = some (l.map f)) (hs1 : ∀ acc, srcAt so (S ++ [acc]) = some (l.map f)) (hl : l.length ≤ lim)
    (hg : ∀ a ∈ l, ∀ acc, (g a).pure = true ∧ Pst (tgt (f a) (wipeE ρ js) (S ++ [acc])) (fun ρ1 S2 => Pst (elt ρ1 S2) (fun y S2 => y = g a ∧ S2 = S ++ [acc]) NoE) NoE) :
    cComp src js tgt bYes elt ρ S = some (.ok (.lst (l.map g)), S) := by
  refine Pst.eq.mp (comp_inv (so := so) (ds := l.map f) (fun i acc S1 => S1 = S ∧ acc = (l.take i).map g) hsrc ?_ hs (by rw [List.length_map]; exact hl) ⟨rfl, rfl⟩ ?_ ?_)
  · rintro i acc S1 ⟨rfl, rfl⟩
    exact ⟨rfl, hs1 _⟩
  · rintro i d acc S1 hd ⟨rfl, ha⟩
    rw [List.getElem?_map] at hd
    obtain ⟨a, ha', rfl⟩ := Option.map_eq_some_iff.mp hd
    have hm : a ∈ l := List.mem_of_getElem? ha'
    have ht : l.take (i + 1) = l.take i ++ [a] := by
      have h1 : i < l.length := by
        rcases Nat.lt_or_ge i l.length with h | h
        · exact h
        · rw [List.getElem?_eq_none h] at ha'; cases ha'
      rw [List.getElem?_eq_getElem h1] at ha'
      cases ha'
      exact List.take_succ_eq_append_getElem h1
    refine (hg a hm acc).2.mono (fun ρ1 S2 h => bool_yes ⟨fun _ => h.mono (fun y S2 h => ?_) fun _ _ h => h, fun hb => by cases hb⟩) fun _ _ h => h
    exact ⟨S1, h.2, by rw [h.1]; exact (hg a hm acc).1, rfl, by rw [ht, List.map_append, ← ha, h.1]; rfl⟩
  · rintro acc S1 ⟨rfl, rfl⟩
    rw [List.length_map, List.take_length]
    exact ⟨rfl, rfl⟩
theorem pures_mapI {ns : List Int} : D.pures (ns.map D.int) = true := by
  refine D.pures_iff.mpr fun d hd => ?_
  obtain ⟨i, _, rfl⟩ := List.mem_map.mp hd
  rfl

end PF
set_option Elab.async false
set_option linter.all false
set_option maxRecDepth 100000
set_option maxHeartbeats 4000000
/-! PFR: what repr asks of small data; numbers as data. -/
namespace PF
open PySem L2 Evl PySem.Spec PyProof.Rows
structure RP (k m : Nat) (d : D) : Prop where
  pure : d.pure = true
  show_ : d.py.showable = true
  leaf : PyData.leavesShort 13 d.py = true
  weight : d.py.weight ≤ m
  depth : d.py.depth ≤ k
theorem RP.mono {k m k' m' : Nat} {d : D} (h : RP k m d) (hk : k ≤ k') (hm : m ≤ m') : RP k' m' d := ⟨h.pure, h.show_, h.leaf, Nat.le_trans h.weight hm, Nat.le_trans h.depth hk⟩
theorem ro_int {i : Int} (h : -1000000000000 < i ∧ i < 1000000000000) : RP 0 41 (.int i) := by
  have h1 : i.natAbs < 10 ^ 12 := by
    have e : (10 : Nat) ^ 12 = 1000000000000 := by decide
    rw [e]; omega
  refine ⟨rfl, ?_, ?_, ?_, Nat.le_refl _⟩
  · show decide (i.natAbs.log2 < 1920) = true
    refine decide_eq_true ?_
    by_cases h0 : i.natAbs = 0
    · rw [h0]; decide
    · exact (Nat.log2_lt h0).mpr (Nat.lt_of_lt_of_le h1 (by decide +kernel))
  · show decide ((PyData.shown (.int i)).length ≤ 13) = true
    refine decide_eq_true ?_
    show (Str.ofString (toString i)).length ≤ 13
    rw [PySem.ofString_length]
    exact int_text_length_le10 (k := 12) (by decide) h1
  · show (if i == 0 then 0 else i.natAbs.log2 + 1) ≤ 41
    split
    · omega
    · rename_i hx
      have h0 : i.natAbs ≠ 0 := by simpa using hx
      have := (Nat.log2_lt h0 (k := 40)).mpr (Nat.lt_of_lt_of_le h1 (by decide +kernel))
      omega
theorem ro_non : RP 0 0 .non := ⟨rfl, rfl, rfl, Nat.le_refl _, Nat.le_refl _⟩
theorem ro_bl {b : Bool} : RP 0 0 (.bl b) := ⟨rfl, rfl, rfl, Nat.le_refl _, Nat.le_refl _⟩
theorem ros_pure {k m : Nat} {ds : List D} (h : ∀ d ∈ ds, RP k m d) : D.pures ds = true := D.pures_iff.mpr fun d hd => (h d hd).pure
theorem ros_show {k m : Nat} : ∀ {ds : List D}, (∀ d ∈ ds, RP k m d) → PyData.showableAll (D.pys ds) = true
  | [], _ => rfl
  | d :: ds, h => by
    simp only [D.pys, PyData.showableAll, (h d (List.mem_cons_self ..)).show_, ros_show fun x hx => h x (List.mem_cons_of_mem _ hx), Bool.and_self]
theorem ros_leaf {k m : Nat} : ∀ {ds : List D}, (∀ d ∈ ds, RP k m d) → PyData.leavesShortAll 13 (D.pys ds) = true
  | [], _ => rfl
  | d :: ds, h => by
    simp only [D.pys, PyData.leavesShortAll, (h d (List.mem_cons_self ..)).leaf, ros_leaf fun x hx => h x (List.mem_cons_of_mem _ hx), Bool.and_self]
theorem ros_weight {k m : Nat} : ∀ {ds : List D}, (∀ d ∈ ds, RP k m d) → PyData.weightAll (D.pys ds) ≤ (m + 1) * ds.length
  | [], _ => Nat.zero_le _
  | d :: ds, h => by
    have h1 := (h d (List.mem_cons_self ..)).weight
    have h2 := ros_weight fun x hx => h x (List.mem_cons_of_mem _ hx)
    simp only [D.pys, PyData.weightAll, List.length_cons, Nat.mul_add, Nat.mul_one]
    omega
theorem ros_depth {k m : Nat} : ∀ {ds : List D}, (∀ d ∈ ds, RP k m d) → PyData.depthAll (D.pys ds) ≤ k
  | [], _ => Nat.zero_le _
  | d :: ds, h => by
    have h1 := (h d (List.mem_cons_self ..)).depth
    have h2 := ros_depth fun x hx => h x (List.mem_cons_of_mem _ hx)
    simp only [D.pys, PyData.depthAll]
    omega
theorem ro_tup {k m : Nat} {ds : List D} (h : ∀ d ∈ ds, RP k m d) : RP (k + 1) ((m + 1) * ds.length) (.tup ds) := by
  refine ⟨by rw [D.pure]; exact ros_pure h, by rw [D.py, PyData.showable]; exact ros_show h, by rw [D.py, PyData.leavesShort]; exact ros_leaf h, by rw [D.py, PyData.weight]; exact ros_weight h, ?_⟩
  rw [D.py, PyData.depth]
  have := ros_depth h
  omega
theorem ro_lst {k m : Nat} {ds : List D} (h : ∀ d ∈ ds, RP k m d) : RP (k + 1) ((m + 1) * ds.length) (.lst ds) := by
  refine ⟨by rw [D.pure]; exact ros_pure h, by rw [D.py, PyData.showable]; exact ros_show h, by rw [D.py, PyData.leavesShort]; exact ros_leaf h, by rw [D.py, PyData.weight]; exact ros_weight h, ?_⟩
  rw [D.py, PyData.depth]
  have := ros_depth h
  omega
theorem ros_nil {k m : Nat} : ∀ d ∈ ([] : List D), RP k m d := fun _ h => by cases h
theorem ros_cons {k m : Nat} {d : D} {ds : List D} (h : RP k m d) (hs : ∀ x ∈ ds, RP k m x) : ∀ x ∈ d :: ds, RP k m x := fun x hx => by
  rcases List.mem_cons.mp hx with rfl | hx
  · exact h
  · exact hs x hx
theorem ro_ok {k m : Nat} {d : D} (h : RP k m d) (hk : k ≤ 60) (hm : m ≤ 700000) : reprOk d = true := by
  have h1 := PyData.shown_le 13 (by decide) d.py h.leaf
  have h2 := h.weight
  have h3 := h.depth
  have e : sizeLine = 16777216 := rfl
  unfold reprOk
  simp only [Bool.and_eq_true, decide_eq_true_eq]
  refine ⟨⟨⟨h.pure, h.show_⟩, by omega⟩, ?_⟩
  rw [e]; omega
theorem repr_eq {d : D} (h : reprOk d = true) {S : Store} : bRepr [d] S = some (.ok (.str d.py.shown), S) := by
  have e : told S d = d := by
    cases d <;> first | rfl | skip
    unfold reprOk at h
    simp [D.pure] at h
  unfold bRepr
  simp only [e, h, if_true]
/-! ### numbers -/
def nD (k : Nat) : D := .int (k : Int)
theorem ranged_nD (n : Nat) : ranged 0 n = (List.range n).map nD := by
  refine List.ext_getElem? fun i => ?_
  by_cases hi : i < n
  · rw [ranged_get _ _ _ hi, List.getElem?_map, List.getElem?_range hi, Int.zero_add]; rfl
  · rw [List.getElem?_eq_none (by rw [ranged_len]; omega), List.getElem?_eq_none (by simp; omega)]
abbrev tI (ns : List Int) : D := .tup (ns.map D.int)
theorem pures_nD {ks : List Nat} : D.pures (ks.map nD) = true := by
  refine D.pures_iff.mpr fun d hd => ?_
  obtain ⟨i, _, rfl⟩ := List.mem_map.mp hd
  rfl
/-- an item of a tuple of numbers -/
theorem ix_int {ns : List Int} {k : Int} {S : Store} {Q : D → Store → Prop} {E : XV → Store → Prop} {x : D} (hx : asS x S = some (ns.map D.int)) (h0 : 0 ≤ k ∧ k < ns.length) (h : Q (.int (ns.getD k.toNat 0)) S) : Pst (oIx x (.int k) S) Q E := by
  refine o1_ix ⟨_, _, hx, ?_, h⟩
  rw [atI_nat _ h0.1, List.getElem?_map]
  have : k.toNat < ns.length := by omega
  rw [List.getD_eq_getElem?_getD, List.getElem?_eq_getElem this]
  rfl
end PF
set_option Elab.async false
set_option linter.all false
set_option maxRecDepth 100000
set_option maxHeartbeats 4000000
/-! PFW: a well of draws in the store; sorted numbers; membership. -/
namespace PF
open PySem L2 Evl PySem.Spec PyProof.Rows
/-- a well stands at n -/
def Well (n : Nat) (S : Store) : Prop := ∃ g a b, S[n]? = some [.int g, .int a, .int b]
/-- nothing but the well has changed -/
def Fr (n : Nat) (S S' : Store) : Prop := Well n S' ∧ S'.length = S.length ∧ ∀ m, m ≠ n → S'[m]? = S[m]?
theorem Fr.refl {n : Nat} {S : Store} (h : Well n S) : Fr n S S := ⟨h, rfl, fun _ _ => rfl⟩
theorem Fr.trans {n : Nat} {S S' S'' : Store} (h : Fr n S S') (h' : Fr n S' S'') : Fr n S S'' := ⟨h'.1, h'.2.1.trans h.2.1, fun m hm => (h'.2.2 m hm).trans (h.2.2 m hm)⟩
theorem Well.put {n : Nat} {S : Store} {x : List D} {g a b : Int} (h : S[n]? = some x) : Fr n S (S.set n [.int g, .int a, .int b]) :=
  ⟨⟨g, a, b, set_get _ h⟩, by simp, fun m hm => by rw [List.getElem?_set_ne (fun e => hm e.symm)]⟩
theorem len_of {n : Nat} {S : Store} (h : Well n S) : n < S.length := by
  obtain ⟨g, a, b, h⟩ := h
  rcases Nat.lt_or_ge n S.length with h1 | h1
  · exact h1
  · rw [List.getElem?_eq_none h1] at h; cases h
theorem Fr.take {n : Nat} {S S' : Store} (h : Fr n S S') : S'.take S.length = S' := List.take_of_length_le (by rw [h.2.1]; exact Nat.le_refl _)
theorem atI_ok {α : Type} {xs : List α} {i : Int} (h : 0 ≤ i ∧ i < xs.length) : ∃ d, atI xs i = some d ∧ d ∈ xs ∧ xs[i.toNat]? = some d := by
  have h1 : i.toNat < xs.length := by omega
  refine ⟨xs[i.toNat], ?_, List.getElem_mem _, List.getElem?_eq_getElem h1⟩
  simp only [atI, ixN, if_pos h.1, if_pos h.2, Option.bind_some, List.getElem?_eq_getElem h1]
def Bnd (lo hi : Int) (ds : List D) : Prop := ∀ d ∈ ds, ∃ i, d = D.int i ∧ lo ≤ i ∧ i ≤ hi
theorem bnd_nil {lo hi : Int} : Bnd lo hi [] := fun _ h => by cases h
theorem bnd_cons {lo hi i : Int} {ds : List D} (h : lo ≤ i ∧ i ≤ hi) (hb : Bnd lo hi ds) : Bnd lo hi (.int i :: ds) := by
  intro d hd
  rcases List.mem_cons.mp hd with rfl | hd
  · exact ⟨i, rfl, h⟩
  · exact hb d hd
/-- more may have been laid behind -/
def FrX (n : Nat) (S S' : Store) : Prop := Well n S' ∧ S.length ≤ S'.length ∧ ∀ m, m < S.length → m ≠ n → S'[m]? = S[m]?
theorem Fr.x {n : Nat} {S S' : Store} (h : Fr n S S') : FrX n S S' := ⟨h.1, by rw [h.2.1]; exact Nat.le_refl _, fun m _ hn => h.2.2 m hn⟩
theorem FrX.trans {n : Nat} {S S' S'' : Store} (h : FrX n S S') (h' : FrX n S' S'') : FrX n S S'' := ⟨h'.1, Nat.le_trans h.2.1 h'.2.1, fun m hm hn => (h'.2.2 m (Nat.lt_of_lt_of_le hm h.2.1) hn).trans (h.2.2 m hm hn)⟩
theorem FrX.cut {n : Nat} {S S' : Store} (h : FrX n S S') (hn : n < S.length) : Fr n S (S'.take S.length) := by
  obtain ⟨⟨g, a, b, hw⟩, hl, hm⟩ := h
  refine ⟨⟨g, a, b, by rw [List.getElem?_take_of_lt hn]; exact hw⟩, by simp; omega, fun m hne => ?_⟩
  by_cases h1 : m < S.length
  · rw [List.getElem?_take_of_lt h1]; exact hm m h1 hne
  · rw [List.getElem?_eq_none (by simp; omega), List.getElem?_eq_none (by omega)]
theorem Well.more {n : Nat} {S : Store} (h : Well n S) (x : List D) : Well n (S ++ [x]) := by
  have := len_of h
  obtain ⟨g, a, b, h⟩ := h
  exact ⟨g, a, b, by rw [List.getElem?_append_left this]; exact h⟩
theorem FrX.lay {n : Nat} {S : Store} (h : Well n S) (x : List D) : FrX n S (S ++ [x]) := ⟨h.more x, by simp, fun m hm _ => List.getElem?_append_left hm⟩
theorem Well.other {n m : Nat} {S : Store} (h : Well n S) (hm : m ≠ n) (x : List D) : Well n (S.set m x) := by
  obtain ⟨g, a, b, h⟩ := h
  exact ⟨g, a, b, by rw [List.getElem?_set_ne hm]; exact h⟩
theorem Fr.back {n : Nat} {S S2 : Store} {x : List D} (hw : Well n S) (h : Fr n (S ++ [x]) S2) : ∃ S3, S2 = S3 ++ [x] ∧ Fr n S S3 := by
  have hn := len_of hw
  have hl : S2.length = S.length + 1 := by rw [h.2.1]; simp
  have e : S2[S.length]? = some x := by rw [h.2.2 _ (by omega)]; simp
  refine ⟨S2.take S.length, ?_, ?_⟩
  · have h2 : S.length < S2.length := by omega
    rw [List.getElem?_eq_getElem h2] at e
    cases e
    have := List.take_succ_eq_append_getElem h2
    rw [← this, List.take_of_length_le (by omega)]
  · obtain ⟨g, a, b, hg⟩ := h.1
    refine ⟨⟨g, a, b, by rw [List.getElem?_take_of_lt hn]; exact hg⟩, by simp; omega, fun m hm => ?_⟩
    by_cases h1 : m < S.length
    · rw [List.getElem?_take_of_lt h1, h.2.2 m hm, List.getElem?_append_left h1]
    · rw [List.getElem?_eq_none (by simp; omega), List.getElem?_eq_none (by omega)]
theorem insI_mem (x : Int) : ∀ (l : List Int) (y : Int), y ∈ insI x l ↔ y = x ∨ y ∈ l
  | [], y => by simp [insI]
  | a :: l, y => by
    unfold insI
    split
    · simp
    · simp only [List.mem_cons, insI_mem x l y]
      constructor
      · rintro (h | h | h) <;> simp [h]
      · rintro (h | h | h) <;> simp [h]
theorem insI_len (x : Int) : ∀ l : List Int, (insI x l).length = l.length + 1
  | [] => rfl
  | a :: l => by
    unfold insI
    split
    · simp
    · simp [insI_len x l]
theorem insI_pw (x : Int) : ∀ l : List Int, l.Pairwise (· ≤ ·) → (insI x l).Pairwise (· ≤ ·)
  | [], _ => by simp [insI]
  | a :: l, h => by
    unfold insI
    have h1 := List.pairwise_cons.mp h
    split
    · rename_i hx
      refine List.pairwise_cons.mpr ⟨fun y hy => ?_, h⟩
      rcases List.mem_cons.mp hy with rfl | hy
      · exact hx
      · exact Int.le_trans hx (h1.1 y hy)
    · rename_i hx
      refine List.pairwise_cons.mpr ⟨fun y hy => ?_, insI_pw x l h1.2⟩
      rcases (insI_mem x l y).mp hy with rfl | hy
      · omega
      · exact h1.1 y hy
theorem sortI_len : ∀ l : List Int, (sortI l).length = l.length
  | [] => rfl
  | a :: l => by simp [sortI, insI_len, sortI_len l]
theorem sortI_mem : ∀ (l : List Int) (y : Int), y ∈ sortI l ↔ y ∈ l
  | [], y => by simp [sortI]
  | a :: l, y => by simp [sortI, insI_mem, sortI_mem l y]
theorem sortI_pw : ∀ l : List Int, (sortI l).Pairwise (· ≤ ·)
  | [] => by simp [sortI]
  | a :: l => insI_pw a _ (sortI_pw l)
theorem Fr.at {n m : Nat} {S S' : Store} {x : List D} (h : Fr n S S') (hm : m ≠ n) (e : S[m]? = some x) : S'[m]? = some x := (h.2.2 m hm).trans e
theorem Fr.putX {n m : Nat} {S S' : Store} (h : FrX n S S') (hm : S.length ≤ m) (hn : n < S.length) (x : List D) : FrX n S (S'.set m x) :=
  ⟨h.1.other (by omega) x, by rw [List.length_set]; exact h.2.1, fun k hk hkn => by rw [List.getElem?_set_ne (by omega)]; exact h.2.2 k hk hkn⟩
theorem any_ints (ns : List Int) (v : Int) : ((ns.map D.int).any fun e => D.eqv e (.int v)) = decide (v ∈ ns) := by
  induction ns with
  | nil => simp
  | cons n ns ih =>
    rw [List.map_cons, List.any_cons, ih]
    by_cases h : v = n
    · subst h; simp [D.eqv]
    · have h2 : (n == v) = false := by simpa using fun e => h e.symm
      simp [D.eqv, h, h2]
theorem flat_ints (ns : List Int) : (ns.map D.int).all flatD = true := by
  rw [List.all_eq_true]
  intro d hd
  obtain ⟨i, _, rfl⟩ := List.mem_map.mp hd
  rfl
theorem in_ints {neg : Bool} {ns : List Int} {v : Int} {x : D} {S : Store} (hx : asS x S = some (ns.map D.int)) : oInA neg (.int v) x S = some (.ok (.bl (if neg then !decide (v ∈ ns) else decide (v ∈ ns))), S) := by
  have e : oIn neg (.int v) x S = some (.ok (.bl (if neg then !decide (v ∈ ns) else decide (v ∈ ns))), S) := by
    unfold oIn
    rw [hx]
    dsimp only
    rw [if_pos ⟨rfl, flat_ints ns⟩, any_ints]
  cases x <;> first | exact e | (cases hx)
theorem nat_ints (l : List Nat) : l.map nD = (l.map Int.ofNat).map D.int := by rw [List.map_map]; rfl
theorem in_nats {neg : Bool} {l : List Nat} {v : Nat} {x : D} {S : Store} (hx : asS x S = some (l.map nD)) : oInA neg (nD v) x S = some (.ok (.bl (if neg then !decide (v ∈ l) else decide (v ∈ l))), S) := by
  rw [nat_ints] at hx
  have h := in_ints (neg := neg) (v := (v : Int)) hx
  have e : ((v : Int) ∈ l.map Int.ofNat) ↔ v ∈ l := by
    constructor
    · intro h
      obtain ⟨k, hk, e⟩ := List.mem_map.mp h
      have e : k = v := Int.ofNat.inj e
      rw [← e]; exact hk
    · exact fun h => List.mem_map.mpr ⟨v, h, rfl⟩
  have e2 : decide ((v : Int) ∈ l.map Int.ofNat) = decide (v ∈ l) := by simp only [e]
  rw [e2] at h
  exact h
/-- numbers within bounds -/
def InB (lo hi : Int) (ns : List Int) : Prop := ∀ v ∈ ns, lo ≤ v ∧ v ≤ hi
theorem InB.bnd {lo hi : Int} {ns : List Int} (h : InB lo hi ns) : Bnd lo hi (ns.map D.int) := fun d hd => by
  obtain ⟨i, hi, rfl⟩ := List.mem_map.mp hd
  exact ⟨i, rfl, h i hi⟩
theorem InB.set {lo hi : Int} {ns : List Int} (h : InB lo hi ns) {v : Int} (hv : lo ≤ v ∧ v ≤ hi) (k : Nat) : InB lo hi (ns.set k v) := fun x hx => by
  rcases List.mem_or_eq_of_mem_set hx with hx | rfl
  · exact h x hx
  · exact hv
theorem put_ints {S : Store} {m : Nat} {k v : Int} {ns : List Int} {Q : Store → Prop} (e : S[m]? = some (ns.map D.int)) (hk : 0 ≤ k ∧ k < ns.length)
    (h : ∀ S', S' = S.set m ((ns.set k.toNat v).map D.int) → S'[m]? = some ((ns.set k.toNat v).map D.int) → Q S') : Put S m k (.int v) Q := by
  refine ⟨_, k.toNat, e, ?_, rfl, ?_⟩
  · unfold ixN
    rw [if_pos hk.1, List.length_map, if_pos hk.2]
  · have e2 : (ns.map D.int).set k.toNat (.int v) = (ns.set k.toNat v).map D.int := by rw [List.map_set]
    rw [e2]
    exact h _ rfl (set_get _ e)
theorem b_sortedL {S : Store} {x : D} {ns : List Int} (hx : asL x S = some (ns.map D.int)) : bSortedA [x] S = some (.ok (.lst ((sortI ns).map D.int)), S) := by
  have e : bSorted [x] S = some (.ok (.lst ((sortI ns).map D.int)), S) := by simp only [bSorted, bL1, hx, intsOf_map]
  have e2 : bSortedTI [x] S = none := by cases x <;> first | rfl | (cases hx)
  unfold bSortedA
  rw [e2]
  exact e
theorem b_sortedT {S : Store} {ns : List Int} : bSortedA [tI ns] S = some (.ok (.lst ((sortI ns).map D.int)), S) := by
  have e2 : bSortedTI [tI ns] S = some (.ok (.lst ((sortI ns).map D.int)), S) := by
    unfold bSortedTI tI
    simp only [intsOf_map]
  unfold bSortedA
  rw [e2]
theorem getD_in {lo hi : Int} {ns : List Int} (h : InB lo hi ns) {k : Int} (hk : 0 ≤ k ∧ k < ns.length) : lo ≤ ns.getD k.toNat 0 ∧ ns.getD k.toNat 0 ≤ hi := by
  have h1 : k.toNat < ns.length := by omega
  rw [List.getD_eq_getElem?_getD, List.getElem?_eq_getElem h1]
  exact h _ (List.getElem_mem h1)
theorem getN_in {lo hi : Int} {ns : List Int} (h : InB lo hi ns) {k : Nat} (hk : k < ns.length) : lo ≤ ns.getD k 0 ∧ ns.getD k 0 ≤ hi := by
  rw [List.getD_eq_getElem?_getD, List.getElem?_eq_getElem hk]
  exact h _ (List.getElem_mem hk)
theorem InB.sort {lo hi : Int} {ns : List Int} (h : InB lo hi ns) : InB lo hi (sortI ns).reverse := fun x hx => h x ((sortI_mem ns x).mp (List.mem_reverse.mp hx))
theorem InB.add {lo hi : Int} {ns : List Int} (h : InB lo hi ns) {v : Int} (hv : lo ≤ v ∧ v ≤ hi) : InB lo hi (ns ++ [v]) := fun x hx => by
  rcases List.mem_append.mp hx with hx | hx
  · exact h x hx
  · rw [List.mem_singleton] at hx; subst hx; exact hv
theorem InB.nil {lo hi : Int} : InB lo hi [] := fun _ h => by cases h
theorem ranged_at {lo : Int} {n i : Nat} {d : D} (h : (ranged lo n)[i]? = some d) : i < n ∧ d = .int (lo + i) := by
  rcases Nat.lt_or_ge i n with h1 | h1
  · rw [ranged_get _ _ _ h1] at h
    exact ⟨h1, (Option.some.inj h).symm⟩
  · rw [List.getElem?_eq_none (by rw [ranged_len]; exact h1)] at h; cases h
theorem ne_same {a : Str} {S : Store} : oNeA (.str a) (.str a) S = some (.ok (.bl false), S) := by
  have e : oNeS (.str a) (.str a) S = some (.ok (.bl (!(a == a))), S) := rfl
  unfold oNeA
  rw [e, beq_self_eq_true]
  rfl
theorem eq_same {a : Str} {S : Store} : oEqA (.str a) (.str a) S = some (.ok (.bl true), S) := by
  have e : oEqS (.str a) (.str a) S = some (.ok (.bl (a == a)), S) := rfl
  unfold oEqA
  rw [e, beq_self_eq_true]
theorem ix_last {ns : List Int} {S : Store} {Q : D → Store → Prop} {E : XV → Store → Prop} (h0 : 1 ≤ ns.length) (h : Q (.int (ns.getD (ns.length - 1) 0)) S) : Pst (oIx (tI ns) (.int (-1)) S) Q E := by
  refine o1_ix ⟨_, _, rfl, ?_, h⟩
  rw [atI_end, List.getLast?_map, List.getLast?_eq_getElem?, List.getD_eq_getElem?_getD, List.getElem?_eq_getElem (by omega)]
  rfl
end PF
set_option Elab.async false
set_option linter.all false
set_option maxRecDepth 100000
set_option maxHeartbeats 4000000
/-! PFC: comprehensions by a list of Lean's. -/
namespace PF
open PySem L2 Evl
theorem comp_filter {js : List Nat} {tgt : TX} {test : BX} {elt : EX} {so : Src} {ρ : PF.Env} {S : Store} {Q : D → Store → Prop} {E : XV → Store → Prop} {α : Type} (l : List α) (f g : α → D) (p : α → Bool)
    (hs : srcAt so S = some (l.map f)) (hs1 : ∀ acc, srcAt so (S ++ [acc]) = some (l.map f)) (hl : l.length ≤ lim)
    (hg : ∀ a ∈ l, ∀ acc, Pst (tgt (f a) (wipeE ρ js) (S ++ [acc])) (fun ρ1 S2 => Pst (test ρ1 S2) (fun b S2 => S2 = S ++ [acc] ∧ b = p a ∧ (b = true → Pst (elt ρ1 S2) (fun y S2 => y = g a ∧ S2 = S ++ [acc] ∧ (g a).pure = true) NoE)) NoE) NoE)
    (k : Q (.lst ((l.filter p).map g)) S) : Pst (cComp (fun _ _ => some (.ok so, S)) js tgt test elt ρ S) Q E := by
  refine comp_inv (so := so) (ds := l.map f) (fun i acc S1 => S1 = S ∧ acc = ((l.take i).filter p).map g) rfl ?_ hs (by rw [List.length_map]; exact hl) ⟨rfl, rfl⟩ ?_ ?_
  · rintro i acc S1 ⟨rfl, rfl⟩
    exact ⟨rfl, hs1 _⟩
  · rintro i d acc S1 hd ⟨rfl, ha⟩
    rw [List.getElem?_map] at hd
    obtain ⟨a, ha', rfl⟩ := Option.map_eq_some_iff.mp hd
    have hm : a ∈ l := List.mem_of_getElem? ha'
    have ht : l.take (i + 1) = l.take i ++ [a] := by
      have h1 : i < l.length := by
        rcases Nat.lt_or_ge i l.length with h | h
        · exact h
        · rw [List.getElem?_eq_none h] at ha'; cases ha'
      rw [List.getElem?_eq_getElem h1] at ha'
      cases ha'
      exact List.take_succ_eq_append_getElem h1
    refine (hg a hm acc).mono (fun ρ1 S2 h => h.mono (fun b S2 h => ?_) fun _ _ h => h) fun _ _ h => h
    obtain ⟨e, eb, h⟩ := h
    refine ⟨fun hb => (h hb).mono (fun y S3 h => ?_) fun _ _ h => h, fun hb => ?_⟩
    · refine ⟨S1, h.2.1, by rw [h.1]; exact h.2.2, rfl, ?_⟩
      rw [ht, List.filter_append, List.filter_cons_of_pos (by rw [← eb, hb]), List.filter_nil, List.map_append, ← ha, h.1]; rfl
    · refine ⟨S1, e, rfl, ?_⟩
      rw [ht, List.filter_append, List.filter_cons_of_neg (by rw [← eb, hb]; decide), List.filter_nil, List.append_nil]
      exact ha
  · rintro acc S1 ⟨rfl, rfl⟩
    rw [List.length_map, List.take_length]
    exact k
end PF
set_option Elab.async false
set_option linter.all false
set_option maxRecDepth 100000
set_option maxHeartbeats 4000000
/-! PFD: the marks beside some numbers (a dict of its own). -/
namespace PF
open PySem L2 Evl PySem.Spec PyProof.Rows
def markK (ks : List Int) (k : Int) : List Int := if k ∈ ks then ks else ks ++ [k]
def marksOf (ns : List Int) : List Int := ns.foldl (fun ks v => markK (markK ks v) (max 0 (v - 1))) [0, 999]
def dictK (ks : List Int) : List (Key × V) := ks.map fun k => (Sum.inl k, V.bl true)
theorem markK_mem {ks : List Int} {k x : Int} : x ∈ markK ks k ↔ x ∈ ks ∨ x = k := by
  unfold markK
  split
  · rename_i h
    exact ⟨.inl, fun e => e.elim id fun e => by rw [e]; exact h⟩
  · rw [List.mem_append, List.mem_singleton]
theorem markK_len (ks : List Int) (k : Int) : (markK ks k).length ≤ ks.length + 1 := by
  unfold markK
  split
  · omega
  · rw [List.length_append, List.length_singleton]; exact Nat.le_refl _
theorem dictK_put (ks : List Int) (k : Int) : putK (dictK ks) (Sum.inl k) (V.bl true) = dictK (markK ks k) := by
  have e : ((dictK ks).any fun kv => decide (kv.1 = Sum.inl k)) = decide (k ∈ ks) := by
    unfold dictK
    rw [List.any_map]
    induction ks with
    | nil => rfl
    | cons a ks ih =>
      rw [List.any_cons, ih]
      by_cases h : a = k
      · subst h; simp
      · simp [h, Ne.symm h]
  unfold putK markK
  rw [e]
  by_cases h : k ∈ ks
  · rw [if_pos (decide_eq_true h), if_pos h]
    unfold dictK
    rw [List.map_map]
    refine List.map_congr_left fun a _ => ?_
    show (if (Sum.inl a : Key) = Sum.inl k then ((Sum.inl a : Key), V.bl true) else (Sum.inl a, V.bl true)) = _
    split <;> rfl
  · rw [if_neg (by simpa using h), if_neg h]
    unfold dictK
    rw [List.map_append]
    rfl
def rSetD : V → V → V → Hp → (Hp → Prop) → Prop := fun o i v H Q => ∃ p H', o = .ref p ∧ DPut H p i v H' ∧ Q H'
theorem set_dict {X : Cx} (hu : X.A.units + 1 < cLine) : PSet X rSetD := by
  intro pins s σ H o i v ov iv u Q I ro ri rv h
  obtain ⟨p, H', rfl, hd, q⟩ := h
  cases ro
  exact d_setItem hu I hd ri rv fun s' I' => ⟨H', I', q⟩
section
variable {K : PySem.W.Frag} {T : List (Addr × Str)} {F H : Hp} {μ : List Addr} {S : Store} {p : Addr}
theorem SR.mutD (s : SR K T F μ S H) {kvs kvs' : List (Key × V)} (hF : F p = none) (hH : H p = some (.dK kvs)) : SR K T F μ S (upd H p (.dK kvs')) := by
  have keep : ∀ b o, H b = some o → (∀ ks, o ≠ .dK ks) → upd H p (.dK kvs') b = some o := fun b o hb hn => by
    by_cases e : b = p
    · subst e; rw [hH] at hb; cases hb; exact absurd rfl (hn _)
    · rw [upd_ne e]; exact hb
  refine ⟨Ex.mut s.ex hF, s.len, s.nd, fun n b ds e1 e2 => ?_, fun q hq => ?_, s.tabF⟩
  · obtain ⟨h1, h2, vs, h3, h4⟩ := s.ob n b ds e1 e2
    exact ⟨h1, h2, vs, keep _ _ h3 (by intro ks z; cases z), h4⟩
  · obtain ⟨ps, h1, h2, h3⟩ := s.tab q hq
    refine ⟨ps, keep _ _ h1 (by intro xs z; cases z), h2, fun pos cv hc => ?_⟩
    obtain ⟨c, e1, e2⟩ := h3 pos cv hc
    exact ⟨c, e1, keep _ _ e2 (by intro xs z; unfold LamX.CodeO at z; cases z)⟩
theorem SR.notinD (s : SR K T F μ S H) {kvs : List (Key × V)} (hH : H p = some (.dK kvs)) : p ∉ μ := fun hm => by
  obtain ⟨n, hn, e⟩ := List.mem_iff_getElem.mp hm
  obtain ⟨_, vs, _, h, _⟩ := s.get (n := n) (a := p) (by rw [List.getElem?_eq_getElem hn, e])
  rw [hH] at h; cases h
theorem reps_back : ∀ {ns : List Int} {vs : List V}, Reps K F μ (ns.map D.int) vs → vs = ns.map V.int
  | [], _, .nil => rfl
  | n :: ns, _, .cons h r => by
    cases h
    rw [reps_back (ns := ns) r]; rfl
end
theorem intsOf_back : ∀ {ds : List D} {ns : List Int}, intsOf ds = some ns → ds = ns.map D.int := by
  intro ds
  induction ds with
  | nil => intro ns h; simp [intsOf] at h; subst h; rfl
  | cons d ds ih =>
    intro ns h
    cases d with
    | int i =>
      simp only [intsOf] at h
      cases hd : intsOf ds with
      | none => rw [hd] at h; simp at h
      | some ms =>
        rw [hd] at h
        simp at h
        subst h
        rw [ih hd]; rfl
    | _ => simp [intsOf] at h
def bMarks : SX := fun (ρ : PF.Env) (S : Store) => match ρ with
  | [some (.tup ds), _, _] => (match intsOf ds with
    | some ns => if ns.length ≤ 30 then some (.ok (.ret (.lst ((sortI (marksOf ns)).map D.int))), S) else none
    | none => none)
  | _ => none
/-! the walk -/
section
variable {X : Cx} {T : List (Addr × Str)} {W : WX}
theorem pi_tupV {tg e : Expr} {t : TE} (pe : PE X e t) : PI X tg e (fun σ H R => t σ H fun x H1 => ∃ a, x = .ref a ∧ (∃ vs, SqT X.K H1 a vs) ∧ R (Itt X.K a) H1) := by
  refine ⟨fun pins s σ H R I h => ?_⟩
  refine thn (pe.run pins s σ H _ I h) ?_
  rintro v s1 ⟨x, H1, I1, r1, q1⟩
  have newest : ∀ (ob : Obj), Inv X pins σ H1 { s1 with heap := s1.heap.push ob } := fun ob => Inv.kept (t' := s1.toks) I1 fun b o q => Heap.get?_push_of_some _ q
  have foot : ∀ b ∈ [s1.heap.objs.size], FpOk X pins H1 b := fun b hb => by
    rw [List.mem_singleton] at hb
    subst hb
    exact Inv.fpOk I1 (Nat.le_refl _) (HOk.fresh I1.hok (Nat.le_refl _))
  obtain ⟨a, rfl, ⟨vs, hq⟩, q⟩ := q1
  cases r1
  obtain ⟨its, _, pt, _⟩ := Inv.tuple I1 hq
  exact wpAny_pyIter_tuple (items := its.toArray) pt ⟨_, _, _, _, H1, rfl, newest _, turn_tuple a _, ⟨_, Heap.get?_push_size _ rfl, rfl, rfl⟩, foot, q⟩
theorem marks_len (ns : List Int) : (marksOf ns).length ≤ 2 + 2 * ns.length := by
  have go : ∀ (l : List Int) (ks : List Int), (l.foldl (fun ks v => markK (markK ks v) (max 0 (v - 1))) ks).length ≤ ks.length + 2 * l.length := by
    intro l
    induction l with
    | nil => intro ks; simp
    | cons v l ih =>
      intro ks
      have h1 := ih (markK (markK ks v) (max 0 (v - 1)))
      have h2 := markK_len (markK ks v) (max 0 (v - 1))
      have h3 := markK_len ks v
      rw [List.foldl_cons, List.length_cons]
      omega
  have := go ns [0, 999]
  unfold marksOf
  simpa using this
theorem marks_snoc {ns : List Int} {i : Nat} {v : Int} (h : ns[i]? = some v) : marksOf (ns.take (i + 1)) = markK (markK (marksOf (ns.take i)) v) (max 0 (v - 1)) := by
  have hl := (List.getElem?_eq_some_iff.mp h)
  unfold marksOf
  rw [List.take_succ_eq_append_getElem hl.1, List.foldl_append, hl.2]
  rfl
theorem rss_marks {p1 p2 p3 p4 p5 p6 p7 p8 p9 p10 p11 p12 p13 p14 p15 p16 p17 p18 p19 p20 p21 p22 p23 p24 p25 p26 p27 p28 p29 p30 p31 p32 : Pos} {j1 j2 j3 j4 j5 j6 j7 j8 j9 j10 : Nat}
    (hp : PassesOwn (model X.prog X.w) X.A X.env X.xe) (hc : X.calm = true) (hN : X.N.Nodup) (hu : X.A.units + 1 < cLine)
    (hm1 : X.mg "max" = none) (hm2 : X.mg "sorted" = none) (hm3 : X.mg "list" = none)
    (n0 : X.N[0]? = some ("numbers" : Str) := by rfl) (n1 : X.N[1]? = some ("some" : Str) := by rfl) (n2 : X.N[2]? = some ("each" : Str) := by rfl)
    (v0 : Vis X.env.scope "numbers" := by first | exact Or.inl rfl | exact Or.inr (Or.inl rfl) | exact Or.inr (Or.inr rfl)) (v1 : Vis X.env.scope "some" := by first | exact Or.inl rfl | exact Or.inr (Or.inl rfl) | exact Or.inr (Or.inr rfl)) (v2 : Vis X.env.scope "each" := by first | exact Or.inl rfl | exact Or.inr (Or.inl rfl) | exact Or.inr (Or.inr rfl))
    (l1 : Loc X.env.scope "some" := by first | exact Or.inl rfl | exact Or.inr rfl) (l2 : Loc X.env.scope "each" := by first | exact Or.inl rfl | exact Or.inr rfl)
    (f1 : X.fn "some" = true ∨ X.env.scope.names.lookup ("some" : Str) = some .local := by first | exact .inl rfl | exact .inr rfl) (f2 : X.fn "each" = true ∨ X.env.scope.names.lookup ("each" : Str) = some .local := by first | exact .inl rfl | exact .inr rfl)
    (g1 : Gl X "max" := by rfl) (g2 : Gl X "sorted" := by rfl) (g3 : Gl X "list" := by rfl)
    (s1 : swapsWith (.Dict [some (.Constant (.int 0) j1 p1), some (.Constant (.int 999) j2 p2)] [.Constant (.bool true) j3 p3, .Constant (.bool true) j4 p4] p5) (some (.Name "some" p6)) p7.line X.env = pure false := by rfl)
    (s2 : ∀ x, foldedSetIterable (.Name "numbers" p9) X.env x = pure x := by intro _; rfl)
    (s3 : swapsWithSole [.Tuple [.Subscript (.Name "some" p10) (.Name "each" p11) p12, .Subscript (.Name "some" p13) (.Call (.Name "max" p14) [.Constant (.int 0) j5 p15, .BinOp (.Name "each" p16) .Sub (.Constant (.int 1) j6 p17) p18] [] p19) p20] j7 p21] (.Tuple [.Constant (.bool true) j9 p22, .Constant (.bool true) j10 p23] j8 p24) p25.line X.env = pure false := by rfl)
    (s4 : swappedStores [.Tuple [.Subscript (.Name "some" p10) (.Name "each" p11) p12, .Subscript (.Name "some" p13) (.Call (.Name "max" p14) [.Constant (.int 0) j5 p15, .BinOp (.Name "each" p16) .Sub (.Constant (.int 1) j6 p17) p18] [] p19) p20] j7 p21] (.Tuple [.Constant (.bool true) j9 p22, .Constant (.bool true) j10 p23] j8 p24) X.env = pure none := by rfl) :
    RSs T true X W
      [.Assign [.Name "some" p6] (.Dict [some (.Constant (.int 0) j1 p1), some (.Constant (.int 999) j2 p2)] [.Constant (.bool true) j3 p3, .Constant (.bool true) j4 p4] p5) p7,
       .For (.Name "each" p8) (.Name "numbers" p9)
         [.Assign [.Tuple [.Subscript (.Name "some" p10) (.Name "each" p11) p12, .Subscript (.Name "some" p13) (.Call (.Name "max" p14) [.Constant (.int 0) j5 p15, .BinOp (.Name "each" p16) .Sub (.Constant (.int 1) j6 p17) p18] [] p19) p20] j7 p21] (.Tuple [.Constant (.bool true) j9 p22, .Constant (.bool true) j10 p23] j8 p24) p25] [] p26,
       .Return (some (.Call (.Name "sorted" p27) [.Call (.Name "list" p28) [.Name "some" p29] [] p30] [] p31)) p32] bMarks := by
  have eSome : ∀ q : Pos, PE X (.Name "some" q) (tVar 1) := fun q => pe_var n1 v1
  have eEach : ∀ q : Pos, PE X (.Name "each" q) (tVar 2) := fun q => pe_var n2 v2
  refine ⟨_, pss_cons (ps_set hN n1 l1 (pe_disp (pps_cons pe_int pe_bl (pps_cons pe_int pe_bl pps_nil)) rfl rfl (by simp) (by simp)) s1 f1)
    (pss_cons (ps_for hp hc (pi_tupV (pe_var n0 v0)) (pg_name hN n2 l2 f2)
      (pss_one (ps_asg (pe_tup (pa_cons pe_bl (pa_cons pe_bl pa_nil))) (pg_tup (n := 2) hc (pgs_cons (pg_sub (eSome _) (eEach _) (set_dict hu)) (pgs_cons (pg_sub (eSome _) (pe_callB (call_max2 hc) g1 hm1 (by decide +kernel) (pa_cons pe_int (pa_cons (pe_op op_sub (eEach _) pe_int) pa_nil))) (set_dict hu)) pgs_nil))) s3 s4)) s2)
      (pss_one (ps_ret (pe_callB cr_sortedI g2 hm2 (by decide +kernel) (pa_cons (pe_callTy (call_listD hc) g3 hm3 (by decide +kernel) (pa_cons (eSome _) pa_nil)) pa_nil))))), ?_⟩
  intro σ ρ F μ S H D s hE g
  unfold bMarks at g
  split at g
  case h_2 => exact g.elim
  rename_i ds y1 y2
  split at g
  case h_2 => exact g.elim
  rename_i ns hns
  split at g
  case isFalse => exact g.elim
  rename_i h30
  have e := intsOf_back hns
  subst e
  obtain ⟨v, hv, rv⟩ := hE.2 0 _ rfl
  cases rv with
  | @tup a xs _ hq rs =>
    have ex := reps_back rs
    subst ex
    have lz : (marksOf ns).length ≤ 62 := by have := marks_len ns; omega
    have hlen3 : ∀ (τ : L2.St) (w : V), 2 < τ.length → (τ.set 2 (some w))[2]? = some (some w) := fun τ w h => List.getElem?_set_self h
    refine fun p hp0 => ⟨upd_same, [(Sum.inl 0, .bl true), (Sum.inl 999, .bl true)], rfl, by decide, ?_⟩
    have hF : F p = none := fresh_back s.ex hp0
    have hσl : 2 < σ.length := by rw [← hE.1]; show 2 < 3; decide
    have s1 : SR X.K T F μ S (upd H p (.dK (dictK (marksOf [])))) := s.lay hp0
    have eH : upd (upd H p (.dK [])) p (.dK (mergeK [] [(Sum.inl 0, .bl true), (Sum.inl 999, .bl true)])) = upd H p (.dK (dictK (marksOf []))) := by rw [upd_upd]; rfl
    rw [eH]
    have hpa : ∀ {H' : Hp}, SR X.K T F μ S H' → SqT X.K H' a (ns.map V.int) := fun s' => s'.sqT hq
    refine ⟨.ref a, ?_, a, rfl, ⟨_, hpa s1⟩, fun i m σ' H' => m + i = ns.length ∧ σ'[0]? = some (some (.ref a)) ∧ σ'[1]? = some (some (.ref p)) ∧ 2 < σ'.length ∧ H' p = some (.dK (dictK (marksOf (ns.take i)))) ∧ SR X.K T F μ S H', ⟨ns.length, rfl, ?_, ?_, ?_, upd_same, s1⟩, ?_⟩
    · rw [List.getElem?_set_ne (by decide)]; exact hv
    · rw [List.getElem?_set_ne (by decide)]; exact hv
    · exact List.getElem?_set_self (by omega)
    · rw [List.length_set]; exact hσl
    rintro i m σ' H' ⟨hm, h0, h1, hl, hd, s'⟩
    cases m with
    | zero =>
      left
      refine ⟨⟨_, hpa s', by rw [List.length_map]; omega⟩, ?_⟩
      have et : ns.take i = ns := List.take_of_length_le (by omega)
      rw [et] at hd
      refine ⟨.ref p, h1, p, _, rfl, .inl hd, fun q hq2 => ⟨q, marksOf ns, rfl, .inl (.inl ?_), fun ys p' perm pw hp' => ?_⟩⟩
      · rw [upd_same]
        unfold dictK
        rw [List.map_map]
        rfl
      · have ey : ys = sortI (marksOf ns) := sorted_unique (perm.trans (sortI_perm _).symm) pw (sortI_sorted _)
        subst ey
        have s2 := s'.lay (o := .lst ((dictK (marksOf ns)).map fun kv => kV kv.1)) hq2
        exact g F μ _ (Ex.refl _) (List.prefix_refl _) (s2.lay hp') (.ref p') (.inl ⟨_, p', _, rfl, rfl, fresh_back s2.ex hp', s2.notin hp', upd_same, reps_ints _⟩)
    | succ m =>
      right
      have hi : i < ns.length := by omega
      have hgi : (ns.map V.int)[i]? = some (.int ns[i]) := by rw [List.getElem?_map, List.getElem?_eq_getElem hi]; rfl
      refine ⟨⟨_, _, hpa s', hgi⟩, fun σ2 H2 => m + (i + 1) = ns.length ∧ σ2[0]? = some (some (.ref a)) ∧ σ2[1]? = some (some (.ref p)) ∧ 2 < σ2.length ∧ H2 p = some (.dK (dictK (marksOf (ns.take (i + 1))))) ∧ SR X.K T F μ S H2, fun σ2 H2 h => ⟨m, Nat.lt_succ_self _, h⟩, ?_⟩
      rintro x H3 ⟨rfl, hx⟩
      have hx := (hx _ (hpa s')).symm.trans hgi
      cases hx
      generalize hvi : ns[i] = v at *
      have hns : ns[i]? = some v := by rw [List.getElem?_eq_getElem hi, hvi]
      have z1 : (σ'.set 2 (some (V.int v)))[1]? = some (some (.ref p)) := by rw [List.getElem?_set_ne (by decide)]; exact h1
      have z2 := hlen3 σ' (V.int v) hl
      refine ⟨by decide, fun q hq2 => ⟨q, _, rfl, st_of upd_same, rfl, ?_⟩⟩
      have hqp : p ≠ q := ne_of_none hd hq2
      have s2 := s'.lay (o := .tup [V.bl true, V.bl true]) hq2
      have hd2 : upd H3 q (.tup [V.bl true, V.bl true]) p = some (.dK (dictK (marksOf (ns.take i)))) := by rw [upd_ne hqp]; exact hd
      have hk : (marksOf (ns.take i)).length ≤ 62 := by
        have h1 := marks_len (ns.take i)
        have h2 : (ns.take i).length ≤ ns.length := by rw [List.length_take]; omega
        omega
      have hk1 : (dictK (marksOf (ns.take i))).length < sizeLine := Nat.lt_of_le_of_lt (by unfold dictK; rw [List.length_map]; exact hk) (by decide)
      have hk2 : (dictK (markK (marksOf (ns.take i)) v)).length < sizeLine := Nat.lt_of_le_of_lt (m := 63) (by unfold dictK; rw [List.length_map]; have := markK_len (marksOf (ns.take i)) v; omega) (by decide)
      have s3 := s2.mutD (kvs' := putK (dictK (marksOf (ns.take i))) (Sum.inl v) (V.bl true)) hF hd2
      refine ⟨_, _, rfl, .ref p, z1, .int v, z2, p, _, rfl, DPut.k (k := Sum.inl v) hd2 hk1, ?_⟩
      have emx : (if v - 1 > 0 then v - 1 else 0) = max 0 (v - 1) := by split <;> omega
      refine ⟨_, _, rfl, .ref p, z1, .int v, z2, v, 1, rfl, rfl, 0, v - 1, rfl, p, _, rfl, DPut.k (k := Sum.inl (if v - 1 > 0 then v - 1 else 0)) upd_same (by rw [dictK_put]; exact hk2), rfl, ?_⟩
      refine ⟨by omega, by rw [List.getElem?_set_ne (by decide)]; exact h0, z1, by rw [List.length_set]; exact hl, ?_, s3.mutD hF upd_same⟩
      rw [upd_same, dictK_put, dictK_put, marks_snoc hns, emx]
end
end PF
set_option Elab.async false
set_option linter.all false
set_option maxRecDepth 100000
set_option maxHeartbeats 4000000
/-! PFI: tuples that are known to hold no attributes; t.index(k), t such a tuple of numbers among which k is. -/
namespace PF
open PySem L2 Evl PySem.Spec PyProof.Rows
/-- a plain tuple is a tuple -/
def cDem (c : EX) : EX := fun ρ S => bindO (c ρ S) fun d S => match d with
  | .tpn xs => some (.ok (.tup xs), S)
  | d => some (.ok d, S)
theorem RE.dem {T : List (Addr × Str)} {X : Cx} {W : WX} {e : Expr} {c : EX} (h : RE T false X W e c) : RE T false X W e (cDem c) := by
  obtain ⟨t, p, f⟩ := h
  refine ⟨t, p, fun σ ρ F μ S H Q s hE g => f σ ρ F μ S H Q s hE (GP.seq g fun d F1 μ1 H1 S1 e1 q1 s1 g1 v rv => ?_)⟩
  cases rv with
  | tpn h k r => exact gp_val g1 s1 (.tup (.inl (.inr ⟨_, h⟩)) r)
  | non => exact gp_val g1 s1 .non
  | bl b => exact gp_val g1 s1 (.bl b)
  | int i => exact gp_val g1 s1 (.int i)
  | str z => exact gp_val g1 s1 (.str z)
  | tup h r => exact gp_val g1 s1 (.tup h r)
  | lst h r => exact gp_val g1 s1 (.lst h r)
  | fz h r => exact gp_val g1 s1 (.fz h r)
  | loc h => exact gp_val g1 s1 (.loc h)
  | fn h k => exact gp_val g1 s1 (.fn h k)
  | dct h => exact gp_val g1 s1 (.dct h)
def rTupN (K : PySem.W.Frag) : List V → Hp → VK → Prop := fun ws H1 Q => ∃ (src : Addr) (ys : List V), ws = [V.ref src] ∧ SqL K H1 src ys ∧
  ∀ (dst : Addr) (ob : Obj), H1 dst = none → ob.dict = none → Q (.ref dst) (upd H1 dst (.frz ob (.tup ys)))
theorem call_tupN {X : Cx} : CallR X (.type "tuple") (rTupN X.K) := by
  intro pins0 st σ0 H0 ws us0 Q0 J rel hyp
  obtain ⟨src, ys, rfl, hsrc, fin⟩ := hyp
  obtain ⟨u0, rfl, ru0⟩ := vals1 rel
  cases ru0
  obtain ⟨items, rels, laidL, fits⟩ := J.list hsrc
  have same := rels.length
  refine call_tuple_list laidL.isList (fun h2 keep2 => ?_) (by rw [List.size_toArray]; omega)
  have J1 : Inv X pins0 σ0 H0 { st with heap := h2 } := J.kept (t' := st.toks) keep2
  have got : (h2.push { cls := .type "tuple", data := .seq items.toArray }).get? h2.objs.size = some { cls := .type "tuple", data := .seq items.toArray } := Heap.get?_push_size _ rfl
  have J2 := J1.laid (a := h2.objs.size) (o := .frz { cls := .type "tuple", data := .seq items.toArray } (.tup ys)) (h' := h2.push { cls := .type "tuple", data := .seq items.toArray }) (t' := st.toks) (fun _ _ z => Heap.get?_push_of_some _ z) (Nat.le_refl _)
    ⟨got, fits, items, rels, IsTup.new _ _⟩
  exact ⟨.ref h2.objs.size, _, J2, rfl, fin _ _ (J1.hok.fresh (Nat.le_refl _)) rfl⟩
def bTupN : OpB := fun ds S => match ds with
  | [d] => (match asL d S with
    | some xs => some (.ok (.tpn xs), S)
    | none => none)
  | _ => none
theorem bTupN_ok {X : Cx} {T : List (Addr × Str)} : BltOk X T false (rTupN X.K) bTupN := by
  intro F μ S H ds vs Q er s rs h
  unfold bTupN at h
  split at h
  · obtain ⟨v, rfl, r⟩ := rs.inv1
    split at h
    · rename_i xs hq
      obtain ⟨a, ws, rfl, h1, h2⟩ := asL_ok s r hq
      refine ⟨a, ws, rfl, h1, fun p o hp ho => ?_⟩
      exact h (upd F p (.frz o (.tup ws))) μ _ (Ex.new (fresh_back s.ex hp)) (List.prefix_refl _) (s.new hp) _ (.tpn upd_same ho (h2.mono (Ex.new (fresh_back s.ex hp)) (List.prefix_refl _)))
    · exact h.elim
  · exact h.elim
def cTIndex (a b : EX) : EX := fun ρ S => bindO (a ρ S) fun d S => match d with
  | .tpn ds => (match intsOf ds with
    | some ns => bindO (b ρ S) fun y S => match y with
      | .int k => if k ∈ ns then some (.ok (.int (ns.idxOf k)), S) else none
      | _ => none
    | none => none)
  | _ => none
/-- o.index(e), o such a tuple -/
def tTIx (to te : TE) : TE := fun σ H Q => to σ H fun x H1 => ∃ (p : Addr) (ob : Obj) (ns : List Int), x = .ref p ∧ H1 p = some (.frz ob (.tup (ns.map V.int))) ∧ ob.dict = none ∧
  te σ H1 fun y H2 => ∃ k : Int, y = .int k ∧ H2 p = some (.frz ob (.tup (ns.map V.int))) ∧ k ∈ ns ∧ Q (.int (ns.idxOf k : Nat)) H2
section
variable {T : List (Addr × Str)} {X : Cx} {W : WX}
theorem pe_tix {o e : Expr} {apos cpos : Pos} {to te : TE} (po : PE X o to) (pe : PE X e te)
    (hbase : attributeBase o "index" X.env (eval o X.env) = eval o X.env)
    (hfew : ((backTo cpos (starEach [e] X.env)).all (fun x => !x.1) && (backToKw cpos (keywordEach [] X.env)).all (fun x => x.1.isSome)
      && decide ([e].length + ([] : List Keyword).length + (if ([] : List Keyword).isEmpty then 0 else 1) < 30)) = true)
    (hline : (apos.endLine == cpos.line) = true) (hs : starEach [e] X.env = (false, eval e X.env) :: starEach [] X.env) (hplain : (backTo cpos (starEach [] X.env)).any (·.1) = false) :
    PE X (.Call (.Attribute o "index" apos) [e] [] cpos) (tTIx to te) := by
  constructor
  intro pins st σ0 H0 Q0 J hyp
  apply wpAny_Call_method_late hbase hfew hline rfl
  refine thn (po.run pins st σ0 H0 _ J hyp) fun v st1 ⟨x, H1, J1, rx, p, ob, ns, ex, hp, hd, rest⟩ => ?_
  subst ex
  cases rx
  obtain ⟨gp, _, its, rvs, tp⟩ := J1.hok p _ hp
  have htp : st1.TypeIs (.ref p) "tuple" := tp.typeIs
  refine ⟨"tuple", "tuple.index", PySem.F.plainAttrs_tuple, PySem.F.slot_tuple_index, PySem.F.type_tuple_index, htp, fun a ea => ?_, ?_⟩
  · cases ea
    exact ⟨ob, gp, hd⟩
  have argsE := (pa_cons pe pa_nil hs).run cpos pins st1 σ0 H1 (fun ys H2 => match ys with
    | [y] => ∃ k : Int, y = .int k ∧ H2 p = some (.frz ob (.tup (ns.map V.int))) ∧ k ∈ ns ∧ Q0 (.int (ns.idxOf k : Nat)) H2
    | _ => False) J1 rest
  rw [hs] at argsE ⊢
  refine Calls.callWith_builtin (by show (false || (backTo cpos (starEach [] X.env)).any (·.1)) = false; rw [hplain]; rfl) (Calls.evalArgs_plain ?_)
  refine thn argsE fun us st2 ⟨ys, H2, J2, rys, hq⟩ => ?_
  match ys, hq, rys with
  | [y], ⟨k, ey, hp2, hk, fin⟩, rys =>
    subst ey
    obtain ⟨u, rfl, t, rfl⟩ := vals1 rys
    obtain ⟨gp2, _, its2, rv2, tp2⟩ := J2.hok p _ hp2
    exact SeqAt.tuple_index_ints (vs := its2) tp2 rv2.ints hk ⟨.int (ns.idxOf k : Nat), H2, J2.tok _, ⟨_, rfl⟩, fin⟩
theorem re_tindex {o e : Expr} {apos cpos : Pos} {a b : EX} (ho : RE T false X W o a) (he : RE T false X W e b)
    (hbase : attributeBase o "index" X.env (eval o X.env) = eval o X.env := by rfl)
    (hfew : ((backTo cpos (starEach [e] X.env)).all (fun x => !x.1) && (backToKw cpos (keywordEach [] X.env)).all (fun x => x.1.isSome)
      && decide ([e].length + ([] : List Keyword).length + (if ([] : List Keyword).isEmpty then 0 else 1) < 30)) = true := by rfl)
    (hline : (apos.endLine == cpos.line) = true := by rfl) (hs : starEach [e] X.env = (false, eval e X.env) :: starEach [] X.env := by rfl) (hplain : (backTo cpos (starEach [] X.env)).any (·.1) = false := by rfl) :
    RE T false X W (.Call (.Attribute o "index" apos) [e] [] cpos) (cTIndex a b) := by
  obtain ⟨t, p, f⟩ := ho
  obtain ⟨t2, p2, f2⟩ := he
  refine ⟨_, pe_tix p p2 hbase hfew hline hs hplain, fun σ ρ F μ S H Q s hE g => f σ ρ F μ S H _ s hE (GP.seq g fun d F1 μ1 H1 S1 e1 q1 s1 g1 v rv => ?_)⟩
  cases rv with
  | @tpn A ob xs ds hA hd rs =>
    cases hns : intsOf ds with
    | none =>
      dsimp only at g1
      rw [hns] at g1
      exact g1.elim
    | some ns =>
      dsimp only at g1
      rw [hns] at g1
      have e := intsOf_back hns
      subst e
      have ex := reps_back rs
      subst ex
      refine ⟨A, ob, ns, rfl, s1.ex _ _ hA, hd, f2 σ ρ F1 μ1 S1 H1 _ s1 (hE.mono e1 q1) (GP.seq g1 fun y F2 μ2 H2 S2 e2 q2 s2 g2 u ru => ?_)⟩
      cases ru with
      | int k =>
        dsimp only at g2
        split at g2
        · rename_i hk
          exact ⟨k, rfl, s2.ex _ _ (e2 _ _ hA), hk, gp_val g2 s2 (.int _)⟩
        · exact g2.elim
      | _ => exact g2.elim
  | _ => exact g1.elim
end
theorem r_tindex {a b : EX} {ρ : Env} {S : Store} {Q : D → Store → Prop} {E : XV → Store → Prop} (h : Pst (a ρ S) (fun d S => ∃ ns : List Int, d = .tpn (ns.map D.int) ∧ Pst (b ρ S) (fun y S => ∃ k : Int, y = .int k ∧ k ∈ ns ∧ Q (.int (ns.idxOf k)) S) E) E) : Pst (cTIndex a b ρ S) Q E := by
  have e : cTIndex a b ρ S = bindO (a ρ S) fun d S => match d with
    | .tpn ds => (match intsOf ds with
      | some ns => bindO (b ρ S) fun y S => match y with
        | .int k => if k ∈ ns then some (.ok (.int (ns.idxOf k)), S) else none
        | _ => none
      | none => none)
    | _ => none := rfl
  rw [e, Pst_bind]
  refine h.mono (fun d S h => ?_) fun _ _ h => h
  obtain ⟨ns, rfl, h⟩ := h
  simp only [intsOf_map, Pst_bind]
  refine h.mono (fun y S h => ?_) fun _ _ h => h
  obtain ⟨k, rfl, hk, q⟩ := h
  simp only [if_pos hk, Pst_ok]
  exact q
theorem r_dem {a : EX} {ρ : Env} {S : Store} {xs : List D} {Q : D → Store → Prop} {E : XV → Store → Prop} (h : Pst (a ρ S) (fun d S => d = .tpn xs ∧ Q (.tup xs) S) E) : Pst (cDem a ρ S) Q E := by
  have e : cDem a ρ S = bindO (a ρ S) fun d S => match d with
    | .tpn xs => some (.ok (.tup xs), S)
    | d => some (.ok d, S) := rfl
  rw [e, Pst_bind]
  refine h.mono (fun d S h => ?_) fun _ _ h => h
  obtain ⟨rfl, q⟩ := h
  exact q
end PF
set_option Elab.async false
set_option linter.all false
set_option maxRecDepth 100000
set_option maxHeartbeats 4000000
/-! PFK: a dict of a zip of two tuples. -/
namespace PF
open PySem L2 Evl PySem.Spec PyProof.Rows
section
variable {pr : Program} {wo : World} {ar : Around} {ex : Value → Shared → Prop} {st : Shared}
variable {z TI TO P i1 i2 l1 l2 : Addr} {fl : Bool} {ob : Obj} {k : Nat} {xs ys : Array Value} {x y : Value}
/-- the next pair, while the last one is still held -/
theorem zt_next (D : ZipApart z TI TO i1 i2 l1 l2) (hz : IsZipHeld st.heap z TI TO P fl) (hP : st.heap.get? P = some ob) (hI : IsPair st.heap TI (.ref i1) (.ref i2))
    (h1 : st.heap.IsTupleIter i1 l1 k) (h2 : st.heap.IsTupleIter i2 l2 k) (t1 : st.heap.IsTuple l1 xs) (t2 : st.heap.IsTuple l2 ys) (e1 : xs[k]? = some x) (e2 : ys[k]? = some y) {R : Value → Shared → Prop}
    (go : ∀ hp, IsZipHeld hp z TI TO P true → hp.IsTupleIter i1 l1 (k + 1) → hp.IsTupleIter i2 l2 (k + 1) → IsPair hp st.heap.objs.size x y → (∀ c o, c ≠ z → c ≠ i1 → c ≠ i2 → st.heap.get? c = some o → hp.get? c = some o) → R (.ref st.heap.objs.size) { st with heap := hp }) :
    wpAny (model pr wo) ar (Builtin.«zip.__next__» ⟨[.ref z], []⟩) (fun r s' => ∃ v, r = .done (.ret v) ∧ R v s') ex st := by
  show wpAny (model pr wo) ar (field (.ref z) 2 >>= _) _ ex st
  refine wpAny_bind (wpAny_field hz rfl (x := .bool false) rfl (?_ : wpAny (model pr wo) ar (field (.ref z) 3 >>= _) _ ex st))
  refine wpAny_bind (wpAny_field hz rfl (x := .ref TI) rfl (wpAny_bind (wpAny_seqItems hI rfl (?_ : wpAny (model pr wo) ar (Builtin.SmallTypes.ownedTupleIsFree (.ref z) >>= _) _ ex st))))
  refine wpAny_bind (wpAny_tupleHeld_zip hz hP fun hA zA sA => ?_)
  rw [if_neg (by decide : ¬ (false = true))]
  refine wpAny_bind ?_
  rw [← Array.forIn_toList]
  simp only [List.forIn_nil, List.forIn_cons]
  have a1 : hA.IsTupleIter i1 l1 k := h1.at fun o q => sA.extBut _ _ D.i1z q
  have a2 : hA.IsTupleIter i2 l2 k := h2.at fun o q => sA.extBut _ _ D.i2z q
  have b1 : hA.IsTuple l1 xs := t1.at fun o q => sA.extBut _ _ D.l1z q
  have b2 : hA.IsTuple l2 ys := t2.at fun o q => sA.extBut _ _ D.l2z q
  refine wpAny_bind (wpAny_bind (wpAny_holding (?_ : wpAny (model pr wo) ar (Builtin.SmallTypes.nextOf (.ref i1) >>= _) _ ex _)))
  refine wpAny_bind (RZ.nextOf_tuple_item (s := { st with heap := hA }) a1 b1 e1 fun hB c1 sB => wpAny_pure (wpAny_pure ?_))
  have c2 : hB.IsTupleIter i2 l2 k := a2.at fun o q => sB.extBut _ _ D.i12.symm q
  have d2 : hB.IsTuple l2 ys := b2.at fun o q => sB.extBut _ _ D.l2i1 q
  refine wpAny_bind (wpAny_bind (wpAny_holding (?_ : wpAny (model pr wo) ar (Builtin.SmallTypes.nextOf (.ref i2) >>= _) _ ex _)))
  refine wpAny_bind (RZ.nextOf_tuple_item (s := { st with heap := hB }) c2 d2 e2 fun hC f2 sC => wpAny_pure (wpAny_pure ?_))
  refine wpAny_pure (?_ : wpAny (model pr wo) ar (newTuple [x, y] >>= _) _ ex _)
  refine wpAny_bind (wpAny_newTuple (wpAny_pure ⟨_, rfl, ?_⟩))
  have size : hC.objs.size = st.heap.objs.size := sC.1.trans (sB.1.trans sA.1)
  have keep : ∀ c o, c ≠ z → c ≠ i1 → c ≠ i2 → st.heap.get? c = some o → hC.get? c = some o := fun c o n1 n2 n3 q => sC.extBut _ _ n3 (sB.extBut _ _ n2 (sA.extBut _ _ n1 q))
  have mine : IsPair (hC.push { cls := .type "tuple", data := .seq #[x, y] }) hC.objs.size x y := Heap.get?_push_size _ rfl
  have zC : IsZipHeld hC z TI TO P true := sC.extBut _ _ D.i2z.symm (sB.extBut _ _ D.i1z.symm zA)
  show R (.ref hC.objs.size) _
  rw [size] at mine ⊢
  exact go _ (Heap.get?_push_of_some _ zC) ((c1.at fun o q => sC.extBut _ _ D.i12 q).at fun o q => Heap.get?_push_of_some _ q) (f2.at fun o q => Heap.get?_push_of_some _ q) mine fun c o n1 n2 n3 q => Heap.get?_push_of_some _ (keep c o n1 n2 n3 q)
theorem zt_pull (D : ZipApart z TI TO i1 i2 l1 l2) (hz : IsZipHeld st.heap z TI TO P fl) (hP : st.heap.get? P = some ob) (hI : IsPair st.heap TI (.ref i1) (.ref i2))
    (h1 : st.heap.IsTupleIter i1 l1 k) (h2 : st.heap.IsTupleIter i2 l2 k) (t1 : st.heap.IsTuple l1 xs) (t2 : st.heap.IsTuple l2 ys) (e1 : xs[k]? = some x) (e2 : ys[k]? = some y) {R : Option Value → Shared → Prop}
    (go : ∀ hp, IsZipHeld hp z TI TO P true → hp.IsTupleIter i1 l1 (k + 1) → hp.IsTupleIter i2 l2 (k + 1) → IsPair hp st.heap.objs.size x y → (∀ c o, c ≠ z → c ≠ i1 → c ≠ i2 → st.heap.get? c = some o → hp.get? c = some o) → R (some (.ref st.heap.objs.size)) { st with heap := hp }) :
    wpAny (model pr wo) ar (pyNext (.ref z)) R ex st := by
  have ty : st.TypeIs (.ref z) "zip" := ⟨_, hz, rfl⟩
  unfold pyNext
  refine wpAny_bind (wpAny_attempt (wpAny_callSpecial?_slot (name := Str.ofString "__next__") ty F.slot_zip_next (wpAny_call_entry F.slot_zip_next ty F.entry_zip_next ?_ (F.args_zip_next_1 _))))
  exact zt_next D hz hP hI h1 h2 t1 t2 e1 e2 fun hp g1 g2 g3 g4 g5 => wpAny_pure (go hp g1 g2 g3 g4 g5)
/-- no pair is left -/
theorem zt_last (hh : ar.handled = none) (D : ZipApart z TI TO i1 i2 l1 l2) (hz : IsZipHeld st.heap z TI TO P fl) (hP : st.heap.get? P = some ob) (hI : IsPair st.heap TI (.ref i1) (.ref i2))
    (h1 : st.heap.IsTupleIter i1 l1 k) (t1 : st.heap.IsTuple l1 xs) (e1 : xs[k]? = none) {R : PySem.Fin → Shared → Prop}
    (go : ∀ hp e, (∀ c o, c ≠ z → c ≠ i1 → st.heap.get? c = some o → hp.get? c = some o) → (∃ o, hp.get? e = some o ∧ o.cls = .type "StopIteration") → ex (.ref e) { st with heap := hp }) :
    wpAny (model pr wo) ar (Builtin.«zip.__next__» ⟨[.ref z], []⟩) R ex st := by
  show wpAny (model pr wo) ar (field (.ref z) 2 >>= _) _ ex st
  refine wpAny_bind (wpAny_field hz rfl (x := .bool false) rfl (?_ : wpAny (model pr wo) ar (field (.ref z) 3 >>= _) _ ex st))
  refine wpAny_bind (wpAny_field hz rfl (x := .ref TI) rfl (wpAny_bind (wpAny_seqItems hI rfl (?_ : wpAny (model pr wo) ar (Builtin.SmallTypes.ownedTupleIsFree (.ref z) >>= _) _ ex st))))
  refine wpAny_bind (wpAny_tupleHeld_zip hz hP fun hA zA sA => ?_)
  rw [if_neg (by decide : ¬ (false = true))]
  refine wpAny_bind ?_
  rw [← Array.forIn_toList]
  simp only [List.forIn_nil, List.forIn_cons]
  have a1 : hA.IsTupleIter i1 l1 k := h1.at fun o q => sA.extBut _ _ D.i1z q
  have b1 : hA.IsTuple l1 xs := t1.at fun o q => sA.extBut _ _ D.l1z q
  refine wpAny_bind (wpAny_bind (wpAny_holding (?_ : wpAny (model pr wo) ar (Builtin.SmallTypes.nextOf (.ref i1) >>= _) _ ex _)))
  exact wpAny_bind (RZ.nextOf_tuple_end (s := { st with heap := hA }) hh a1 b1 e1 fun hB e sB he => go hB e (fun c o n1 n2 q => sB _ _ n2 (sA.extBut _ _ n1 q)) he)
theorem zt_stop (hh : ar.handled = none) (D : ZipApart z TI TO i1 i2 l1 l2) (hz : IsZipHeld st.heap z TI TO P fl) (hP : st.heap.get? P = some ob) (hI : IsPair st.heap TI (.ref i1) (.ref i2))
    (h1 : st.heap.IsTupleIter i1 l1 k) (t1 : st.heap.IsTuple l1 xs) (e1 : xs[k]? = none) {R : Option Value → Shared → Prop}
    (go : ∀ hp, (∀ c o, c ≠ z → c ≠ i1 → st.heap.get? c = some o → hp.get? c = some o) → R none { st with heap := hp }) : wpAny (model pr wo) ar (pyNext (.ref z)) R ex st := by
  have ty : st.TypeIs (.ref z) "zip" := ⟨_, hz, rfl⟩
  unfold pyNext
  refine wpAny_bind (wpAny_attempt (wpAny_callSpecial?_slot (name := Str.ofString "__next__") ty F.slot_zip_next (wpAny_call_entry F.slot_zip_next ty F.entry_zip_next ?_ (F.args_zip_next_1 _))))
  refine zt_last (ar := ar.in1) hh D hz hP hI h1 t1 e1 fun hp e kp he => ?_
  obtain ⟨o, ho, hc⟩ := he
  exact wpAny_bind (wpAny_isInstance (T := "StopIteration") (b := true) ⟨o, ho, hc⟩ isSubtype_stop (wpAny_pure (go _ kp)))
end
/-- where the walk over a zip of two tuples stands -/
def ZtSt (z TI TO i1 i2 l1 l2 d : Addr) (xs ys : Array Value) (i : Nat) (h : Heap) : Prop := IsPair h TI (.ref i1) (.ref i2) ∧ h.IsTupleIter i1 l1 i ∧ h.IsTupleIter i2 l2 i ∧ h.IsTuple l1 xs ∧ h.IsTuple l2 ys ∧
  ((IsZip h z TI TO .none ∧ ∃ a b, IsPair h TO a b) ∨ ∃ P fl ob, IsZipHeld h z TI TO P fl ∧ h.get? P = some ob ∧ P ≠ z ∧ P ≠ i1 ∧ P ≠ i2 ∧ P ≠ d)
theorem zt_src {pr : Program} {wo : World} {ar : Around} {z TI TO i1 i2 l1 l2 d : Addr} {xs ys : Array Value} {n : Nat} (hh : ar.handled = none) (D : ZipApart z TI TO i1 i2 l1 l2) (s1 : xs.size = n) (s2 : ys.size = n) (hd : d ∉ [z, TI, TO, i1, i2, l1, l2]) :
    PairSrc pr wo ar z d [z, TO, i1, i2] n (fun i k v => xs[i]? = some k ∧ ys[i]? = some v) (ZtSt z TI TO i1 i2 l1 l2 d xs ys) := by
  simp only [List.mem_cons, List.not_mem_nil, or_false, not_or] at hd
  obtain ⟨dz, dTI, dTO, d1, d2, dl1, dl2⟩ := hd
  refine ⟨?_, ?_, ?_, ?_⟩
  · simp [dz, dTO, d1, d2]
  · rintro i h h' ⟨p1, p2, p3, p4, p5, p6⟩ kp
    refine ⟨kp _ _ (Ne.symm dTI) p1, p2.at fun o q => kp _ _ (Ne.symm d1) q, p3.at fun o q => kp _ _ (Ne.symm d2) q, p4.at fun o q => kp _ _ (Ne.symm dl1) q, p5.at fun o q => kp _ _ (Ne.symm dl2) q, ?_⟩
    rcases p6 with ⟨q1, a, b, q2⟩ | ⟨P, fl, ob, q1, q2, q3, q4, q5, q6⟩
    · exact .inl ⟨kp _ _ (Ne.symm dz) q1, a, b, kp _ _ (Ne.symm dTO) q2⟩
    · exact .inr ⟨P, fl, ob, kp _ _ (Ne.symm dz) q1, kp _ _ q6 q2, q3, q4, q5, q6⟩
  · rintro i st R ex hi ⟨p1, p2, p3, p4, p5, p6⟩ hds go
    have e1 : xs[i]? = some (xs[i]'(by omega)) := Array.getElem?_eq_getElem (by omega)
    have e2 : ys[i]? = some (ys[i]'(by omega)) := Array.getElem?_eq_getElem (by omega)
    have far : ∀ {c o}, st.heap.get? c = some o → st.heap.objs.size ≠ c := fun q => Nat.ne_of_gt (Heap.lt_size q)
    have f1 : st.heap.objs.size ≠ i1 := let ⟨_, q, _⟩ := p2; far q
    have f2 : st.heap.objs.size ≠ i2 := let ⟨_, q, _⟩ := p3; far q
    rcases p6 with ⟨q1, a, b, q2⟩ | ⟨P, fl, ob, q1, q2, q3, q4, q5, q6⟩
    · refine RZ.pyNext_zipT_item D q1 p1 q2 p2 p3 p4 p5 e1 e2 fun hp g1 g2 g3 g4 g5 g6 kp => ?_
      refine go st.heap.objs.size _ _ hp st.toks ⟨e1, e2⟩ (.inl ⟨_, g5, rfl, _, rfl⟩) ⟨kp _ _ D.TIz D.TITO D.TIi1 D.TIi2 p1, g3, g4, p4.at fun o q => kp _ _ D.l1z D.l1TO D.l1i1 D.l1i2 q, p5.at fun o q => kp _ _ D.l2z D.l2TO D.l2i1 D.l2i2 q, .inr ⟨st.heap.objs.size, false, _, g1, g5, far q1, f1, f2, Nat.ne_of_gt hds⟩⟩ fun c o hc q => ?_
      simp only [List.mem_cons, List.not_mem_nil, or_false, not_or] at hc
      exact kp _ _ hc.1 hc.2.1 hc.2.2.1 hc.2.2.2 q
    · refine zt_pull D q1 q2 p1 p2 p3 p4 p5 e1 e2 fun hp g1 g3 g4 g5 kp => ?_
      refine go st.heap.objs.size _ _ hp st.toks ⟨e1, e2⟩ (.inl ⟨_, g5, rfl, _, rfl⟩) ⟨kp _ _ D.TIz D.TIi1 D.TIi2 p1, g3, g4, p4.at fun o q => kp _ _ D.l1z D.l1i1 D.l1i2 q, p5.at fun o q => kp _ _ D.l2z D.l2i1 D.l2i2 q, .inr ⟨P, true, ob, g1, kp _ _ q3 q4 q5 q2, q3, q4, q5, q6⟩⟩ fun c o hc q => ?_
      simp only [List.mem_cons, List.not_mem_nil, or_false, not_or] at hc
      exact kp _ _ hc.1 hc.2.2.1 hc.2.2.2 q
  · rintro st R ex ⟨p1, p2, p3, p4, p5, p6⟩ go
    have e1 : xs[n]? = none := Array.getElem?_eq_none (by omega)
    rcases p6 with ⟨q1, a, b, q2⟩ | ⟨P, fl, ob, q1, q2, q3, q4, q5, q6⟩
    · refine RZ.pyNext_zipT_end hh D q1 p1 q2 p2 p3 p4 p5 (.inl e1) fun hp kp => go hp st.toks fun c o hc q => ?_
      simp only [List.mem_cons, List.not_mem_nil, or_false, not_or] at hc
      exact kp _ _ hc.1 hc.2.1 hc.2.2.1 hc.2.2.2 q
    · refine zt_stop hh D q1 q2 p1 p2 p4 e1 fun hp kp => go hp st.toks fun c o hc q => ?_
      simp only [List.mem_cons, List.not_mem_nil, or_false, not_or] at hc
      exact kp _ _ hc.1 hc.2.2.1 q
theorem zt_arg {pr : Program} {wo : World} {z TI TO i1 i2 l1 l2 : Addr} {xs ys : Array Value} {n : Nat} (D : ZipApart z TI TO i1 i2 l1 l2) (s1 : xs.size = n) (s2 : ys.size = n) :
    PairArg pr wo "zip" z [z, TI, TO, i1, i2, l1, l2] [z, TO, i1, i2] n (fun i k v => xs[i]? = some k ∧ ys[i]? = some v)
      (fun h => (IsZip h z TI TO .none ∧ ∃ a b, IsPair h TO a b) ∧ IsPair h TI (.ref i1) (.ref i2) ∧ h.IsTupleIter i1 l1 0 ∧ h.IsTupleIter i2 l2 0 ∧ h.IsTuple l1 xs ∧ h.IsTuple l2 ys) := by
  refine ⟨fun s ok => ⟨_, ok.1.1, rfl⟩, by decide, ?_, ?_, ?_, ?_, ?_⟩
  · rintro h h' ⟨⟨q1, a, b, q2⟩, p1, p2, p3, p4, p5⟩ kp
    exact ⟨⟨kp _ _ q1, a, b, kp _ _ q2⟩, kp _ _ p1, p2.at fun o q => kp _ _ q, p3.at fun o q => kp _ _ q, p4.at fun o q => kp _ _ q, p5.at fun o q => kp _ _ q⟩
  · rintro h ⟨⟨q1, a, b, q2⟩, p1, ⟨o2, p2, _⟩, ⟨o3, p3, _⟩, ⟨o4, p4, _⟩, ⟨o5, p5, _⟩⟩ c hc
    simp only [List.mem_cons, List.not_mem_nil, or_false] at hc
    rcases hc with rfl | rfl | rfl | rfl | rfl | rfl | rfl
    · exact ⟨_, q1⟩
    · exact ⟨_, p1⟩
    · exact ⟨_, q2⟩
    · exact ⟨_, p2⟩
    · exact ⟨_, p3⟩
    · exact ⟨_, p4⟩
    · exact ⟨_, p5⟩
  · intro c hc
    simp only [List.mem_cons, List.not_mem_nil, or_false] at hc ⊢
    rcases hc with h | h | h | h <;> simp [h]
  · exact fun A s R ex hh ok go => getAttrOr_miss_zip ok.1.1 rfl rfl rfl zip_no_keys (by decide +kernel) hh go
  · rintro A s d R ex hh ⟨q, p1, p2, p3, p4, p5⟩ hd hdf go
    exact wpAny_pyIter_zip q.1 (go z [z, TO, i1, i2] _ s.heap s.toks (zt_src hh D s1 s2 hdf) ⟨p1, p2, p3, p4, p5, .inl q⟩ (fun _ _ q => q) fun c hc => .inl hc)
end PF
set_option Elab.async false
set_option linter.all false
set_option maxRecDepth 100000
set_option maxHeartbeats 4000000
namespace PF
open PySem L2 Evl PySem.Spec PyProof.Rows
theorem merge_new : ∀ (more acc : List (Key × V)), (more.map (·.1)).Nodup → (∀ q ∈ more, valV acc q.1 = none) → mergeK acc more = acc ++ more
  | [], acc, _, _ => by rw [List.append_nil]; rfl
  | q :: more, acc, hn, ha => by
    have e : mergeK acc (q :: more) = mergeK (putK acc q.1 q.2) more := rfl
    rw [List.map_cons, List.nodup_cons] at hn
    rw [e, putK_new q.2 (ha q List.mem_cons_self), merge_new more _ hn.2 fun r hr => ?_, List.append_assoc]
    · rfl
    · have h1 : r.1 ≠ q.1 := fun z => hn.1 (by rw [← z]; exact List.mem_map.mpr ⟨r, hr, rfl⟩)
      rw [valV_snoc _ _ _ _ (ha q List.mem_cons_self), if_neg h1]
      exact ha r (List.mem_cons_of_mem _ hr)
def dzK (ks vs : List Int) : List (Key × V) := (ks.zip vs).map fun p => (Sum.inl p.1, V.int p.2)
theorem dz_merge {ks vs : List Int} (hn : ks.Nodup) (hl : ks.length = vs.length) : mergeK [] (dzK ks vs) = dzK ks vs := by
  rw [merge_new (dzK ks vs) [] ?_ fun _ _ => rfl, List.nil_append]
  have e : (dzK ks vs).map (·.1) = ks.map fun k => (Sum.inl k : Key) := by
    unfold dzK
    rw [List.map_map]
    have := List.map_fst_zip (l₁ := ks) (l₂ := vs) (by omega)
    conv => rhs; rw [← this, List.map_map]
    rfl
  rw [e]
  exact hn.map (f := fun k => (Sum.inl k : Key)) fun a b h e => h (by injection e)
theorem kv_zip : ∀ {ks vs : List Int} {us : List Value}, Vals (vs.map V.int) us → KV (dzK ks vs) ((ks.zip us).map fun q => (Sum.inl q.1, q.2))
  | [], _, _, _ => by simp only [dzK, List.zip_nil_left, List.map_nil]; exact .nil
  | _ :: _, [], us, r => by
    rw [List.map_nil] at r
    cases r
    simp only [dzK, List.zip_nil_right, List.map_nil]; exact .nil
  | k :: ks, v :: vs, us, r => by
    rw [List.map_cons] at r
    cases r with
    | cons h t => exact .cons ⟨rfl, h⟩ (kv_zip (ks := ks) t)
section
variable {X : Cx}
/-- dict(zip(a, b)) of two tuples of numbers -/
def tDZ (K : PySem.W.Frag) (ta : TA) : TE := fun σ H Q => ta σ H fun ws H1 => ∃ (a b : Addr) (ks vs : List Int), ws = [.ref a, .ref b] ∧ SqT K H1 a (ks.map V.int) ∧ SqT K H1 b (vs.map V.int) ∧ ks.length = vs.length ∧
  ∀ p, H1 p = none → Q (.ref p) (upd H1 p (.dK (mergeK [] (dzK ks vs))))
theorem pe_dzip {e1 e2 : Expr} {ta : TA} {p p2 pos pos2 : Pos} (hcalm : X.calm = true) (hm1 : X.mg "dict" = none) (hm2 : X.mg "zip" = none) (ha : PA X [e1, e2] ta) (hg1 : Gl X "dict" := by rfl) (hg2 : Gl X "zip" := by rfl)
    (hs : starEach [e1, e2] X.env = (false, eval e1 X.env) :: starEach [e2] X.env := by rfl) (hpl : (backTo pos2 (starEach [e2] X.env)).any (·.1) = false := by rfl)
    (hs0 : starEach [.Call (.Name "zip" p2) [e1, e2] [] pos2] X.env = (false, eval (.Call (.Name "zip" p2) [e1, e2] [] pos2) X.env) :: starEach [] X.env := by rfl) :
    PE X (.Call (.Name "dict" p) [.Call (.Name "zip" p2) [e1, e2] [] pos2] [] pos) (tDZ X.K ta) := by
  refine ⟨fun pins s σ H Q I h => ?_⟩
  refine wpAny_Call_Name_kw (ld_blt I hg1 hm1 (show bootBuiltins "dict" = some (.type "dict") by decide +kernel) ?_)
  refine PyProof.Rows.callWith_type1 ?_ hs0
  rw [hs0]
  show wpAny _ _ (spliced ((false, eval (.Call (.Name "zip" p2) [e1, e2] [] pos2) X.env) :: backTo pos (starEach [] X.env))) _ _ s
  refine Calls.spliced_cons (wpAny_Call_Name_kw (ld_blt I hg2 hm2 boot_zip (PyProof.Rows.callWith_type1 (thn (ha.run pos2 pins s σ H _ I h) fun us s1 hq => ?_) hs hpl)))
  obtain ⟨ws, H1, I1, r1, a, b, ks, vs, rfl, ta1, tb1, hl, go⟩ := hq
  obtain ⟨u1, u2, rfl, ra, rb⟩ := vals2 r1
  cases ra
  cases rb
  obtain ⟨its1, rv1, pt1, z1⟩ := I1.tuple ta1
  obtain ⟨its2, rv2, pt2, z2⟩ := I1.tuple tb1
  have q1 : s1.heap.IsTuple a its1.toArray := pt1
  have q2 : s1.heap.IsTuple b its2.toArray := pt2
  obtain ⟨o1, g1, _⟩ := id q1
  obtain ⟨o2, g2, _⟩ := id q2
  have len1 : its1.length = ks.length := by have := rv1.length; rw [List.length_map] at this; omega
  have len2 : its2.length = ks.length := by have := rv2.length; rw [List.length_map] at this; omega
  refine RZ.call_zipT q1 q2 fun hp gz gI gO gi gj gs gk => Calls.spliced_nil ?_
  have D := PySem.W.ktu_apart s1.heap.objs.size a b (Heap.lt_size g1) (Heap.lt_size g2)
  have arg := zt_arg (pr := X.prog) (wo := X.w) (xs := its1.toArray) (ys := its2.toArray) (n := ks.length) D (by rw [List.size_toArray]; exact len1) (by rw [List.size_toArray]; exact len2)
  have ok1 : hp.IsTuple a its1.toArray := q1.at fun o q => gk _ _ q
  have ok2 : hp.IsTuple b its2.toArray := q2.at fun o q => gk _ _ q
  have ri1 : IntsAre its1 ks := rv1.ints
  refine PySem.call_dict_pairs (s := { s1 with heap := hp }) (knd := mixKind X.prog X.w) (kvs := (ks.zip its2).map fun q => (Sum.inl q.1, q.2)) arg (I1.ok.hd hcalm) ⟨⟨gz, _, _, gO⟩, gI, gi, gj, ok1, ok2⟩ ⟨?_, ?_⟩ (by rw [List.length_map] at z1; exact z1) ?_
  · rw [List.length_map, List.length_zip, len2]; omega
  · rintro i key v ⟨k1, k2⟩
    rw [List.getElem?_toArray] at k1 k2
    have hi : i < ks.length := by have := (List.getElem?_eq_some_iff.mp k1).1; omega
    obtain ⟨u, hu, ru⟩ := rv1.get (i := i) (x := V.int ks[i]) (by rw [List.getElem?_map, List.getElem?_eq_getElem hi]; rfl)
    have hu2 : u = key := Option.some.inj (hu.symm.trans k1)
    subst hu2
    refine ⟨Sum.inl ks[i], ?_, kV_is (P := X.prog) (w := X.w) (k := Sum.inl ks[i]) ru⟩
    have hz : (ks.zip its2)[i]? = some (ks[i], v) := List.getElem?_zip_eq_some.mpr ⟨List.getElem?_eq_getElem hi, k2⟩
    rw [List.getElem?_map, hz]; rfl
  · intro h' tk hd' kp
    have big : s1.heap.objs.size ≤ hp.objs.size := by omega
    have keep : ∀ c o, s1.heap.get? c = some o → h'.get? c = some o := fun c o q => kp c o (fun m => by
      have low := Heap.lt_size q
      simp only [List.mem_cons, List.not_mem_nil, or_false] at m
      rcases m with e | e | e | e
      · rw [e] at low; exact absurd low (Nat.not_lt.mpr (Nat.le_add_right _ _))
      · rw [e] at low; exact absurd low (Nat.not_lt.mpr (Nat.le_add_right _ _))
      · rw [e] at low; exact absurd low (Nat.lt_irrefl _)
      · rw [e] at low; exact absurd low (Nat.not_lt.mpr (Nat.le_add_right _ _))) (gk _ _ q)
    have zlen : (mergeK [] (dzK ks vs)).length ≤ sizeLine := by
      have e1 : (dzK ks vs).length ≤ ks.length := by
        unfold dzK
        rw [List.length_map, List.length_zip]
        exact Nat.min_le_left _ _
      have e2 := length_mergeK (dzK ks vs) []
      rw [List.length_nil, Nat.zero_add] at e2
      have z3 : ks.length ≤ sizeLine := by rw [List.length_map] at z1; exact z1
      exact Nat.le_trans e2 (Nat.le_trans e1 z3)
    have ok : ObjOk X.prog X.w (upd H1 hp.objs.size (.dK (mergeK [] (dzK ks vs)))) h' hp.objs.size (.dK (mergeK [] (dzK ks vs))) := ⟨zlen, beq_eq_false_iff_ne.mpr (Nat.ne_of_gt (Nat.lt_of_lt_of_le I1.big big)), _, KV.merge (kv_zip rv2) .nil, hd'⟩
    exact ⟨.ref hp.objs.size, upd H1 hp.objs.size (.dK (mergeK [] (dzK ks vs))), I1.laid (t' := tk) keep big ok, rfl, go _ (I1.hok.fresh big)⟩
end
section
variable {X : Cx} {T : List (Addr × Str)} {W : WX}
def cDZ (c : AX) : EX := fun ρ S => bindO (c ρ S) fun ds S => match ds with
  | [.tup xs, .tup ys] => (match intsOf xs, intsOf ys with
    | some ks, some vs => if ks.length = vs.length ∧ ks.Nodup then some (.ok (.dct (ks.zip vs)), S) else none
    | _, _ => none)
  | _ => none
theorem re_dz {e1 e2 : Expr} {c : AX} {p p2 pos pos2 : Pos} (ha : RA T X W [e1, e2] c) (hcalm : X.calm = true) (hm1 : X.mg "dict" = none) (hm2 : X.mg "zip" = none) (hg1 : Gl X "dict" := by rfl) (hg2 : Gl X "zip" := by rfl)
    (hs : starEach [e1, e2] X.env = (false, eval e1 X.env) :: starEach [e2] X.env := by rfl) (hpl : (backTo pos2 (starEach [e2] X.env)).any (·.1) = false := by rfl)
    (hs0 : starEach [.Call (.Name "zip" p2) [e1, e2] [] pos2] X.env = (false, eval (.Call (.Name "zip" p2) [e1, e2] [] pos2) X.env) :: starEach [] X.env := by rfl) :
    RE T false X W (.Call (.Name "dict" p) [.Call (.Name "zip" p2) [e1, e2] [] pos2] [] pos) (cDZ c) := by
  obtain ⟨t, pa, f⟩ := ha
  refine ⟨_, pe_dzip hcalm hm1 hm2 pa hg1 hg2 hs hpl hs0, fun σ ρ F μ S H Q s hE g => f σ ρ F μ S H _ s hE (GP.seq g fun ds F1 μ1 H1 S1 e1 p1 s1 g1 vs rs => ?_)⟩
  split at g1
  · rename_i xs ys
    obtain ⟨v, u, rfl, r1, r2⟩ := rs.inv2
    split at g1
    · rename_i ks vs hk hv
      split at g1
      · rename_i hok
        obtain ⟨a, ws1, rfl, t1, q1⟩ := asT_ok s1 r1 (ds := xs) rfl
        obtain ⟨b, ws2, rfl, t2, q2⟩ := asT_ok s1 r2 (ds := ys) rfl
        rw [ints_rep q1 hk] at t1
        rw [ints_rep q2 hv] at t2
        refine ⟨a, b, ks, vs, rfl, t1, t2, hok.1, fun p hp => ?_⟩
        rw [dz_merge hok.2 hok.1]
        exact g1 (upd F1 p (.dK (dzK ks vs))) μ1 _ (Ex.new (fresh_back s1.ex hp)) (List.prefix_refl _) (s1.new hp) _ (.dct upd_same)
      · exact g1.elim
    · exact g1.elim
  · exact g1.elim
/-- d[k] of a dict of numbers -/
def oDG : Op2 := fun x y S => match x, y with
  | .dct l, .int k => (match l.lookup k with
    | some v => some (.ok (.int v), S)
    | none => none)
  | _, _ => none
theorem valV_look (k : Int) : ∀ l : List (Int × Int), valV (l.map fun p => ((Sum.inl p.1 : Key), V.int p.2)) (Sum.inl k) = (l.lookup k).map V.int
  | [] => rfl
  | p :: l => by
    rw [List.map_cons]
    by_cases h : p.1 = k
    · rw [valV_pos (p := ((Sum.inl p.1 : Key), V.int p.2)) (by rw [h])]
      obtain ⟨a, b⟩ := p
      subst h
      simp [List.lookup]
    · rw [valV_neg (p := ((Sum.inl p.1 : Key), V.int p.2)) (fun e => h (by injection e)), valV_look k l]
      obtain ⟨a, b⟩ := p
      have : (k == a) = false := beq_eq_false_iff_ne.mpr (fun e => h e.symm)
      simp only [List.lookup, this]
theorem re_dg {e1 e2 : Expr} {a b : EX} {pos : Pos} (hu : X.A.units + 1 < cLine) (ha : RE T false X W e1 a) (hb : RE T false X W e2 b) (hs : NoSl e2) : RE T false X W (.Subscript e1 e2 pos) (cBin oDG a b) := by
  obtain ⟨ta, pa, fa⟩ := ha
  obtain ⟨tb, pb, fb⟩ := hb
  refine ⟨_, pe_dget hu pa pb hs, fun σ ρ F μ S H Q s hE g => two (e1 := e1) (e2 := e2) (r := fun x y H Q => ∃ a v, x = .ref a ∧ DGet H a y (some v) ∧ Q v H) fa fb ?_ s hE g⟩
  intro F μ S H x y v u Q er s rx ry h
  unfold oDG at h
  split at h
  · rename_i l k
    split at h
    · rename_i w hw
      cases rx with
      | dct hf =>
        cases ry
        refine ⟨_, .int w, rfl, ?_, gp_val h s (.int w)⟩
        have := DGet.k (k := (Sum.inl k : Key)) (s.ex _ _ hf)
        rw [valV_look, hw] at this
        exact this
    · exact h.elim
  · exact h.elim
end
end PF
set_option Elab.async false
set_option linter.all false
set_option maxRecDepth 100000
set_option maxHeartbeats 4000000
namespace LW
open PySem L2 Evl PySem.Spec PyProof.Rows PF
/-! ### the text by places -/
def top (i : Nat) : Stmt := PySem.Challenge.pw_pledgehall_k54_whole_shares_by_classes.main.body.getD i (.Pass ⟨0, 0, 0, 0⟩)
abbrev wfuel : Nat := 100000
/-! ### is_whole -/
abbrev s_is_whole : Stmt := top 7
theorem sc_is_whole : FnScope ["value"] ["value"] (defScope s_is_whole) := ⟨rfl, rfl, rfl, by decide +kernel, rfl, by decide +kernel, by decide +kernel⟩
theorem pn_is_whole : Posn (defArgs s_is_whole) (defBody s_is_whole) (defScope s_is_whole) "is_whole" ["value"] := fun _ _ _ _ _ _ us hl => match us, hl with | [_], _ => rfl
/-! ### is_number -/
abbrev s_is_number : Stmt := top 8
theorem sc_is_number : FnScope ["value", "low", "high"] ["value", "low", "high"] (defScope s_is_number) := ⟨rfl, rfl, rfl, by decide +kernel, rfl, by decide +kernel, by decide +kernel⟩
theorem pn_is_number : Posn (defArgs s_is_number) (defBody s_is_number) (defScope s_is_number) "is_number" ["value", "low", "high"] := fun _ _ _ _ _ _ us hl => match us, hl with | [_, _, _], _ => rfl
/-! ### is_tuple_of -/
abbrev s_is_tuple_of : Stmt := top 9
theorem sc_is_tuple_of : FnScope ["value", "many"] ["value", "many"] (defScope s_is_tuple_of) := ⟨rfl, rfl, rfl, by decide +kernel, rfl, by decide +kernel, by decide +kernel⟩
theorem pn_is_tuple_of : Posn (defArgs s_is_tuple_of) (defBody s_is_tuple_of) (defScope s_is_tuple_of) "is_tuple_of" ["value", "many"] := fun _ _ _ _ _ _ us hl => match us, hl with | [_, _], _ => rfl
/-! ### wrong_at -/
abbrev s_wrong_at : Stmt := top 10
theorem sc_wrong_at : FnScope ["values", "most", "is_right", "at", "value"] ["values", "most", "is_right"] (defScope s_wrong_at) := ⟨rfl, rfl, rfl, by decide +kernel, rfl, by decide +kernel, by decide +kernel⟩
theorem pn_wrong_at : Posn (defArgs s_wrong_at) (defBody s_wrong_at) (defScope s_wrong_at) "wrong_at" ["values", "most", "is_right"] := fun _ _ _ _ _ _ us hl => match us, hl with | [_, _, _], _ => rfl
/-! ### wrong_from_one -/
abbrev s_wrong_from_one : Stmt := top 11
theorem sc_wrong_from_one : FnScope ["values", "most", "is_right"] ["values", "most", "is_right"] (defScope s_wrong_from_one) := ⟨rfl, rfl, rfl, by decide +kernel, rfl, by decide +kernel, by decide +kernel⟩
theorem pn_wrong_from_one : Posn (defArgs s_wrong_from_one) (defBody s_wrong_from_one) (defScope s_wrong_from_one) "wrong_from_one" ["values", "most", "is_right"] := fun _ _ _ _ _ _ us hl => match us, hl with | [_, _, _], _ => rfl
/-! ### left_of -/
abbrev s_left_of : Stmt := top 14
theorem sc_left_of : FnScope ["rows", "ceilings", "left", "stay"] ["rows", "ceilings"] (defScope s_left_of) := ⟨rfl, rfl, rfl, by decide +kernel, rfl, by decide +kernel, by decide +kernel⟩
theorem pn_left_of : Posn (defArgs s_left_of) (defBody s_left_of) (defScope s_left_of) "left_of" ["rows", "ceilings"] := fun _ _ _ _ _ _ us hl => match us, hl with | [_, _], _ => rfl
/-! ### staying -/
abbrev s_staying : Stmt := top 15
theorem sc_staying : FnScope ["rows", "ceilings", "left", "at"] ["rows", "ceilings", "left"] (defScope s_staying) := ⟨rfl, rfl, rfl, by decide +kernel, rfl, by decide +kernel, by decide +kernel⟩
theorem pn_staying : Posn (defArgs s_staying) (defBody s_staying) (defScope s_staying) "staying" ["rows", "ceilings", "left"] := fun _ _ _ _ _ _ us hl => match us, hl with | [_, _, _], _ => rfl
/-! ### is_told -/
abbrev s_is_told : Stmt := top 16
theorem sc_is_told : FnScope ["value"] ["value"] (defScope s_is_told) := ⟨rfl, rfl, rfl, by decide +kernel, rfl, by decide +kernel, by decide +kernel⟩
theorem pn_is_told : Posn (defArgs s_is_told) (defBody s_is_told) (defScope s_is_told) "is_told" ["value"] := fun _ _ _ _ _ _ us hl => match us, hl with | [_], _ => rfl
/-! ### is_table -/
abbrev s_is_table : Stmt := top 20
theorem sc_is_table : FnScope ["value", "price"] ["value"] (defScope s_is_table) := ⟨rfl, rfl, rfl, by decide +kernel, rfl, by decide +kernel, by decide +kernel⟩
theorem pn_is_table : Posn (defArgs s_is_table) (defBody s_is_table) (defScope s_is_table) "is_table" ["value"] := fun _ _ _ _ _ _ us hl => match us, hl with | [_], _ => rfl
/-! ### check_table -/
abbrev s_check_table : Stmt := top 21
theorem sc_check_table : FnScope ["value"] ["value"] (defScope s_check_table) := ⟨rfl, rfl, rfl, by decide +kernel, rfl, by decide +kernel, by decide +kernel⟩
theorem pn_check_table : Posn (defArgs s_check_table) (defBody s_check_table) (defScope s_check_table) "check_table" ["value"] := fun _ _ _ _ _ _ us hl => match us, hl with | [_], _ => rfl
/-! ### check_ceilings -/
abbrev s_check_ceilings : Stmt := top 22
theorem sc_check_ceilings : FnScope ["value", "most", "wrong"] ["value", "most"] (defScope s_check_ceilings) := ⟨rfl, rfl, rfl, by decide +kernel, rfl, by decide +kernel, by decide +kernel⟩
theorem pn_check_ceilings : Posn (defArgs s_check_ceilings) (defBody s_check_ceilings) (defScope s_check_ceilings) "check_ceilings" ["value", "most"] := fun _ _ _ _ _ _ us hl => match us, hl with | [_, _], _ => rfl
/-! ### check_shared -/
abbrev s_check_shared : Stmt := top 23
theorem sc_check_shared : FnScope ["table", "ceilings"] ["table", "ceilings"] (defScope s_check_shared) := ⟨rfl, rfl, rfl, by decide +kernel, rfl, by decide +kernel, by decide +kernel⟩
theorem pn_check_shared : Posn (defArgs s_check_shared) (defBody s_check_shared) (defScope s_check_shared) "check_shared" ["table", "ceilings"] := fun _ _ _ _ _ _ us hl => match us, hl with | [_, _], _ => rfl
/-! ### price_of -/
abbrev s_price_of : Stmt := top 24
theorem sc_price_of : FnScope ["table", "left"] ["table", "left"] (defScope s_price_of) := ⟨rfl, rfl, rfl, by decide +kernel, rfl, by decide +kernel, by decide +kernel⟩
theorem pn_price_of : Posn (defArgs s_price_of) (defBody s_price_of) (defScope s_price_of) "price_of" ["table", "left"] := fun _ _ _ _ _ _ us hl => match us, hl with | [_, _], _ => rfl
/-! ### share -/
abbrev s_share : Stmt := top 25
theorem sc_share : FnScope ["table", "ceilings", "left"] ["table", "ceilings"] (defScope s_share) := ⟨rfl, rfl, rfl, by decide +kernel, rfl, by decide +kernel, by decide +kernel⟩
theorem pn_share : Posn (defArgs s_share) (defBody s_share) (defScope s_share) "share" ["table", "ceilings"] := fun _ _ _ _ _ _ us hl => match us, hl with | [_, _], _ => rfl
/-! ### check_tables -/
abbrev s_check_tables : Stmt := top 28
theorem sc_check_tables : FnScope ["value", "wrong"] ["value"] (defScope s_check_tables) := ⟨rfl, rfl, rfl, by decide +kernel, rfl, by decide +kernel, by decide +kernel⟩
theorem pn_check_tables : Posn (defArgs s_check_tables) (defBody s_check_tables) (defScope s_check_tables) "check_tables" ["value"] := fun _ _ _ _ _ _ us hl => match us, hl with | [_], _ => rfl
/-! ### is_as_long -/
abbrev s_is_as_long : Stmt := top 29
theorem sc_is_as_long : FnScope ["table", "before", "each"] ["table", "before"] (defScope s_is_as_long) := ⟨rfl, rfl, rfl, by decide +kernel, rfl, by decide +kernel, by decide +kernel⟩
theorem pn_is_as_long : Posn (defArgs s_is_as_long) (defBody s_is_as_long) (defScope s_is_as_long) "is_as_long" ["table", "before"] := fun _ _ _ _ _ _ us hl => match us, hl with | [_, _], _ => rfl
/-! ### check_classes -/
abbrev s_check_classes : Stmt := top 30
theorem sc_check_classes : FnScope ["value", "many", "classes", "at", "each"] ["value", "many", "classes"] (defScope s_check_classes) := ⟨rfl, rfl, rfl, by decide +kernel, rfl, by decide +kernel, by decide +kernel⟩
theorem pn_check_classes : Posn (defArgs s_check_classes) (defBody s_check_classes) (defScope s_check_classes) "check_classes" ["value", "many", "classes"] := fun _ _ _ _ _ _ us hl => match us, hl with | [_, _, _], _ => rfl
/-! ### share_by -/
abbrev s_share_by : Stmt := top 31
theorem sc_share_by : FnScope ["tables", "ceilings", "classes", "rows", "each", "left", "at"] ["tables", "ceilings", "classes"] (defScope s_share_by) := ⟨rfl, rfl, rfl, by decide +kernel, rfl, by decide +kernel, by decide +kernel⟩
theorem pn_share_by : Posn (defArgs s_share_by) (defBody s_share_by) (defScope s_share_by) "share_by" ["tables", "ceilings", "classes"] := fun _ _ _ _ _ _ us hl => match us, hl with | [_, _, _], _ => rfl
/-! ### _law_well -/
abbrev s__law_well : Stmt := top 33
theorem sc__law_well : FnScope ["script", "k", "cell", "mixed", "each"] ["script", "k"] (defScope s__law_well) := ⟨rfl, rfl, rfl, by decide +kernel, rfl, by decide +kernel, by decide +kernel⟩
theorem pn__law_well : Posn (defArgs s__law_well) (defBody s__law_well) (defScope s__law_well) "_law_well" ["script", "k"] := fun _ _ _ _ _ _ us hl => match us, hl with | [_, _], _ => rfl
/-! ### _law_dip -/
abbrev s__law_dip : Stmt := top 34
theorem sc__law_dip : FnScope ["well", "many", "digit"] ["well", "many"] (defScope s__law_dip) := ⟨rfl, rfl, rfl, by decide +kernel, rfl, by decide +kernel, by decide +kernel⟩
theorem pn__law_dip : Posn (defArgs s__law_dip) (defBody s__law_dip) (defScope s__law_dip) "_law_dip" ["well", "many"] := fun _ _ _ _ _ _ us hl => match us, hl with | [_, _], _ => rfl
/-! ### _law_one -/
abbrev s__law_one : Stmt := top 35
theorem sc__law_one : FnScope ["well", "some"] ["well", "some"] (defScope s__law_one) := ⟨rfl, rfl, rfl, by decide +kernel, rfl, by decide +kernel, by decide +kernel⟩
theorem pn__law_one : Posn (defArgs s__law_one) (defBody s__law_one) (defScope s__law_one) "_law_one" ["well", "some"] := fun _ _ _ _ _ _ us hl => match us, hl with | [_, _], _ => rfl
/-! ### _law_mixed -/
abbrev s__law_mixed : Stmt := top 36
theorem sc__law_mixed : FnScope ["well", "some", "left", "found", "k"] ["well", "some"] (defScope s__law_mixed) := ⟨rfl, rfl, rfl, by decide +kernel, rfl, by decide +kernel, by decide +kernel⟩
theorem pn__law_mixed : Posn (defArgs s__law_mixed) (defBody s__law_mixed) (defScope s__law_mixed) "_law_mixed" ["well", "some"] := fun _ _ _ _ _ _ us hl => match us, hl with | [_, _], _ => rfl
/-! ### _law_turns -/
abbrev s__law_turns : Stmt := top 37
theorem sc__law_turns : FnScope ["script"] ["script"] (defScope s__law_turns) := ⟨rfl, rfl, rfl, by decide +kernel, rfl, by decide +kernel, by decide +kernel⟩
theorem pn__law_turns : Posn (defArgs s__law_turns) (defBody s__law_turns) (defScope s__law_turns) "_law_turns" ["script"] := fun _ _ _ _ _ _ us hl => match us, hl with | [_], _ => rfl
/-! ### _law_table -/
abbrev s__law_table : Stmt := top 38
theorem sc__law_table : FnScope ["well", "size", "wide", "way", "top", "some", "k", "at"] ["well", "size", "wide"] (defScope s__law_table) := ⟨rfl, rfl, rfl, by decide +kernel, rfl, by decide +kernel, by decide +kernel⟩
theorem pn__law_table : Posn (defArgs s__law_table) (defBody s__law_table) (defScope s__law_table) "_law_table" ["well", "size", "wide"] := fun _ _ _ _ _ _ us hl => match us, hl with | [_, _, _], _ => rfl
/-! ### _law_near -/
abbrev s__law_near : Stmt := top 39
theorem sc__law_near : FnScope ["well", "numbers", "base"] ["well", "numbers"] (defScope s__law_near) := ⟨rfl, rfl, rfl, by decide +kernel, rfl, by decide +kernel, by decide +kernel⟩
theorem pn__law_near : Posn (defArgs s__law_near) (defBody s__law_near) (defScope s__law_near) "_law_near" ["well", "numbers"] := fun _ _ _ _ _ _ us hl => match us, hl with | [_, _], _ => rfl
/-! ### _law_ceilings -/
abbrev s__law_ceilings : Stmt := top 40
theorem sc__law_ceilings : FnScope ["well", "numbers", "most", "k"] ["well", "numbers", "most"] (defScope s__law_ceilings) := ⟨rfl, rfl, rfl, by decide +kernel, rfl, by decide +kernel, by decide +kernel⟩
theorem pn__law_ceilings : Posn (defArgs s__law_ceilings) (defBody s__law_ceilings) (defScope s__law_ceilings) "_law_ceilings" ["well", "numbers", "most"] := fun _ _ _ _ _ _ us hl => match us, hl with | [_, _, _], _ => rfl
/-! ### _law_shared_by -/
abbrev s__law_shared_by : Stmt := top 41
theorem sc__law_shared_by : FnScope ["tables", "ceilings", "classes", "left", "turn", "stay", "k"] ["tables", "ceilings", "classes"] (defScope s__law_shared_by) := ⟨rfl, rfl, rfl, by decide +kernel, rfl, by decide +kernel, by decide +kernel⟩
theorem pn__law_shared_by : Posn (defArgs s__law_shared_by) (defBody s__law_shared_by) (defScope s__law_shared_by) "_law_shared_by" ["tables", "ceilings", "classes"] := fun _ _ _ _ _ _ us hl => match us, hl with | [_, _, _], _ => rfl
/-! ### _law_turned_right -/
abbrev s__law_turned_right : Stmt := top 42
theorem sc__law_turned_right : FnScope ["well", "tables", "ceilings", "classes", "told", "order", "prices", "left", "k", "due", "other"] ["well", "tables", "ceilings", "classes", "told"] (defScope s__law_turned_right) := ⟨rfl, rfl, rfl, by decide +kernel, rfl, by decide +kernel, by decide +kernel⟩
theorem pn__law_turned_right : Posn (defArgs s__law_turned_right) (defBody s__law_turned_right) (defScope s__law_turned_right) "_law_turned_right" ["well", "tables", "ceilings", "classes", "told"] := fun _ _ _ _ _ _ us hl => match us, hl with | [_, _, _, _, _], _ => rfl
/-! ### _law_right -/
abbrev s__law_right : Stmt := top 43
theorem sc__law_right : FnScope ["well", "turn", "size", "wide", "tables", "k", "ceilings", "classes", "each", "due", "told", "left", "price", "same"] ["well"] (defScope s__law_right) := ⟨rfl, rfl, rfl, by decide +kernel, rfl, by decide +kernel, by decide +kernel⟩
theorem pn__law_right : Posn (defArgs s__law_right) (defBody s__law_right) (defScope s__law_right) "_law_right" ["well"] := fun _ _ _ _ _ _ us hl => match us, hl with | [_], _ => rfl
/-! ### law -/
abbrev s_law : Stmt := top 44
theorem sc_law : FnScope ["script", "k"] ["script"] (defScope s_law) := ⟨rfl, rfl, rfl, by decide +kernel, rfl, by decide +kernel, by decide +kernel⟩
theorem pn_law : Posn (defArgs s_law) (defBody s_law) (defScope s_law) "law" ["script"] := fun _ _ _ _ _ _ us hl => match us, hl with | [_], _ => rfl
def lam_0 : LamSite := lamAt "check_ceilings.<locals>.<lambda>" (exA 2 (stE (nthS (defBody s_check_ceilings) 0)))
theorem sc_lam_0 : FnScope ["each", "before"] ["each", "before"] lam_0.scope := ⟨rfl, rfl, rfl, by decide +kernel, rfl, by decide +kernel, by decide +kernel⟩
theorem pl_lam_0 : PosL lam_0 ["each", "before"] := fun _ _ _ us hl => match us, hl with | [_, _], _ => rfl
def lam_1 : LamSite := lamAt "check_tables.<locals>.<lambda>" (exA 2 (stE (nthS (defBody s_check_tables) 0)))
theorem sc_lam_1 : FnScope ["each", "before"] ["each", "before"] lam_1.scope := ⟨rfl, rfl, rfl, by decide +kernel, rfl, by decide +kernel, by decide +kernel⟩
theorem pl_lam_1 : PosL lam_1 ["each", "before"] := fun _ _ _ us hl => match us, hl with | [_, _], _ => rfl
def kn0_g {α : Type} : List α → List α → List α
  | [], [b0, b1, b2] => [b2, b1, b0]
  | _, _ => []
theorem kn0_b : Keyn (defArgs s_share_by) (defBody s_share_by) (defScope s_share_by) "share_by" ["tables", "ceilings", "classes"] (["classes", "ceilings", "tables"] : List Str) 0 kn0_g := fun _ _ _ _ _ _ us ws h1 h2 => match us, ws, h1, h2 with | [], [b0, b1, b2], _, _ => rfl
theorem kn0_r {K : PySem.W.Frag} {F : Hp} {μ : List Addr} {ds es : List D} {vs us : List V} (_ : ds.length = 0) (_ : es.length = ((["classes", "ceilings", "tables"] : List Str)).length) (r : Reps K F μ ds vs) (q : Reps K F μ es us) : Reps K F μ (kn0_g ds es) (kn0_g vs us) := by
  match ds, vs, es, us, r, q with
  | [], _, [_, _, _], _, .nil, .cons q0 (.cons q1 (.cons q2 .nil)) => exact .cons q2 (.cons q1 (.cons q0 .nil))
theorem kn0_v {vs us : List V} {ws zs : List Value} (_ : vs.length = 0) (_ : us.length = ((["classes", "ceilings", "tables"] : List Str)).length) (r : Vals vs ws) (q : Vals us zs) : Vals (kn0_g vs us) (kn0_g ws zs) := by
  match vs, ws, us, zs, r, q with
  | [], _, [_, _, _], _, .nil, .cons q0 (.cons q1 (.cons q2 .nil)) => exact .cons q2 (.cons q1 (.cons q0 .nil))
theorem kn0_l {ds es : List V} (h1 : ds.length = 0) (h2 : es.length = ((["classes", "ceilings", "tables"] : List Str)).length) : (kn0_g ds es).length = (["tables", "ceilings", "classes"] : List Str).length := match ds, es, h1, h2 with | [], [_, _, _], _, _ => rfl
noncomputable section
def b_is_whole : SX := (sRet (cAnd (cIsi .int (cVar 0)) (cNot (cIsi .bool (cVar 0)))))
def F_is_whole : OpB := callF false 1 b_is_whole
def b_is_number : SX := (sSeq (sIf (bOr (bNot (cTest (cCall 1 F_is_whole (aCons (cVar 0) aNil)))) (bAnd (cTest (cBin oNotN (cVar 1) (cK .non))) (cTest (cBin oLtA (cVar 0) (cVar 1))))) (sRet (cK (.bl false))) sNil)
    (sRet (cOr (cBin oIsN (cVar 2) (cK .non)) (cBin oLe (cVar 0) (cVar 2)))))
def F_is_number : OpB := callF false 3 b_is_number
def b_is_tuple_of : SX := (sRet (cAnd (cIsi .tuple (cVar 0)) (cBin oEqA (cBlt bLen (aCons (cVar 0) aNil)) (cVar 1))))
def F_is_tuple_of : OpB := callF false 2 b_is_tuple_of
def b_staying : SX := (sRet (cComp (cSeqA (cVar 2)) [3] (tName 3) (cTest (cBin oGe (cBin oIx (cVar 1) (cVar 3)) (cBin oIx (cBin oIx (cVar 0) (cVar 3)) (cBin oSub (cBlt bLen (aCons (cVar 2) aNil)) (cK (.int 1)))))) (cVar 3)))
def F_staying : OpB := callF true 4 b_staying
def b_left_of : SX := (sSeq (sSet 2 (cListR1 (cBlt bLen (aCons (cVar 1) aNil))))
    (sSeq (sSet 3 (cCall 3 F_staying (aCons (cVar 0) (aCons (cVar 1) (aCons (cVar 2) aNil)))))
    (sSeq (sWhile wfuel (cTest (cBin oLtA (cBlt bLen (aCons (cVar 3) aNil)) (cBlt bLen (aCons (cVar 2) aNil)))) (sSeq (sSet 2 (cVar 3))
    (sSet 3 (cCall 3 F_staying (aCons (cVar 0) (aCons (cVar 1) (aCons (cVar 2) aNil)))))))
    (sRet (cVar 2)))))
def F_left_of : OpB := callF false 4 b_left_of
def b_is_told : SX := (sRet (cCall 3 F_is_number (aCons (cVar 0) (aCons (cK (.int 0)) (aCons (cK (.int 999)) aNil)))))
def F_is_told : OpB := callF false 1 b_is_told
def b_is_table : SX := (sSeq (sIf (bOr (bNot (cTest (cIsi .tuple (cVar 0)))) (bNot (cTest (cChain oLe oLe (cK (.int 1)) (cBlt bLen (aCons (cVar 0) aNil)) (cK (.int 24)))))) (sRet (cK (.bl false))) sNil)
    (sRet (cBlt bAll (aCons (cComp (cSeqA (cVar 0)) [1] (tName 1) bYes (cCall 3 F_is_number (aCons (cVar 1) (aCons (cK (.int 0)) (aCons (cK (.int 998)) aNil))))) aNil))))
def F_is_table : OpB := callF false 2 b_is_table
def b_check_table : SX := (sIf (bNot (cTest (cCall 1 F_is_table (aCons (cVar 0) aNil)))) sStuck sNil)
def F_check_table : OpB := callF false 1 b_check_table
def e_lam_0 : EX := (cCall 1 F_is_told (aCons (cVar 0) aNil))
def F_lam_0 : OpB := lamF 2 e_lam_0
def b_wrong_at_0 : SX := (sSeq (sIf (bNot (cTest (cIsi .tuple (cVar 0)))) (sRet (cLst (aCons (cK .non) aNil))) sNil)
    (sSeq (sFor (cEnumA (aCons (cVar 0) aNil)) (tTup 2 (tsCons (tName 3) (tsCons (tName 4) tsNil))) (sIf (bOr (cTest (cBin oEqA (cVar 3) (cVar 1))) (bNot (cTest (cCallV 2 lam_0 2 F_lam_0 (aCons (cVar 4) (aCons (cSliceA (cVar 0) cNo (cPart (cVar 3))) aNil)))))) (sRet (cLst (aCons (cVar 3) aNil))) sNil))
    (sRet (cLst aNil))))
def F_wrong_at_0 : OpB := callF true 5 b_wrong_at_0
def b_wrong_from_one_0 : SX := (sRet (cIfE (cTest (cBin oEqA (cVar 0) (cTup aNil))) (cLst (aCons (cK .non) aNil)) (cCall 3 F_wrong_at_0 (aCons (cVar 0) (aCons (cVar 1) (aCons (cVar 2) aNil))))))
def F_wrong_from_one_0 : OpB := callF true 3 b_wrong_from_one_0
def b_check_ceilings : SX := (sSeq (sSet 2 (cCall 3 F_wrong_from_one_0 (aCons (cVar 0) (aCons (cVar 1) (aCons (cLam lam_0) aNil)))))
    (sIf (cTest (cBin oNeA (cVar 2) (cLst aNil))) sStuck sNil))
def F_check_ceilings : OpB := callF false 3 b_check_ceilings
def b_check_shared : SX := (sSeq (sExpr (cCall 1 F_check_table (aCons (cVar 0) aNil)))
    (sExpr (cCall 2 F_check_ceilings (aCons (cVar 1) (aCons (cBlt bLen (aCons (cVar 0) aNil)) aNil)))))
def F_check_shared : OpB := callF false 2 b_check_shared
def b_price_of : SX := (sRet (cIfE (cTest (cBin oNeA (cVar 1) (cLst aNil))) (cBin oIx (cVar 0) (cBin oSub (cBlt bLen (aCons (cVar 1) aNil)) (cK (.int 1)))) (cK .non)))
def F_price_of : OpB := callF false 2 b_price_of
def b_share : SX := (sSeq (sExpr (cCall 2 F_check_shared (aCons (cVar 0) (aCons (cVar 1) aNil))))
    (sSeq (sSet 2 (cCall 2 F_left_of (aCons (cBin oRepL (cLst (aCons (cVar 0) aNil)) (cBlt bLen (aCons (cVar 1) aNil))) (aCons (cVar 1) aNil))))
    (sRet (cTup (aCons (cBlt bTuple (aCons (cVar 2) aNil)) (aCons (cCall 2 F_price_of (aCons (cVar 0) (aCons (cVar 2) aNil))) aNil))))))
def F_share : OpB := callF false 3 b_share
def b_is_as_long : SX := (sRet (cBlt bAll (aCons (cComp (cSeqA (cVar 1)) [2] (tName 2) bYes (cBin oEqA (cBlt bLen (aCons (cVar 2) aNil)) (cBlt bLen (aCons (cVar 0) aNil)))) aNil)))
def F_is_as_long : OpB := callF false 3 b_is_as_long
def e_lam_1 : EX := (cAnd (cCall 1 F_is_table (aCons (cVar 0) aNil)) (cCall 2 F_is_as_long (aCons (cVar 0) (aCons (cVar 1) aNil))))
def F_lam_1 : OpB := lamF 2 e_lam_1
def b_wrong_at_1 : SX := (sSeq (sIf (bNot (cTest (cIsi .tuple (cVar 0)))) (sRet (cLst (aCons (cK .non) aNil))) sNil)
    (sSeq (sFor (cEnumA (aCons (cVar 0) aNil)) (tTup 2 (tsCons (tName 3) (tsCons (tName 4) tsNil))) (sIf (bOr (cTest (cBin oEqA (cVar 3) (cVar 1))) (bNot (cTest (cCallV 2 lam_1 2 F_lam_1 (aCons (cVar 4) (aCons (cSliceA (cVar 0) cNo (cPart (cVar 3))) aNil)))))) (sRet (cLst (aCons (cVar 3) aNil))) sNil))
    (sRet (cLst aNil))))
def F_wrong_at_1 : OpB := callF true 5 b_wrong_at_1
def b_wrong_from_one_1 : SX := (sRet (cIfE (cTest (cBin oEqA (cVar 0) (cTup aNil))) (cLst (aCons (cK .non) aNil)) (cCall 3 F_wrong_at_1 (aCons (cVar 0) (aCons (cVar 1) (aCons (cVar 2) aNil))))))
def F_wrong_from_one_1 : OpB := callF true 3 b_wrong_from_one_1
def b_check_tables : SX := (sSeq (sSet 1 (cCall 3 F_wrong_from_one_1 (aCons (cVar 0) (aCons (cK (.int 4)) (aCons (cLam lam_1) aNil)))))
    (sIf (cTest (cBin oNeA (cVar 1) (cLst aNil))) sStuck sNil))
def F_check_tables : OpB := callF false 2 b_check_tables
def b_check_classes : SX := (sSeq (sIf (bNot (cTest (cCall 2 F_is_tuple_of (aCons (cVar 0) (aCons (cVar 1) aNil))))) sStuck sNil)
    (sFor (cEnumA (aCons (cVar 0) aNil)) (tTup 2 (tsCons (tName 3) (tsCons (tName 4) tsNil))) (sIf (bNot (cTest (cCall 3 F_is_number (aCons (cVar 4) (aCons (cK (.int 0)) (aCons (cBin oSub (cVar 2) (cK (.int 1))) aNil)))))) sStuck sNil)))
def F_check_classes : OpB := callF false 5 b_check_classes
def b_share_by : SX := (sSeq (sExpr (cCall 1 F_check_tables (aCons (cVar 0) aNil)))
    (sSeq (sExpr (cCall 2 F_check_ceilings (aCons (cVar 1) (aCons (cBlt bLen (aCons (cBin oIx (cVar 0) (cK (.int 0))) aNil)) aNil))))
    (sSeq (sExpr (cCall 3 F_check_classes (aCons (cVar 2) (aCons (cBlt bLen (aCons (cVar 1) aNil)) (aCons (cBlt bLen (aCons (cVar 0) aNil)) aNil)))))
    (sSeq (sSet 3 (cComp (cSeqA (cVar 2)) [4] (tName 4) bYes (cBin oIx (cVar 0) (cVar 4))))
    (sSeq (sSet 5 (cCall 2 F_left_of (aCons (cVar 3) (aCons (cVar 1) aNil))))
    (sRet (cTup (aCons (cBlt bTuple (aCons (cVar 5) aNil)) (aCons (cBlt bTuple (aCons (cComp (cSeqA (cVar 5)) [6] (tName 6) bYes (cBin oIx (cBin oIx (cVar 3) (cVar 6)) (cBin oSub (cBlt bLen (aCons (cVar 5) aNil)) (cK (.int 1))))) aNil)) aNil)))))))))
def F_share_by : OpB := callF false 7 b_share_by
def b__law_well : SX := (sSeq (sSet 2 (cIfE (cTest (cBin oLtA (cVar 1) (cBlt bLen (aCons (cVar 0) aNil)))) (cBlt bInt (aCons (cBin oIx (cVar 0) (cVar 1)) aNil)) (cBin oAddA (cBin oMul (cK (.int 6007)) (cVar 1)) (cK (.int 211)))))
    (sSeq (sSet 3 (cBin oAddA (cK (.int 70009)) (cBin oMul (cK (.int 5003)) (cVar 1))))
    (sSeq (sFor (cSeqA (cBin oCat (cSliceL (cVar 0) cNo (cPart (cK (.int 7)))) (cLst (aCons (cVar 2) aNil)))) (tName 4) (sSet 3 (cBin oMod (cBlt bInt (aCons (cBin oAddA (cBin oAddA (cBin oMul (cVar 3) (cK (.int 42013))) (cBin oMod (cBlt bInt (aCons (cVar 4) aNil)) (cK (.int 2147480009)))) (cK (.int 19))) aNil)) (cK (.int 2147480009)))))
    (sRet (cLst (aCons (cIfE (bOr (cTest (cBin oLtA (cVar 2) (cK (.int 0)))) (cTest (cBin oGe (cVar 2) (cBin oPow (cK (.int 10)) (cK (.int 15)))))) (cBlt bAbs (aCons (cVar 2) aNil)) (cK (.int 0))) (aCons (cVar 3) (aCons (cK (.int 0)) aNil))))))))
def F__law_well : OpB := callF true 5 b__law_well
def b__law_dip : SX := (sSeq (sIf (cTest (cBin oGt (cBin oIx (cVar 0) (cK (.int 0))) (cK (.int 0)))) (sSeq (sAsg (tTup 2 (tsCons (tSub (cVar 0) (cK (.int 0))) (tsCons (tName 2) tsNil))) (cBlt bDivmod (aCons (cBin oIx (cVar 0) (cK (.int 0))) (aCons (cVar 1) aNil))))
    (sRet (cVar 2))) sNil)
    (sSeq (sAsg (tSub (cVar 0) (cK (.int 2))) (cBin oAddA (cBin oIx (cVar 0) (cK (.int 2))) (cK (.int 1))))
    (sSeq (sAsg (tSub (cVar 0) (cK (.int 1))) (cBin oMod (cBlt bInt (aCons (cBin oAddA (cBin oAddA (cBin oMul (cBin oIx (cVar 0) (cK (.int 1))) (cK (.int 48271))) (cBin oMul (cK (.int 7919)) (cBin oIx (cVar 0) (cK (.int 2))))) (cK (.int 37))) aNil)) (cK (.int 2147480009))))
    (sRet (cBin oMod (cBlt bInt (aCons (cBin oDiv (cBin oIx (cVar 0) (cK (.int 1))) (cK (.int 149))) aNil)) (cVar 1))))))
def F__law_dip : OpB := callF false 3 b__law_dip
def b__law_one : SX := (sRet (cBin oIx (cVar 1) (cCall 2 F__law_dip (aCons (cVar 0) (aCons (cBlt bLen (aCons (cVar 1) aNil)) aNil)))))
def F__law_one : OpB := callF false 2 b__law_one
def b__law_mixed : SX := (sSeq (sPar 2 3 (aCons (cAlloc (cBlt bList (aCons (cVar 1) aNil))) (aCons (cAlloc (cLst aNil)) aNil)))
    (sSeq (sFor (cRange1 (aCons (cBlt bLen (aCons (cVar 2) aNil)) aNil)) (tName 4) (sExpr (cMt mAppend (cVar 3) (aCons (cMt mPopAt (cVar 2) (aCons (cCall 2 F__law_dip (aCons (cVar 0) (aCons (cBlt bLen (aCons (cVar 2) aNil)) aNil))) aNil)) aNil))))
    (sRetL (cVar 3))))
def F__law_mixed : OpB := callF true 5 b__law_mixed
def b__law_turns : SX := (sRet (cListR1 (cBlt bMax2 (aCons (cK (.int 2)) (aCons (cBlt bMin2 (aCons (cBlt bLen (aCons (cVar 0) aNil)) (aCons (cK (.int 3)) aNil))) aNil)))))
def F__law_turns : OpB := callF true 1 b__law_turns
def b__law_table : SX := (sSeq (sAsg (tTup 2 (tsCons (tName 3) (tsCons (tName 2) tsNil))) (cTup (aCons (cCall 2 F__law_dip (aCons (cVar 0) (aCons (cK (.int 6)) aNil))) (aCons (cBlt bMin2 (aCons (cK (.int 998)) (aCons (cVar 2) aNil))) aNil))))
    (sSeq (sSet 4 (cCall 2 F__law_one (aCons (cVar 0) (aCons (cLst (aCons (cVar 2) (aCons (cVar 2) (aCons (cBlt bMin2 (aCons (cK (.int 998)) (aCons (cBin oAddA (cVar 2) (cK (.int 900))) aNil))) aNil)))) aNil))))
    (sSeq (sSet 5 (cAlloc (cComp (cRange1 (aCons (cVar 1) aNil)) [6] (tName 6) bYes (cBlt bMax2 (aCons (cK (.int 0)) (aCons (cBin oSub (cVar 4) (cCall 2 F__law_dip (aCons (cVar 0) (aCons (cBin oAddA (cVar 2) (cK (.int 1))) aNil)))) aNil))))))
    (sSeq (sIf (cTest (cBin oEqA (cVar 3) (cK (.int 0)))) (sRet (cBlt bTuple (aCons (cVar 5) aNil))) sNil)
    (sSeq (sIf (cTest (cBin oEqA (cVar 3) (cK (.int 5)))) (sSeq (sFor (cRange2 (aCons (cK (.int 1)) (aCons (cVar 1) aNil))) (tName 6) (sAsg (tSub (cVar 5) (cVar 6)) (cBlt bMin2 (aCons (cK (.int 998)) (aCons (cBlt bMax2 (aCons (cK (.int 0)) (aCons (cBin oAddA (cBin oIx (cVar 5) (cBin oSub (cVar 6) (cK (.int 1)))) (cCall 2 F__law_one (aCons (cVar 0) (aCons (cLst (aCons (cK (.int 0)) (aCons (cK (.int 1)) (aCons (cK (.int 1)) (aCons (cUn oNeg (cK (.int 1))) aNil))))) aNil)))) aNil))) aNil)))))
    (sRet (cBlt bTuple (aCons (cVar 5) aNil)))) sNil)
    (sSeq (sSet 5 (cAlloc (cBack (cBlt bSortedA (aCons (cVar 5) aNil)))))
    (sSeq (sIf (cTest (cBin oEqA (cVar 3) (cK (.int 1)))) (sSet 5 (cAlloc (cBin oRepL (cLst (aCons (cBin oIx (cVar 5) (cK (.int 0))) aNil)) (cVar 1)))) sNil)
    (sSeq (sIf (cTest (cBin (oInA false) (cVar 3) (cTup (aCons (cK (.int 2)) (aCons (cK (.int 3)) aNil))))) (sSeq (sSet 7 (cCall 2 F__law_dip (aCons (cVar 0) (aCons (cVar 1) aNil))))
    (sAsg (tSub (cVar 5) (cVar 7)) (cBlt bMin2 (aCons (cK (.int 998)) (aCons (cBlt bMax2 (aCons (cK (.int 0)) (aCons (cBin oAddA (cBin oIx (cVar 5) (cVar 7)) (cCall 2 F__law_one (aCons (cVar 0) (aCons (cLst (aCons (cK (.int 1)) (aCons (cK (.int 2)) (aCons (cUn oNeg (cK (.int 1))) (aCons (cK (.int 1)) aNil))))) aNil)))) aNil))) aNil))))) sNil)
    (sRet (cBlt bTuple (aCons (cVar 5) aNil)))))))))))
def F__law_table : OpB := callF false 8 b__law_table
def b__law_near : SX := (sSeq (sSet 2 (cCall 2 F__law_one (aCons (cVar 0) (aCons (cVar 1) aNil))))
    (sRet (cBlt bMin2 (aCons (cK (.int 999)) (aCons (cBlt bMax2 (aCons (cK (.int 0)) (aCons (cCall 2 F__law_one (aCons (cVar 0) (aCons (cLst (aCons (cVar 2) (aCons (cVar 2) (aCons (cBin oSub (cVar 2) (cK (.int 1))) (aCons (cBin oAddA (cVar 2) (cK (.int 1))) (aCons (cK (.int 0)) (aCons (cK (.int 999)) (aCons (cCall 2 F__law_dip (aCons (cVar 0) (aCons (cK (.int 1000)) aNil))) aNil)))))))) aNil))) aNil))) aNil)))))
def F__law_near : OpB := callF false 3 b__law_near
def b__law_ceilings : SX := (sRet (cBlt bTuple (aCons (cComp (cRange1 (aCons (cBin oAddA (cK (.int 1)) (cCall 2 F__law_dip (aCons (cVar 0) (aCons (cVar 2) aNil)))) aNil)) [3] (tName 3) bYes (cCall 2 F__law_near (aCons (cVar 0) (aCons (cVar 1) aNil)))) aNil)))
def F__law_ceilings : OpB := callF false 4 b__law_ceilings
def b__law_shared_by : SX := (sSeq (sSet 3 (cListR1 (cBlt bLen (aCons (cVar 1) aNil))))
    (sSeq (sFor (cRange1 (aCons (cBin oAddA (cBlt bLen (aCons (cVar 1) aNil)) (cK (.int 1))) aNil)) (tName 4) (sSeq (sSet 5 (cComp (cSeqA (cVar 3)) [6] (tName 6) (cTest (cBin oGe (cBin oIx (cVar 1) (cVar 6)) (cBin oIx (cBin oIx (cVar 0) (cBin oIx (cVar 2) (cVar 6))) (cBin oSub (cBlt bLen (aCons (cVar 3) aNil)) (cK (.int 1)))))) (cVar 6)))
    (sSeq (sIf (cTest (cBin oEqA (cBlt bLen (aCons (cVar 5) aNil)) (cBlt bLen (aCons (cVar 3) aNil)))) (sRet (cTup (aCons (cBlt bTuple (aCons (cVar 3) aNil)) (aCons (cBlt bTuple (aCons (cComp (cSeqA (cVar 3)) [6] (tName 6) bYes (cBin oIx (cBin oIx (cVar 0) (cBin oIx (cVar 2) (cVar 6))) (cBin oSub (cBlt bLen (aCons (cVar 3) aNil)) (cK (.int 1))))) aNil)) aNil)))) sNil)
    (sSet 3 (cVar 5)))))
    (sRet (cTup (aCons (cTup aNil) (aCons (cTup aNil) aNil))))))
def F__law_shared_by : OpB := callF false 7 b__law_shared_by
def b__law_turned_right : SX := (sSeq (sSet 5 (cCall 2 F__law_mixed (aCons (cVar 0) (aCons (cListR1 (cBlt bLen (aCons (cVar 2) aNil))) aNil))))
    (sSeq (sSet 6 (cDZ (aCons (cBin oIx (cVar 4) (cK (.int 0))) (aCons (cBin oIx (cVar 4) (cK (.int 1))) aNil))))
    (sSeq (sSet 7 (cComp (cRange1 (aCons (cBlt bLen (aCons (cVar 5) aNil)) aNil)) [8] (tName 8) (cTest (cBin (oInA false) (cBin oIx (cVar 5) (cVar 8)) (cBin oIx (cVar 4) (cK (.int 0))))) (cVar 8)))
    (sSeq (sSet 9 (cTup (aCons (cBlt bTuple (aCons (cVar 7) aNil)) (aCons (cBlt bTuple (aCons (cComp (cSeqA (cVar 7)) [8] (tName 8) bYes (cBin oDG (cVar 6) (cBin oIx (cVar 5) (cVar 8)))) aNil)) aNil))))
    (sSeq (sSet 10 (cCall 3 F_share_by (aCons (cVar 1) (aCons (cBlt bTuple (aCons (cComp (cSeqA (cVar 5)) [8] (tName 8) bYes (cBin oIx (cVar 2) (cVar 8))) aNil)) (aCons (cBlt bTuple (aCons (cComp (cSeqA (cVar 5)) [8] (tName 8) bYes (cBin oIx (cVar 3) (cVar 8))) aNil)) aNil)))))
    (sRet (cBin oEqA (cBlt bRepr (aCons (cVar 10) aNil)) (cBlt bRepr (aCons (cVar 9) aNil)))))))))
def F__law_turned_right : OpB := callF false 11 b__law_turned_right
def b__law_right : SX := (sSeq (sFor (cRange1 (aCons (cK (.int 7)) aNil)) (tName 1) (sSeq (sAsg (tTup 2 (tsCons (tName 2) (tsCons (tName 3) tsNil))) (cTup (aCons (cCall 2 F__law_one (aCons (cVar 0) (aCons (cLst (aCons (cK (.int 1)) (aCons (cK (.int 2)) (aCons (cK (.int 3)) (aCons (cK (.int 8)) (aCons (cK (.int 24)) aNil)))))) aNil))) (aCons (cCall 2 F__law_one (aCons (cVar 0) (aCons (cLst (aCons (cK (.int 2)) (aCons (cK (.int 5)) (aCons (cK (.int 60)) (aCons (cK (.int 999)) aNil))))) aNil))) aNil))))
    (sSeq (sSet 4 (cBlt bTuple (aCons (cComp (cRange1 (aCons (cBin oAddA (cK (.int 1)) (cCall 2 F__law_dip (aCons (cVar 0) (aCons (cK (.int 4)) aNil)))) aNil)) [5] (tName 5) bYes (cCall 3 F__law_table (aCons (cVar 0) (aCons (cVar 2) (aCons (cVar 3) aNil))))) aNil)))
    (sSeq (sSet 6 (cCall 3 F__law_ceilings (aCons (cVar 0) (aCons (cBin oAddA (cBin oIx (cVar 4) (cK (.int 0))) (cBin oIx (cVar 4) (cUn oNeg (cK (.int 1))))) (aCons (cVar 2) aNil)))))
    (sSeq (sSet 7 (cBlt bTuple (aCons (cComp (cSeqA (cVar 6)) [8] (tName 8) bYes (cCall 2 F__law_dip (aCons (cVar 0) (aCons (cBlt bLen (aCons (cVar 4) aNil)) aNil)))) aNil)))
    (sSeq (sAsg (tTup 2 (tsCons (tName 9) (tsCons (tName 10) tsNil))) (cTup (aCons (cCall 3 F__law_shared_by (aCons (cVar 4) (aCons (cVar 6) (aCons (cVar 7) aNil)))) (aCons (cCall 3 F_share_by (aCons (cVar 4) (aCons (cVar 6) (aCons (cVar 7) aNil)))) aNil))))
    (sSeq (sIf (cTest (cBin oNeA (cBlt bRepr (aCons (cLst (aCons (cVar 10) (aCons (cCallK 0 3 kn0_g F_share_by aNil (aCons (cVar 7) (aCons (cVar 6) (aCons (cVar 4) aNil)))) aNil))) aNil)) (cBlt bRepr (aCons (cLst (aCons (cVar 9) (aCons (cVar 9) aNil))) aNil)))) (sRet (cK (.bl false))) sNil)
    (sSeq (sIf (bNot (cTest (cCall 5 F__law_turned_right (aCons (cVar 0) (aCons (cVar 4) (aCons (cVar 6) (aCons (cVar 7) (aCons (cVar 10) aNil)))))))) (sRet (cK (.bl false))) sNil)
    (sSeq (sIf (cTest (cBin oNeA (cComp (cRange1 (aCons (cBlt bLen (aCons (cBin oIx (cVar 10) (cK (.int 0))) aNil)) aNil)) [5] (tName 5) (cTest (cBin oLtA (cBin oIx (cVar 6) (cBin oIx (cBin oIx (cVar 10) (cK (.int 0))) (cVar 5))) (cBin oIx (cBin oIx (cVar 10) (cK (.int 1))) (cVar 5)))) (cVar 5)) (cLst aNil))) (sRet (cK (.bl false))) sNil)
    (sSeq (sAsg (tTup 2 (tsCons (tName 11) (tsCons (tName 12) tsNil))) (cCall 2 F_share (aCons (cBin oIx (cVar 4) (cK (.int 0))) (aCons (cVar 6) aNil))))
    (sSeq (sSet 13 (cCall 3 F_share_by (aCons (cBin oMulA (cSliceA (cVar 4) cNo (cPart (cK (.int 1)))) (cBlt bLen (aCons (cVar 4) aNil))) (aCons (cVar 6) (aCons (cVar 7) aNil)))))
    (sIf (cTest (cBin oNeA (cBlt bRepr (aCons (cVar 13) aNil)) (cBlt bRepr (aCons (cTup (aCons (cVar 11) (aCons (cBin oMulA (cTup (aCons (cVar 12) aNil)) (cBlt bLen (aCons (cVar 11) aNil))) aNil))) aNil)))) (sRet (cK (.bl false))) sNil))))))))))))
    (sRet (cK (.bl true))))
def F__law_right : OpB := callF false 14 b__law_right
def b_law : SX := (sRet (cBlt bAll (aCons (cComp (cSeqA (cCall 1 F__law_turns (aCons (cVar 0) aNil))) [1] (tName 1) bYes (cScope (cCall 1 F__law_right (aCons (cAlloc (cCall 2 F__law_well (aCons (cVar 0) (aCons (cVar 1) aNil)))) aNil)))) aNil)))
def F_law : OpB := callF false 2 b_law
end
/-! ### what the top has written -/
structure Facts (K : PySem.W.Frag) (mg : Str → Option Value) : Prop where
  n_abs : mg "abs" = none
  n_all : mg "all" = none
  n_bool : mg "bool" = none
  n_dict : mg "dict" = none
  n_divmod : mg "divmod" = none
  n_enumerate : mg "enumerate" = none
  n_int : mg "int" = none
  n_isinstance : mg "isinstance" = none
  n_len : mg "len" = none
  n_list : mg "list" = none
  n_max : mg "max" = none
  n_min : mg "min" = none
  n_range : mg "range" = none
  n_repr : mg "repr" = none
  n_sorted : mg "sorted" = none
  n_tuple : mg "tuple" = none
  n_zip : mg "zip" = none
  k_MOST_CLASSES : GlobK K mg "MOST_CLASSES" (.int 4)
  k_MOST_PEOPLE : GlobK K mg "MOST_PEOPLE" (.int 24)
  k_MOST_PRICE : GlobK K mg "MOST_PRICE" (.int 998)
  k_MOST_WORTH : GlobK K mg "MOST_WORTH" (.int 999)
  d_is_whole : ∃ f fd, FunD K "is_whole" "is_whole" (defArgs s_is_whole) (defBody s_is_whole) (defScope s_is_whole) [] [] f fd ∧ mg "is_whole" = some (.ref f)
  d_is_number : ∃ f fd, FunD K "is_number" "is_number" (defArgs s_is_number) (defBody s_is_number) (defScope s_is_number) [] [] f fd ∧ mg "is_number" = some (.ref f)
  d_is_tuple_of : ∃ f fd, FunD K "is_tuple_of" "is_tuple_of" (defArgs s_is_tuple_of) (defBody s_is_tuple_of) (defScope s_is_tuple_of) [] [] f fd ∧ mg "is_tuple_of" = some (.ref f)
  d_wrong_at : ∃ f fd, FunD K "wrong_at" "wrong_at" (defArgs s_wrong_at) (defBody s_wrong_at) (defScope s_wrong_at) [] [] f fd ∧ mg "wrong_at" = some (.ref f)
  d_wrong_from_one : ∃ f fd, FunD K "wrong_from_one" "wrong_from_one" (defArgs s_wrong_from_one) (defBody s_wrong_from_one) (defScope s_wrong_from_one) [] [] f fd ∧ mg "wrong_from_one" = some (.ref f)
  d_left_of : ∃ f fd, FunD K "left_of" "left_of" (defArgs s_left_of) (defBody s_left_of) (defScope s_left_of) [] [] f fd ∧ mg "left_of" = some (.ref f)
  d_staying : ∃ f fd, FunD K "staying" "staying" (defArgs s_staying) (defBody s_staying) (defScope s_staying) [] [] f fd ∧ mg "staying" = some (.ref f)
  d_is_told : ∃ f fd, FunD K "is_told" "is_told" (defArgs s_is_told) (defBody s_is_told) (defScope s_is_told) [] [] f fd ∧ mg "is_told" = some (.ref f)
  d_is_table : ∃ f fd, FunD K "is_table" "is_table" (defArgs s_is_table) (defBody s_is_table) (defScope s_is_table) [] [] f fd ∧ mg "is_table" = some (.ref f)
  d_check_table : ∃ f fd, FunD K "check_table" "check_table" (defArgs s_check_table) (defBody s_check_table) (defScope s_check_table) [] [] f fd ∧ mg "check_table" = some (.ref f)
  d_check_ceilings : ∃ f fd, FunD K "check_ceilings" "check_ceilings" (defArgs s_check_ceilings) (defBody s_check_ceilings) (defScope s_check_ceilings) [] [] f fd ∧ mg "check_ceilings" = some (.ref f)
  d_check_shared : ∃ f fd, FunD K "check_shared" "check_shared" (defArgs s_check_shared) (defBody s_check_shared) (defScope s_check_shared) [] [] f fd ∧ mg "check_shared" = some (.ref f)
  d_price_of : ∃ f fd, FunD K "price_of" "price_of" (defArgs s_price_of) (defBody s_price_of) (defScope s_price_of) [] [] f fd ∧ mg "price_of" = some (.ref f)
  d_share : ∃ f fd, FunD K "share" "share" (defArgs s_share) (defBody s_share) (defScope s_share) [] [] f fd ∧ mg "share" = some (.ref f)
  d_check_tables : ∃ f fd, FunD K "check_tables" "check_tables" (defArgs s_check_tables) (defBody s_check_tables) (defScope s_check_tables) [] [] f fd ∧ mg "check_tables" = some (.ref f)
  d_is_as_long : ∃ f fd, FunD K "is_as_long" "is_as_long" (defArgs s_is_as_long) (defBody s_is_as_long) (defScope s_is_as_long) [] [] f fd ∧ mg "is_as_long" = some (.ref f)
  d_check_classes : ∃ f fd, FunD K "check_classes" "check_classes" (defArgs s_check_classes) (defBody s_check_classes) (defScope s_check_classes) [] [] f fd ∧ mg "check_classes" = some (.ref f)
  d_share_by : ∃ f fd, FunD K "share_by" "share_by" (defArgs s_share_by) (defBody s_share_by) (defScope s_share_by) [] [] f fd ∧ mg "share_by" = some (.ref f)
  d__law_well : ∃ f fd, FunD K "_law_well" "_law_well" (defArgs s__law_well) (defBody s__law_well) (defScope s__law_well) [] [] f fd ∧ mg "_law_well" = some (.ref f)
  d__law_dip : ∃ f fd, FunD K "_law_dip" "_law_dip" (defArgs s__law_dip) (defBody s__law_dip) (defScope s__law_dip) [] [] f fd ∧ mg "_law_dip" = some (.ref f)
  d__law_one : ∃ f fd, FunD K "_law_one" "_law_one" (defArgs s__law_one) (defBody s__law_one) (defScope s__law_one) [] [] f fd ∧ mg "_law_one" = some (.ref f)
  d__law_mixed : ∃ f fd, FunD K "_law_mixed" "_law_mixed" (defArgs s__law_mixed) (defBody s__law_mixed) (defScope s__law_mixed) [] [] f fd ∧ mg "_law_mixed" = some (.ref f)
  d__law_turns : ∃ f fd, FunD K "_law_turns" "_law_turns" (defArgs s__law_turns) (defBody s__law_turns) (defScope s__law_turns) [] [] f fd ∧ mg "_law_turns" = some (.ref f)
  d__law_table : ∃ f fd, FunD K "_law_table" "_law_table" (defArgs s__law_table) (defBody s__law_table) (defScope s__law_table) [] [] f fd ∧ mg "_law_table" = some (.ref f)
  d__law_near : ∃ f fd, FunD K "_law_near" "_law_near" (defArgs s__law_near) (defBody s__law_near) (defScope s__law_near) [] [] f fd ∧ mg "_law_near" = some (.ref f)
  d__law_ceilings : ∃ f fd, FunD K "_law_ceilings" "_law_ceilings" (defArgs s__law_ceilings) (defBody s__law_ceilings) (defScope s__law_ceilings) [] [] f fd ∧ mg "_law_ceilings" = some (.ref f)
  d__law_shared_by : ∃ f fd, FunD K "_law_shared_by" "_law_shared_by" (defArgs s__law_shared_by) (defBody s__law_shared_by) (defScope s__law_shared_by) [] [] f fd ∧ mg "_law_shared_by" = some (.ref f)
  d__law_turned_right : ∃ f fd, FunD K "_law_turned_right" "_law_turned_right" (defArgs s__law_turned_right) (defBody s__law_turned_right) (defScope s__law_turned_right) [] [] f fd ∧ mg "_law_turned_right" = some (.ref f)
  d__law_right : ∃ f fd, FunD K "_law_right" "_law_right" (defArgs s__law_right) (defBody s__law_right) (defScope s__law_right) [] [] f fd ∧ mg "_law_right" = some (.ref f)
  d_law : ∃ f fd, FunD K "law" "law" (defArgs s_law) (defBody s_law) (defScope s_law) [] [] f fd ∧ mg "law" = some (.ref f)
structure FactsT (K : PySem.W.Frag) (mg : Str → Option Value) (base : Heap) (T : List (Addr × Str)) : Prop where
  t_check_ceilings : ∃ f fd c P, FunD K "check_ceilings" "check_ceilings" (defArgs s_check_ceilings) (defBody s_check_ceilings) (defScope s_check_ceilings) [] [] f fd ∧ mg "check_ceilings" = some (.ref f) ∧ fd.code = .ref c ∧ LamX.TabB base mg c P ∧ (P, ("check_ceilings.<locals>.<lambda>" : Str)) ∈ T ∧ ∀ p ∈ T, p.1 = P → p.2 = "check_ceilings.<locals>.<lambda>"
  t_check_tables : ∃ f fd c P, FunD K "check_tables" "check_tables" (defArgs s_check_tables) (defBody s_check_tables) (defScope s_check_tables) [] [] f fd ∧ mg "check_tables" = some (.ref f) ∧ fd.code = .ref c ∧ LamX.TabB base mg c P ∧ (P, ("check_tables.<locals>.<lambda>" : Str)) ∈ T ∧ ∀ p ∈ T, p.1 = P → p.2 = "check_tables.<locals>.<lambda>"
section
variable {P : Program} {w : World} {K : PySem.W.Frag} {mg : Str → Option Value} {base : Heap} {T : List (Addr × Str)}
theorem r_is_whole (Z : Facts K mg) (Y : FactsT K mg base T) {f : Addr} : ∀ (cdv : Value) (A : Around) (outer : List PySem.Env) (s : Shared) (H : Hp) (E : XK), Room 0 (A.deeper (envOfC "is_whole" (defScope s_is_whole) s.heap.objs.size f cdv)) → A.guards = some [] →
    RSs T false (cxOf (L2.CX P w) P w K mg base ["value"] "is_whole" (defScope s_is_whole) f cdv A outer s H E) (fun cls d _ H' => E cls d H') (defBody s_is_whole) b_is_whole := by
  intro cdv A outer s H E hr hgu
  unfold b_is_whole
  exact (rss_one (rs_ret (re_and (re_isi (t := .int) (re_var (i := 0)) Z.n_isinstance Z.n_int (by decide +kernel)) (re_one (re_not (re_isi (t := .bool) (re_var (i := 0)) Z.n_isinstance Z.n_bool (by decide +kernel)))))))
theorem g_is_whole (Z : Facts K mg) (Y : FactsT K mg base T) : DefG P w K mg base T 1 "is_whole" (defArgs s_is_whole) (defBody s_is_whole) (defScope s_is_whole) ["value"] false F_is_whole := by
  obtain ⟨f, fd, a, b⟩ := Z.d_is_whole
  exact ⟨f, fd, a, b, def_g a sc_is_whole (r_is_whole Z Y)⟩
theorem r_is_number (Z : Facts K mg) (Y : FactsT K mg base T) {f : Addr} : ∀ (cdv : Value) (A : Around) (outer : List PySem.Env) (s : Shared) (H : Hp) (E : XK), Room 1 (A.deeper (envOfC "is_number" (defScope s_is_number) s.heap.objs.size f cdv)) → A.guards = some [] →
    RSs T false (cxOf (L2.CX P w) P w K mg base ["value", "low", "high"] "is_number" (defScope s_is_number) f cdv A outer s H E) (fun cls d _ H' => E cls d H') (defBody s_is_number) b_is_number := by
  intro cdv A outer s H E hr hgu
  unfold b_is_number
  exact (rss_cons (rs_if (RW.t (rw_or (rt_not (rt_val (re_call (g_is_whole Z Y) pn_is_whole (hr.mono (by decide)) hgu pass_cx (ra_cons (re_var (i := 0)) ra_nil)))) (rw_or1 (RW.t (rw_and (rt_cmp op_notN oNotN_ok (re_var (i := 1)) re_non (nomark _)) (rw_and1 (rt_cmp (op_ltA (Room.units0 hr)) oLtA_ok (re_var (i := 0)) (re_var (i := 1)) (nomark _)))))))) (rss_one (rs_ret re_bl)) rss_nil)
    (rss_one (rs_ret (re_or (re_cmp op_isN oIsN_ok (re_var (i := 2)) re_non (nomark _)) (re_one (re_cmp op_le oLe_ok (re_var (i := 0)) (re_var (i := 2)) (nomark _)))))))
theorem g_is_number (Z : Facts K mg) (Y : FactsT K mg base T) : DefG P w K mg base T 2 "is_number" (defArgs s_is_number) (defBody s_is_number) (defScope s_is_number) ["value", "low", "high"] false F_is_number := by
  obtain ⟨f, fd, a, b⟩ := Z.d_is_number
  exact ⟨f, fd, a, b, def_g a sc_is_number (r_is_number Z Y)⟩
theorem r_is_tuple_of (Z : Facts K mg) (Y : FactsT K mg base T) {f : Addr} : ∀ (cdv : Value) (A : Around) (outer : List PySem.Env) (s : Shared) (H : Hp) (E : XK), Room 0 (A.deeper (envOfC "is_tuple_of" (defScope s_is_tuple_of) s.heap.objs.size f cdv)) → A.guards = some [] →
    RSs T false (cxOf (L2.CX P w) P w K mg base ["value", "many"] "is_tuple_of" (defScope s_is_tuple_of) f cdv A outer s H E) (fun cls d _ H' => E cls d H') (defBody s_is_tuple_of) b_is_tuple_of := by
  intro cdv A outer s H E hr hgu
  unfold b_is_tuple_of
  exact (rss_one (rs_ret (re_and (re_isi (t := .tuple) (re_var (i := 0)) Z.n_isinstance Z.n_tuple (by decide +kernel)) (re_one (re_cmp (op_eqA (Room.units hr)) oEqA_ok (re_callB call_len bLen_ok Z.n_len (by decide +kernel) (ra_cons (re_var (i := 0)) ra_nil)) (re_var (i := 1)) (nomark _))))))
theorem g_is_tuple_of (Z : Facts K mg) (Y : FactsT K mg base T) : DefG P w K mg base T 1 "is_tuple_of" (defArgs s_is_tuple_of) (defBody s_is_tuple_of) (defScope s_is_tuple_of) ["value", "many"] false F_is_tuple_of := by
  obtain ⟨f, fd, a, b⟩ := Z.d_is_tuple_of
  exact ⟨f, fd, a, b, def_g a sc_is_tuple_of (r_is_tuple_of Z Y)⟩
theorem r_staying (Z : Facts K mg) (Y : FactsT K mg base T) {f : Addr} : ∀ (cdv : Value) (A : Around) (outer : List PySem.Env) (s : Shared) (H : Hp) (E : XK), Room 0 (A.deeper (envOfC "staying" (defScope s_staying) s.heap.objs.size f cdv)) → A.guards = some [] →
    RSs T true (cxOf (L2.CX P w) P w K mg base ["rows", "ceilings", "left", "at"] "staying" (defScope s_staying) f cdv A outer s H E) (fun cls d _ H' => E cls d H') (defBody s_staying) b_staying := by
  intro cdv A outer s H E hr hgu
  unfold b_staying
  exact (rss_one (rs_ret (re_comp rfl sc_staying.nd (blkOk_by (N := ["rows", "ceilings", "left", "at"]) (sc := (defScope s_staying)) (own := [("at", 3)]) (by decide +kernel)) rfl (by decide) (ri_seqA (re_var (i := 2))) (fun _ _ _ _ _ => (rg_name (i := 3) sc_staying.nd)) (fun _ _ _ _ _ => (rts_one (rt_cmp op_ge oGe_ok (re_ix (re_var (i := 1)) (re_var (i := 3)) (fun _ _ => rfl)) (re_ix (re_ix (re_var (i := 0)) (re_var (i := 3)) (fun _ _ => rfl)) (re_bin op_sub oSub_ok (re_callB call_len bLen_ok Z.n_len (by decide +kernel) (ra_cons (re_var (i := 2)) ra_nil)) re_int) (fun _ _ => rfl)) (nomark _)))) (fun _ _ _ _ _ => (re_var (i := 3))))))
theorem g_staying (Z : Facts K mg) (Y : FactsT K mg base T) : DefG P w K mg base T 1 "staying" (defArgs s_staying) (defBody s_staying) (defScope s_staying) ["rows", "ceilings", "left"] true F_staying := by
  obtain ⟨f, fd, a, b⟩ := Z.d_staying
  exact ⟨f, fd, a, b, def_g a sc_staying (r_staying Z Y)⟩
theorem r_left_of (Z : Facts K mg) (Y : FactsT K mg base T) {f : Addr} : ∀ (cdv : Value) (A : Around) (outer : List PySem.Env) (s : Shared) (H : Hp) (E : XK), Room 1 (A.deeper (envOfC "left_of" (defScope s_left_of) s.heap.objs.size f cdv)) → A.guards = some [] →
    RSs T false (cxOf (L2.CX P w) P w K mg base ["rows", "ceilings", "left", "stay"] "left_of" (defScope s_left_of) f cdv A outer s H E) (fun cls d _ H' => E cls d H') (defBody s_left_of) b_left_of := by
  intro cdv A outer s H E hr hgu
  unfold b_left_of
  exact (rss_cons (rs_set (i := 2) sc_left_of.nd (RE.frozen (re_listR1 (re_callB call_len bLen_ok Z.n_len (by decide +kernel) (ra_cons (re_var (i := 1)) ra_nil)) rfl Z.n_list Z.n_range)))
    (rss_cons (rs_set (i := 3) sc_left_of.nd (RE.frozen (re_call (g_staying Z Y) pn_staying (hr.mono (by decide)) hgu pass_cx (ra_cons (re_var (i := 0)) (ra_cons (re_var (i := 1)) (ra_cons (re_var (i := 2)) ra_nil))))))
    (rss_cons (rs_while wfuel own_cx (rt_cmp (op_ltA (Room.units0 hr)) oLtA_ok (re_callB call_len bLen_ok Z.n_len (by decide +kernel) (ra_cons (re_var (i := 3)) ra_nil)) (re_callB call_len bLen_ok Z.n_len (by decide +kernel) (ra_cons (re_var (i := 2)) ra_nil)) (nomark _)) (rss_cons (rs_set (i := 2) sc_left_of.nd (re_var (i := 3)))
    (rss_one (rs_set (i := 3) sc_left_of.nd (RE.frozen (re_call (g_staying Z Y) pn_staying (hr.mono (by decide)) hgu pass_cx (ra_cons (re_var (i := 0)) (ra_cons (re_var (i := 1)) (ra_cons (re_var (i := 2)) ra_nil)))))))))
    (rss_one (rs_ret (re_var (i := 2)))))))
theorem g_left_of (Z : Facts K mg) (Y : FactsT K mg base T) : DefG P w K mg base T 2 "left_of" (defArgs s_left_of) (defBody s_left_of) (defScope s_left_of) ["rows", "ceilings"] false F_left_of := by
  obtain ⟨f, fd, a, b⟩ := Z.d_left_of
  exact ⟨f, fd, a, b, def_g a sc_left_of (r_left_of Z Y)⟩
theorem r_is_told (Z : Facts K mg) (Y : FactsT K mg base T) {f : Addr} : ∀ (cdv : Value) (A : Around) (outer : List PySem.Env) (s : Shared) (H : Hp) (E : XK), Room 2 (A.deeper (envOfC "is_told" (defScope s_is_told) s.heap.objs.size f cdv)) → A.guards = some [] →
    RSs T false (cxOf (L2.CX P w) P w K mg base ["value"] "is_told" (defScope s_is_told) f cdv A outer s H E) (fun cls d _ H' => E cls d H') (defBody s_is_told) b_is_told := by
  intro cdv A outer s H E hr hgu
  unfold b_is_told
  exact (rss_one (rs_ret (re_call (g_is_number Z Y) pn_is_number (hr.mono (by decide)) hgu pass_cx (ra_cons (re_var (i := 0)) (ra_cons re_int (ra_cons (re_glob Z.k_MOST_WORTH) ra_nil))))))
theorem g_is_told (Z : Facts K mg) (Y : FactsT K mg base T) : DefG P w K mg base T 3 "is_told" (defArgs s_is_told) (defBody s_is_told) (defScope s_is_told) ["value"] false F_is_told := by
  obtain ⟨f, fd, a, b⟩ := Z.d_is_told
  exact ⟨f, fd, a, b, def_g a sc_is_told (r_is_told Z Y)⟩
theorem r_is_table (Z : Facts K mg) (Y : FactsT K mg base T) {f : Addr} : ∀ (cdv : Value) (A : Around) (outer : List PySem.Env) (s : Shared) (H : Hp) (E : XK), Room 2 (A.deeper (envOfC "is_table" (defScope s_is_table) s.heap.objs.size f cdv)) → A.guards = some [] →
    RSs T false (cxOf (L2.CX P w) P w K mg base ["value", "price"] "is_table" (defScope s_is_table) f cdv A outer s H E) (fun cls d _ H' => E cls d H') (defBody s_is_table) b_is_table := by
  intro cdv A outer s H E hr hgu
  unfold b_is_table
  exact (rss_cons (rs_if (RW.t (rw_or (rt_not (rt_val (re_isi (t := .tuple) (re_var (i := 0)) Z.n_isinstance Z.n_tuple (by decide +kernel)))) (rw_or1 (rt_not (rt_chain op_le op_le oLe_ok oLe_ok re_int (re_callB call_len bLen_ok Z.n_len (by decide +kernel) (ra_cons (re_var (i := 0)) ra_nil)) (re_glob Z.k_MOST_PEOPLE)))))) (rss_one (rs_ret re_bl)) rss_nil)
    (rss_one (rs_ret (re_callB (cr_all rfl) bAll_ok Z.n_all (by decide +kernel) (ra_cons (RE.frozen (re_comp rfl sc_is_table.nd (blkOk_by (N := ["value", "price"]) (sc := (defScope s_is_table)) (own := [("price", 1)]) (by decide +kernel)) rfl (by decide) (ri_seqA (re_var (i := 0))) (fun _ _ _ _ _ => (rg_name (i := 1) sc_is_table.nd)) (fun _ _ _ _ _ => rts_nil) (fun _ _ _ _ _ => (re_call (g_is_number Z Y) pn_is_number (hr.mono (by decide)) hgu pass_blk (ra_cons (re_var (i := 1)) (ra_cons re_int (ra_cons (re_glob Z.k_MOST_PRICE) ra_nil))))))) ra_nil)))))
theorem g_is_table (Z : Facts K mg) (Y : FactsT K mg base T) : DefG P w K mg base T 3 "is_table" (defArgs s_is_table) (defBody s_is_table) (defScope s_is_table) ["value"] false F_is_table := by
  obtain ⟨f, fd, a, b⟩ := Z.d_is_table
  exact ⟨f, fd, a, b, def_g a sc_is_table (r_is_table Z Y)⟩
theorem r_check_table (Z : Facts K mg) (Y : FactsT K mg base T) {f : Addr} : ∀ (cdv : Value) (A : Around) (outer : List PySem.Env) (s : Shared) (H : Hp) (E : XK), Room 3 (A.deeper (envOfC "check_table" (defScope s_check_table) s.heap.objs.size f cdv)) → A.guards = some [] →
    RSs T false (cxOf (L2.CX P w) P w K mg base ["value"] "check_table" (defScope s_check_table) f cdv A outer s H E) (fun cls d _ H' => E cls d H') (defBody s_check_table) b_check_table := by
  intro cdv A outer s H E hr hgu
  unfold b_check_table
  exact (rss_one (rs_if (rt_not (rt_val (re_call (g_is_table Z Y) pn_is_table (hr.mono (by decide)) hgu pass_cx (ra_cons (re_var (i := 0)) ra_nil)))) (rss_one rs_never) rss_nil))
theorem g_check_table (Z : Facts K mg) (Y : FactsT K mg base T) : DefG P w K mg base T 4 "check_table" (defArgs s_check_table) (defBody s_check_table) (defScope s_check_table) ["value"] false F_check_table := by
  obtain ⟨f, fd, a, b⟩ := Z.d_check_table
  exact ⟨f, fd, a, b, def_g a sc_check_table (r_check_table Z Y)⟩
theorem lg_lam_0 (Z : Facts K mg) (Y : FactsT K mg base T) : LamG P w K mg base T 4 lam_0 ["each", "before"] F_lam_0 := by
  refine lam_g sc_lam_0 pl_lam_0 fun f c' A outer s H E hr hgu => ?_
  unfold e_lam_0
  exact (re_call (g_is_told Z Y) pn_is_told (hr.mono (by decide)) hgu pass_cx (ra_cons (re_var (i := 0)) ra_nil))
theorem r_wrong_at_0 (Z : Facts K mg) (Y : FactsT K mg base T) {f : Addr} : ∀ (cdv : Value) (A : Around) (outer : List PySem.Env) (s : Shared) (H : Hp) (E : XK), Room 4 (A.deeper (envOfC "wrong_at" (defScope s_wrong_at) s.heap.objs.size f cdv)) → A.guards = some [] →
    RSs T true (cxOf (L2.CX P w) P w K mg base ["values", "most", "is_right", "at", "value"] "wrong_at" (defScope s_wrong_at) f cdv A outer s H E) (fun cls d _ H' => E cls d H') (defBody s_wrong_at) b_wrong_at_0 := by
  intro cdv A outer s H E hr hgu
  unfold b_wrong_at_0
  exact (rss_cons (rs_if (rt_not (rt_val (re_isi (t := .tuple) (re_var (i := 0)) Z.n_isinstance Z.n_tuple (by decide +kernel)))) (rss_one (rs_ret (re_lst (ra_cons re_non ra_nil)))) rss_nil)
    (rss_cons (rs_for own_cx rfl (ri_enumA (ra_cons (re_var (i := 0)) ra_nil) Z.n_enumerate) (rg_tup rfl (rgs_cons (rg_name (i := 3) sc_wrong_at.nd) (rgs_cons (rg_name (i := 4) sc_wrong_at.nd) rgs_nil))) (rss_one (rs_if (RW.t (rw_or (rt_cmp (op_eqA (Room.units hr)) oEqA_ok (re_var (i := 3)) (re_var (i := 1)) (nomark _)) (rw_or1 (rt_not (rt_val (re_callV (i := 2) (lg_lam_0 Z Y) (hr.mono (by decide)) hgu pass_cx (ra_cons (re_var (i := 4)) (ra_cons (re_sliceA (re_var (i := 0)) ro_none (ro_some (re_var (i := 3)))) ra_nil)))))))) (rss_one (rs_ret (re_lst (ra_cons (re_var (i := 3)) ra_nil)))) rss_nil)))
    (rss_one (rs_ret (re_lst ra_nil)))))
theorem g_wrong_at_0 (Z : Facts K mg) (Y : FactsT K mg base T) : DefG P w K mg base T 5 "wrong_at" (defArgs s_wrong_at) (defBody s_wrong_at) (defScope s_wrong_at) ["values", "most", "is_right"] true F_wrong_at_0 := by
  obtain ⟨f, fd, a, b⟩ := Z.d_wrong_at
  exact ⟨f, fd, a, b, def_g a sc_wrong_at (r_wrong_at_0 Z Y)⟩
theorem r_wrong_from_one_0 (Z : Facts K mg) (Y : FactsT K mg base T) {f : Addr} : ∀ (cdv : Value) (A : Around) (outer : List PySem.Env) (s : Shared) (H : Hp) (E : XK), Room 5 (A.deeper (envOfC "wrong_from_one" (defScope s_wrong_from_one) s.heap.objs.size f cdv)) → A.guards = some [] →
    RSs T true (cxOf (L2.CX P w) P w K mg base ["values", "most", "is_right"] "wrong_from_one" (defScope s_wrong_from_one) f cdv A outer s H E) (fun cls d _ H' => E cls d H') (defBody s_wrong_from_one) b_wrong_from_one_0 := by
  intro cdv A outer s H E hr hgu
  unfold b_wrong_from_one_0
  exact (rss_one (rs_ret (re_if (rt_cmp (op_eqA (Room.units hr)) oEqA_ok (re_var (i := 0)) (re_tup ra_nil) (nomark _)) (re_lst (ra_cons re_non ra_nil)) (re_call (g_wrong_at_0 Z Y) pn_wrong_at (hr.mono (by decide)) hgu pass_cx (ra_cons (re_var (i := 0)) (ra_cons (re_var (i := 1)) (ra_cons (re_var (i := 2)) ra_nil)))))))
theorem g_wrong_from_one_0 (Z : Facts K mg) (Y : FactsT K mg base T) : DefG P w K mg base T 6 "wrong_from_one" (defArgs s_wrong_from_one) (defBody s_wrong_from_one) (defScope s_wrong_from_one) ["values", "most", "is_right"] true F_wrong_from_one_0 := by
  obtain ⟨f, fd, a, b⟩ := Z.d_wrong_from_one
  exact ⟨f, fd, a, b, def_g a sc_wrong_from_one (r_wrong_from_one_0 Z Y)⟩
theorem r_check_ceilings (Z : Facts K mg) (Y : FactsT K mg base T) {f : Addr} : ∀ (cdv : Value) (A : Around) (outer : List PySem.Env) (s : Shared) (H : Hp) (E : XK), Room 6 (A.deeper (envOfC "check_ceilings" (defScope s_check_ceilings) s.heap.objs.size f cdv)) → A.guards = some [] → (∃ c P, LamX.TabB base mg c P ∧ cdv = .ref c ∧ (P, ("check_ceilings.<locals>.<lambda>" : Str)) ∈ T ∧ ∀ p ∈ T, p.1 = P → p.2 = "check_ceilings.<locals>.<lambda>") →
    RSs T false (cxOf (L2.CX P w) P w K mg base ["value", "most", "wrong"] "check_ceilings" (defScope s_check_ceilings) f cdv A outer s H E) (fun cls d _ H' => E cls d H') (defBody s_check_ceilings) b_check_ceilings := by
  intro cdv A outer s H E hr hgu L
  unfold b_check_ceilings
  exact (rss_cons (rs_set (i := 2) sc_check_ceilings.nd (RE.frozen (re_call (g_wrong_from_one_0 Z Y) pn_wrong_from_one (hr.mono (by decide)) hgu pass_cx (ra_cons (re_var (i := 0)) (ra_cons (re_var (i := 1)) (ra_cons (re_lam (l := lam_0) ⟨L, rfl⟩) ra_nil))))))
    (rss_one (rs_if (rt_cmp (op_neA (Room.units hr)) oNeA_ok (re_var (i := 2)) (RE.frozen (re_lst ra_nil)) (nomark _)) (rss_one rs_never) rss_nil)))
theorem g_check_ceilings (Z : Facts K mg) (Y : FactsT K mg base T) : DefG P w K mg base T 7 "check_ceilings" (defArgs s_check_ceilings) (defBody s_check_ceilings) (defScope s_check_ceilings) ["value", "most"] false F_check_ceilings := by
  obtain ⟨f, fd, c, P, a, b, hc, TB, hm, hu⟩ := Y.t_check_ceilings
  exact ⟨f, fd, a, b, def_gT a sc_check_ceilings fun cdv A outer s H E e hr hgu => r_check_ceilings Z Y cdv A outer s H E hr hgu ⟨c, P, TB, e.symm.trans hc, hm, hu⟩⟩
theorem r_check_shared (Z : Facts K mg) (Y : FactsT K mg base T) {f : Addr} : ∀ (cdv : Value) (A : Around) (outer : List PySem.Env) (s : Shared) (H : Hp) (E : XK), Room 7 (A.deeper (envOfC "check_shared" (defScope s_check_shared) s.heap.objs.size f cdv)) → A.guards = some [] →
    RSs T false (cxOf (L2.CX P w) P w K mg base ["table", "ceilings"] "check_shared" (defScope s_check_shared) f cdv A outer s H E) (fun cls d _ H' => E cls d H') (defBody s_check_shared) b_check_shared := by
  intro cdv A outer s H E hr hgu
  unfold b_check_shared
  exact (rss_cons (rs_expr (re_call (g_check_table Z Y) pn_check_table (hr.mono (by decide)) hgu pass_cx (ra_cons (re_var (i := 0)) ra_nil)))
    (rss_one (rs_expr (re_call (g_check_ceilings Z Y) pn_check_ceilings (hr.mono (by decide)) hgu pass_cx (ra_cons (re_var (i := 1)) (ra_cons (re_callB call_len bLen_ok Z.n_len (by decide +kernel) (ra_cons (re_var (i := 0)) ra_nil)) ra_nil))))))
theorem g_check_shared (Z : Facts K mg) (Y : FactsT K mg base T) : DefG P w K mg base T 8 "check_shared" (defArgs s_check_shared) (defBody s_check_shared) (defScope s_check_shared) ["table", "ceilings"] false F_check_shared := by
  obtain ⟨f, fd, a, b⟩ := Z.d_check_shared
  exact ⟨f, fd, a, b, def_g a sc_check_shared (r_check_shared Z Y)⟩
theorem r_price_of (Z : Facts K mg) (Y : FactsT K mg base T) {f : Addr} : ∀ (cdv : Value) (A : Around) (outer : List PySem.Env) (s : Shared) (H : Hp) (E : XK), Room 0 (A.deeper (envOfC "price_of" (defScope s_price_of) s.heap.objs.size f cdv)) → A.guards = some [] →
    RSs T false (cxOf (L2.CX P w) P w K mg base ["table", "left"] "price_of" (defScope s_price_of) f cdv A outer s H E) (fun cls d _ H' => E cls d H') (defBody s_price_of) b_price_of := by
  intro cdv A outer s H E hr hgu
  unfold b_price_of
  exact (rss_one (rs_ret (re_if (rt_cmp (op_neA (Room.units hr)) oNeA_ok (re_var (i := 1)) (RE.frozen (re_lst ra_nil)) (nomark _)) (re_ix (re_var (i := 0)) (re_bin op_sub oSub_ok (re_callB call_len bLen_ok Z.n_len (by decide +kernel) (ra_cons (re_var (i := 1)) ra_nil)) re_int) (fun _ _ => rfl)) re_non)))
theorem g_price_of (Z : Facts K mg) (Y : FactsT K mg base T) : DefG P w K mg base T 1 "price_of" (defArgs s_price_of) (defBody s_price_of) (defScope s_price_of) ["table", "left"] false F_price_of := by
  obtain ⟨f, fd, a, b⟩ := Z.d_price_of
  exact ⟨f, fd, a, b, def_g a sc_price_of (r_price_of Z Y)⟩
theorem r_share (Z : Facts K mg) (Y : FactsT K mg base T) {f : Addr} : ∀ (cdv : Value) (A : Around) (outer : List PySem.Env) (s : Shared) (H : Hp) (E : XK), Room 8 (A.deeper (envOfC "share" (defScope s_share) s.heap.objs.size f cdv)) → A.guards = some [] →
    RSs T false (cxOf (L2.CX P w) P w K mg base ["table", "ceilings", "left"] "share" (defScope s_share) f cdv A outer s H E) (fun cls d _ H' => E cls d H') (defBody s_share) b_share := by
  intro cdv A outer s H E hr hgu
  unfold b_share
  exact (rss_cons (rs_expr (re_call (g_check_shared Z Y) pn_check_shared (hr.mono (by decide)) hgu pass_cx (ra_cons (re_var (i := 0)) (ra_cons (re_var (i := 1)) ra_nil))))
    (rss_cons (rs_set (i := 2) sc_share.nd (re_call (g_left_of Z Y) pn_left_of (hr.mono (by decide)) hgu pass_cx (ra_cons (RE.frozen (re_bin op_rep oRepL_ok (RE.frozen (re_lst (ra_cons (re_var (i := 0)) ra_nil))) (re_callB call_len bLen_ok Z.n_len (by decide +kernel) (ra_cons (re_var (i := 1)) ra_nil)))) (ra_cons (re_var (i := 1)) ra_nil))))
    (rss_one (rs_ret (re_tup (ra_cons (re_callTy call_tuple_of bTuple_ok Z.n_tuple (by decide +kernel) (ra_cons (re_var (i := 2)) ra_nil)) (ra_cons (re_call (g_price_of Z Y) pn_price_of (hr.mono (by decide)) hgu pass_cx (ra_cons (re_var (i := 0)) (ra_cons (re_var (i := 2)) ra_nil))) ra_nil)))))))
theorem g_share (Z : Facts K mg) (Y : FactsT K mg base T) : DefG P w K mg base T 9 "share" (defArgs s_share) (defBody s_share) (defScope s_share) ["table", "ceilings"] false F_share := by
  obtain ⟨f, fd, a, b⟩ := Z.d_share
  exact ⟨f, fd, a, b, def_g a sc_share (r_share Z Y)⟩
theorem r_is_as_long (Z : Facts K mg) (Y : FactsT K mg base T) {f : Addr} : ∀ (cdv : Value) (A : Around) (outer : List PySem.Env) (s : Shared) (H : Hp) (E : XK), Room 0 (A.deeper (envOfC "is_as_long" (defScope s_is_as_long) s.heap.objs.size f cdv)) → A.guards = some [] →
    RSs T false (cxOf (L2.CX P w) P w K mg base ["table", "before", "each"] "is_as_long" (defScope s_is_as_long) f cdv A outer s H E) (fun cls d _ H' => E cls d H') (defBody s_is_as_long) b_is_as_long := by
  intro cdv A outer s H E hr hgu
  unfold b_is_as_long
  exact (rss_one (rs_ret (re_callB (cr_all rfl) bAll_ok Z.n_all (by decide +kernel) (ra_cons (RE.frozen (re_comp rfl sc_is_as_long.nd (blkOk_by (N := ["table", "before", "each"]) (sc := (defScope s_is_as_long)) (own := [("each", 2)]) (by decide +kernel)) rfl (by decide) (ri_seqA (re_var (i := 1))) (fun _ _ _ _ _ => (rg_name (i := 2) sc_is_as_long.nd)) (fun _ _ _ _ _ => rts_nil) (fun _ _ _ _ _ => (re_cmp (op_eqA (Room.units hr)) oEqA_ok (re_callB call_len bLen_ok Z.n_len (by decide +kernel) (ra_cons (re_var (i := 2)) ra_nil)) (re_callB call_len bLen_ok Z.n_len (by decide +kernel) (ra_cons (re_var (i := 0)) ra_nil)) (nomark _))))) ra_nil))))
theorem g_is_as_long (Z : Facts K mg) (Y : FactsT K mg base T) : DefG P w K mg base T 1 "is_as_long" (defArgs s_is_as_long) (defBody s_is_as_long) (defScope s_is_as_long) ["table", "before"] false F_is_as_long := by
  obtain ⟨f, fd, a, b⟩ := Z.d_is_as_long
  exact ⟨f, fd, a, b, def_g a sc_is_as_long (r_is_as_long Z Y)⟩
theorem lg_lam_1 (Z : Facts K mg) (Y : FactsT K mg base T) : LamG P w K mg base T 4 lam_1 ["each", "before"] F_lam_1 := by
  refine lam_g sc_lam_1 pl_lam_1 fun f c' A outer s H E hr hgu => ?_
  unfold e_lam_1
  exact (re_and (re_call (g_is_table Z Y) pn_is_table (hr.mono (by decide)) hgu pass_cx (ra_cons (re_var (i := 0)) ra_nil)) (re_one (re_call (g_is_as_long Z Y) pn_is_as_long (hr.mono (by decide)) hgu pass_cx (ra_cons (re_var (i := 0)) (ra_cons (re_var (i := 1)) ra_nil)))))
theorem r_wrong_at_1 (Z : Facts K mg) (Y : FactsT K mg base T) {f : Addr} : ∀ (cdv : Value) (A : Around) (outer : List PySem.Env) (s : Shared) (H : Hp) (E : XK), Room 4 (A.deeper (envOfC "wrong_at" (defScope s_wrong_at) s.heap.objs.size f cdv)) → A.guards = some [] →
    RSs T true (cxOf (L2.CX P w) P w K mg base ["values", "most", "is_right", "at", "value"] "wrong_at" (defScope s_wrong_at) f cdv A outer s H E) (fun cls d _ H' => E cls d H') (defBody s_wrong_at) b_wrong_at_1 := by
  intro cdv A outer s H E hr hgu
  unfold b_wrong_at_1
  exact (rss_cons (rs_if (rt_not (rt_val (re_isi (t := .tuple) (re_var (i := 0)) Z.n_isinstance Z.n_tuple (by decide +kernel)))) (rss_one (rs_ret (re_lst (ra_cons re_non ra_nil)))) rss_nil)
    (rss_cons (rs_for own_cx rfl (ri_enumA (ra_cons (re_var (i := 0)) ra_nil) Z.n_enumerate) (rg_tup rfl (rgs_cons (rg_name (i := 3) sc_wrong_at.nd) (rgs_cons (rg_name (i := 4) sc_wrong_at.nd) rgs_nil))) (rss_one (rs_if (RW.t (rw_or (rt_cmp (op_eqA (Room.units hr)) oEqA_ok (re_var (i := 3)) (re_var (i := 1)) (nomark _)) (rw_or1 (rt_not (rt_val (re_callV (i := 2) (lg_lam_1 Z Y) (hr.mono (by decide)) hgu pass_cx (ra_cons (re_var (i := 4)) (ra_cons (re_sliceA (re_var (i := 0)) ro_none (ro_some (re_var (i := 3)))) ra_nil)))))))) (rss_one (rs_ret (re_lst (ra_cons (re_var (i := 3)) ra_nil)))) rss_nil)))
    (rss_one (rs_ret (re_lst ra_nil)))))
theorem g_wrong_at_1 (Z : Facts K mg) (Y : FactsT K mg base T) : DefG P w K mg base T 5 "wrong_at" (defArgs s_wrong_at) (defBody s_wrong_at) (defScope s_wrong_at) ["values", "most", "is_right"] true F_wrong_at_1 := by
  obtain ⟨f, fd, a, b⟩ := Z.d_wrong_at
  exact ⟨f, fd, a, b, def_g a sc_wrong_at (r_wrong_at_1 Z Y)⟩
theorem r_wrong_from_one_1 (Z : Facts K mg) (Y : FactsT K mg base T) {f : Addr} : ∀ (cdv : Value) (A : Around) (outer : List PySem.Env) (s : Shared) (H : Hp) (E : XK), Room 5 (A.deeper (envOfC "wrong_from_one" (defScope s_wrong_from_one) s.heap.objs.size f cdv)) → A.guards = some [] →
    RSs T true (cxOf (L2.CX P w) P w K mg base ["values", "most", "is_right"] "wrong_from_one" (defScope s_wrong_from_one) f cdv A outer s H E) (fun cls d _ H' => E cls d H') (defBody s_wrong_from_one) b_wrong_from_one_1 := by
  intro cdv A outer s H E hr hgu
  unfold b_wrong_from_one_1
  exact (rss_one (rs_ret (re_if (rt_cmp (op_eqA (Room.units hr)) oEqA_ok (re_var (i := 0)) (re_tup ra_nil) (nomark _)) (re_lst (ra_cons re_non ra_nil)) (re_call (g_wrong_at_1 Z Y) pn_wrong_at (hr.mono (by decide)) hgu pass_cx (ra_cons (re_var (i := 0)) (ra_cons (re_var (i := 1)) (ra_cons (re_var (i := 2)) ra_nil)))))))
theorem g_wrong_from_one_1 (Z : Facts K mg) (Y : FactsT K mg base T) : DefG P w K mg base T 6 "wrong_from_one" (defArgs s_wrong_from_one) (defBody s_wrong_from_one) (defScope s_wrong_from_one) ["values", "most", "is_right"] true F_wrong_from_one_1 := by
  obtain ⟨f, fd, a, b⟩ := Z.d_wrong_from_one
  exact ⟨f, fd, a, b, def_g a sc_wrong_from_one (r_wrong_from_one_1 Z Y)⟩
theorem r_check_tables (Z : Facts K mg) (Y : FactsT K mg base T) {f : Addr} : ∀ (cdv : Value) (A : Around) (outer : List PySem.Env) (s : Shared) (H : Hp) (E : XK), Room 6 (A.deeper (envOfC "check_tables" (defScope s_check_tables) s.heap.objs.size f cdv)) → A.guards = some [] → (∃ c P, LamX.TabB base mg c P ∧ cdv = .ref c ∧ (P, ("check_tables.<locals>.<lambda>" : Str)) ∈ T ∧ ∀ p ∈ T, p.1 = P → p.2 = "check_tables.<locals>.<lambda>") →
    RSs T false (cxOf (L2.CX P w) P w K mg base ["value", "wrong"] "check_tables" (defScope s_check_tables) f cdv A outer s H E) (fun cls d _ H' => E cls d H') (defBody s_check_tables) b_check_tables := by
  intro cdv A outer s H E hr hgu L
  unfold b_check_tables
  exact (rss_cons (rs_set (i := 1) sc_check_tables.nd (RE.frozen (re_call (g_wrong_from_one_1 Z Y) pn_wrong_from_one (hr.mono (by decide)) hgu pass_cx (ra_cons (re_var (i := 0)) (ra_cons (re_glob Z.k_MOST_CLASSES) (ra_cons (re_lam (l := lam_1) ⟨L, rfl⟩) ra_nil))))))
    (rss_one (rs_if (rt_cmp (op_neA (Room.units hr)) oNeA_ok (re_var (i := 1)) (RE.frozen (re_lst ra_nil)) (nomark _)) (rss_one rs_never) rss_nil)))
theorem g_check_tables (Z : Facts K mg) (Y : FactsT K mg base T) : DefG P w K mg base T 7 "check_tables" (defArgs s_check_tables) (defBody s_check_tables) (defScope s_check_tables) ["value"] false F_check_tables := by
  obtain ⟨f, fd, c, P, a, b, hc, TB, hm, hu⟩ := Y.t_check_tables
  exact ⟨f, fd, a, b, def_gT a sc_check_tables fun cdv A outer s H E e hr hgu => r_check_tables Z Y cdv A outer s H E hr hgu ⟨c, P, TB, e.symm.trans hc, hm, hu⟩⟩
theorem r_check_classes (Z : Facts K mg) (Y : FactsT K mg base T) {f : Addr} : ∀ (cdv : Value) (A : Around) (outer : List PySem.Env) (s : Shared) (H : Hp) (E : XK), Room 2 (A.deeper (envOfC "check_classes" (defScope s_check_classes) s.heap.objs.size f cdv)) → A.guards = some [] →
    RSs T false (cxOf (L2.CX P w) P w K mg base ["value", "many", "classes", "at", "each"] "check_classes" (defScope s_check_classes) f cdv A outer s H E) (fun cls d _ H' => E cls d H') (defBody s_check_classes) b_check_classes := by
  intro cdv A outer s H E hr hgu
  unfold b_check_classes
  exact (rss_cons (rs_if (rt_not (rt_val (re_call (g_is_tuple_of Z Y) pn_is_tuple_of (hr.mono (by decide)) hgu pass_cx (ra_cons (re_var (i := 0)) (ra_cons (re_var (i := 1)) ra_nil))))) (rss_one rs_never) rss_nil)
    (rss_one (rs_for own_cx rfl (ri_enumA (ra_cons (re_var (i := 0)) ra_nil) Z.n_enumerate) (rg_tup rfl (rgs_cons (rg_name (i := 3) sc_check_classes.nd) (rgs_cons (rg_name (i := 4) sc_check_classes.nd) rgs_nil))) (rss_one (rs_if (rt_not (rt_val (re_call (g_is_number Z Y) pn_is_number (hr.mono (by decide)) hgu pass_cx (ra_cons (re_var (i := 4)) (ra_cons re_int (ra_cons (re_bin op_sub oSub_ok (re_var (i := 2)) re_int) ra_nil)))))) (rss_one rs_never) rss_nil)))))
theorem g_check_classes (Z : Facts K mg) (Y : FactsT K mg base T) : DefG P w K mg base T 3 "check_classes" (defArgs s_check_classes) (defBody s_check_classes) (defScope s_check_classes) ["value", "many", "classes"] false F_check_classes := by
  obtain ⟨f, fd, a, b⟩ := Z.d_check_classes
  exact ⟨f, fd, a, b, def_g a sc_check_classes (r_check_classes Z Y)⟩
theorem r_share_by (Z : Facts K mg) (Y : FactsT K mg base T) {f : Addr} : ∀ (cdv : Value) (A : Around) (outer : List PySem.Env) (s : Shared) (H : Hp) (E : XK), Room 7 (A.deeper (envOfC "share_by" (defScope s_share_by) s.heap.objs.size f cdv)) → A.guards = some [] →
    RSs T false (cxOf (L2.CX P w) P w K mg base ["tables", "ceilings", "classes", "rows", "each", "left", "at"] "share_by" (defScope s_share_by) f cdv A outer s H E) (fun cls d _ H' => E cls d H') (defBody s_share_by) b_share_by := by
  intro cdv A outer s H E hr hgu
  unfold b_share_by
  exact (rss_cons (rs_expr (re_call (g_check_tables Z Y) pn_check_tables (hr.mono (by decide)) hgu pass_cx (ra_cons (re_var (i := 0)) ra_nil)))
    (rss_cons (rs_expr (re_call (g_check_ceilings Z Y) pn_check_ceilings (hr.mono (by decide)) hgu pass_cx (ra_cons (re_var (i := 1)) (ra_cons (re_callB call_len bLen_ok Z.n_len (by decide +kernel) (ra_cons (re_ix (re_var (i := 0)) re_int (fun _ _ => rfl)) ra_nil)) ra_nil))))
    (rss_cons (rs_expr (re_call (g_check_classes Z Y) pn_check_classes (hr.mono (by decide)) hgu pass_cx (ra_cons (re_var (i := 2)) (ra_cons (re_callB call_len bLen_ok Z.n_len (by decide +kernel) (ra_cons (re_var (i := 1)) ra_nil)) (ra_cons (re_callB call_len bLen_ok Z.n_len (by decide +kernel) (ra_cons (re_var (i := 0)) ra_nil)) ra_nil)))))
    (rss_cons (rs_set (i := 3) sc_share_by.nd (RE.frozen (re_comp rfl sc_share_by.nd (blkOk_by (N := ["tables", "ceilings", "classes", "rows", "each", "left", "at"]) (sc := (defScope s_share_by)) (own := [("each", 4)]) (by decide +kernel)) rfl (by decide) (ri_seqA (re_var (i := 2))) (fun _ _ _ _ _ => (rg_name (i := 4) sc_share_by.nd)) (fun _ _ _ _ _ => rts_nil) (fun _ _ _ _ _ => (re_ix (re_var (i := 0)) (re_var (i := 4)) (fun _ _ => rfl))))))
    (rss_cons (rs_set (i := 5) sc_share_by.nd (re_call (g_left_of Z Y) pn_left_of (hr.mono (by decide)) hgu pass_cx (ra_cons (re_var (i := 3)) (ra_cons (re_var (i := 1)) ra_nil))))
    (rss_one (rs_ret (re_tup (ra_cons (re_callTy call_tuple_of bTuple_ok Z.n_tuple (by decide +kernel) (ra_cons (re_var (i := 5)) ra_nil)) (ra_cons (re_callTy call_tuple_of bTuple_ok Z.n_tuple (by decide +kernel) (ra_cons (RE.frozen (re_comp rfl sc_share_by.nd (blkOk_by (N := ["tables", "ceilings", "classes", "rows", "each", "left", "at"]) (sc := (defScope s_share_by)) (own := [("at", 6)]) (by decide +kernel)) rfl (by decide) (ri_seqA (re_var (i := 5))) (fun _ _ _ _ _ => (rg_name (i := 6) sc_share_by.nd)) (fun _ _ _ _ _ => rts_nil) (fun _ _ _ _ _ => (re_ix (re_ix (re_var (i := 3)) (re_var (i := 6)) (fun _ _ => rfl)) (re_bin op_sub oSub_ok (re_callB call_len bLen_ok Z.n_len (by decide +kernel) (ra_cons (re_var (i := 5)) ra_nil)) re_int) (fun _ _ => rfl))))) ra_nil)) ra_nil))))))))))
theorem g_share_by (Z : Facts K mg) (Y : FactsT K mg base T) : DefG P w K mg base T 8 "share_by" (defArgs s_share_by) (defBody s_share_by) (defScope s_share_by) ["tables", "ceilings", "classes"] false F_share_by := by
  obtain ⟨f, fd, a, b⟩ := Z.d_share_by
  exact ⟨f, fd, a, b, def_g a sc_share_by (r_share_by Z Y)⟩
theorem r__law_well (Z : Facts K mg) (Y : FactsT K mg base T) {f : Addr} : ∀ (cdv : Value) (A : Around) (outer : List PySem.Env) (s : Shared) (H : Hp) (E : XK), Room 0 (A.deeper (envOfC "_law_well" (defScope s__law_well) s.heap.objs.size f cdv)) → A.guards = some [] →
    RSs T true (cxOf (L2.CX P w) P w K mg base ["script", "k", "cell", "mixed", "each"] "_law_well" (defScope s__law_well) f cdv A outer s H E) (fun cls d _ H' => E cls d H') (defBody s__law_well) b__law_well := by
  intro cdv A outer s H E hr hgu
  unfold b__law_well
  exact (rss_cons (rs_set (i := 2) sc__law_well.nd (re_if (rt_cmp (op_ltA (Room.units0 hr)) oLtA_ok (re_var (i := 1)) (re_callB call_len bLen_ok Z.n_len (by decide +kernel) (ra_cons (re_var (i := 0)) ra_nil)) (nomark _)) (re_callTy call_int1 bInt_ok Z.n_int (by decide +kernel) (ra_cons (re_ix (re_var (i := 0)) (re_var (i := 1)) (fun _ _ => rfl)) ra_nil)) (re_bin op_add4 oAddA_ok (re_bin op_mul oMul_ok re_int (re_var (i := 1))) re_int)))
    (rss_cons (rs_set (i := 3) sc__law_well.nd (re_bin op_add4 oAddA_ok re_int (re_bin op_mul oMul_ok re_int (re_var (i := 1)))))
    (rss_cons (rs_for own_cx rfl (ri_seqA (RE.frozen (re_bin op_cat oCat_ok (RE.frozen (re_sliceL (re_var (i := 0)) ro_none (ro_some re_int))) (RE.frozen (re_lst (ra_cons (re_var (i := 2)) ra_nil)))))) (rg_name (i := 4) sc__law_well.nd) (rss_one (rs_set (i := 3) sc__law_well.nd (re_bin op_modN oMod_ok (re_callTy call_int1 bInt_ok Z.n_int (by decide +kernel) (ra_cons (re_bin op_add4 oAddA_ok (re_bin op_add4 oAddA_ok (re_bin op_mul oMul_ok (re_var (i := 3)) re_int) (re_bin op_modN oMod_ok (re_callTy call_int1 bInt_ok Z.n_int (by decide +kernel) (ra_cons (re_var (i := 4)) ra_nil)) re_int)) re_int) ra_nil)) re_int))))
    (rss_one (rs_ret (re_lst (ra_cons (re_if (RW.t (rw_or (rt_cmp (op_ltA (Room.units0 hr)) oLtA_ok (re_var (i := 2)) re_int (nomark _)) (rw_or1 (rt_cmp op_ge oGe_ok (re_var (i := 2)) (re_bin op_pow oPow_ok re_int re_int) (nomark _))))) (re_callB call_abs bAbs_ok Z.n_abs (by decide +kernel) (ra_cons (re_var (i := 2)) ra_nil)) re_int) (ra_cons (re_var (i := 3)) (ra_cons re_int ra_nil)))))))))
theorem g__law_well (Z : Facts K mg) (Y : FactsT K mg base T) : DefG P w K mg base T 1 "_law_well" (defArgs s__law_well) (defBody s__law_well) (defScope s__law_well) ["script", "k"] true F__law_well := by
  obtain ⟨f, fd, a, b⟩ := Z.d__law_well
  exact ⟨f, fd, a, b, def_g a sc__law_well (r__law_well Z Y)⟩
theorem r__law_dip (Z : Facts K mg) (Y : FactsT K mg base T) {f : Addr} : ∀ (cdv : Value) (A : Around) (outer : List PySem.Env) (s : Shared) (H : Hp) (E : XK), Room 0 (A.deeper (envOfC "_law_dip" (defScope s__law_dip) s.heap.objs.size f cdv)) → A.guards = some [] →
    RSs T false (cxOf (L2.CX P w) P w K mg base ["well", "many", "digit"] "_law_dip" (defScope s__law_dip) f cdv A outer s H E) (fun cls d _ H' => E cls d H') (defBody s__law_dip) b__law_dip := by
  intro cdv A outer s H E hr hgu
  unfold b__law_dip
  exact (rss_cons (rs_if (rt_cmp op_gt oGt_ok (re_ix (re_var (i := 0)) re_int (fun _ _ => rfl)) re_int (nomark _)) (rss_cons (rs_asg (re_callB call_divmod bDivmod_ok Z.n_divmod (by decide +kernel) (ra_cons (re_ix (re_var (i := 0)) re_int (fun _ _ => rfl)) (ra_cons (re_var (i := 1)) ra_nil))) (rg_tup rfl (rgs_cons (rg_sub (re_var (i := 0)) re_int) (rgs_cons (rg_name (i := 2) sc__law_dip.nd) rgs_nil))))
    (rss_one (rs_ret (re_var (i := 2))))) rss_nil)
    (rss_cons (rs_asg (re_bin op_add4 oAddA_ok (re_ix (re_var (i := 0)) re_int (fun _ _ => rfl)) re_int) (rg_sub (re_var (i := 0)) re_int))
    (rss_cons (rs_asg (re_bin op_modN oMod_ok (re_callTy call_int1 bInt_ok Z.n_int (by decide +kernel) (ra_cons (re_bin op_add4 oAddA_ok (re_bin op_add4 oAddA_ok (re_bin op_mul oMul_ok (re_ix (re_var (i := 0)) re_int (fun _ _ => rfl)) re_int) (re_bin op_mul oMul_ok re_int (re_ix (re_var (i := 0)) re_int (fun _ _ => rfl)))) re_int) ra_nil)) re_int) (rg_sub (re_var (i := 0)) re_int))
    (rss_one (rs_ret (re_bin op_modN oMod_ok (re_callTy call_int1 bInt_ok Z.n_int (by decide +kernel) (ra_cons (re_bin op_fdivN oDiv_ok (re_ix (re_var (i := 0)) re_int (fun _ _ => rfl)) re_int) ra_nil)) (re_var (i := 1))))))))
theorem g__law_dip (Z : Facts K mg) (Y : FactsT K mg base T) : DefG P w K mg base T 1 "_law_dip" (defArgs s__law_dip) (defBody s__law_dip) (defScope s__law_dip) ["well", "many"] false F__law_dip := by
  obtain ⟨f, fd, a, b⟩ := Z.d__law_dip
  exact ⟨f, fd, a, b, def_g a sc__law_dip (r__law_dip Z Y)⟩
theorem r__law_one (Z : Facts K mg) (Y : FactsT K mg base T) {f : Addr} : ∀ (cdv : Value) (A : Around) (outer : List PySem.Env) (s : Shared) (H : Hp) (E : XK), Room 1 (A.deeper (envOfC "_law_one" (defScope s__law_one) s.heap.objs.size f cdv)) → A.guards = some [] →
    RSs T false (cxOf (L2.CX P w) P w K mg base ["well", "some"] "_law_one" (defScope s__law_one) f cdv A outer s H E) (fun cls d _ H' => E cls d H') (defBody s__law_one) b__law_one := by
  intro cdv A outer s H E hr hgu
  unfold b__law_one
  exact (rss_one (rs_ret (re_ix (re_var (i := 1)) (re_call (g__law_dip Z Y) pn__law_dip (hr.mono (by decide)) hgu pass_cx (ra_cons (re_var (i := 0)) (ra_cons (re_callB call_len bLen_ok Z.n_len (by decide +kernel) (ra_cons (re_var (i := 1)) ra_nil)) ra_nil))) (fun _ _ => rfl))))
theorem g__law_one (Z : Facts K mg) (Y : FactsT K mg base T) : DefG P w K mg base T 2 "_law_one" (defArgs s__law_one) (defBody s__law_one) (defScope s__law_one) ["well", "some"] false F__law_one := by
  obtain ⟨f, fd, a, b⟩ := Z.d__law_one
  exact ⟨f, fd, a, b, def_g a sc__law_one (r__law_one Z Y)⟩
theorem r__law_mixed (Z : Facts K mg) (Y : FactsT K mg base T) {f : Addr} : ∀ (cdv : Value) (A : Around) (outer : List PySem.Env) (s : Shared) (H : Hp) (E : XK), Room 1 (A.deeper (envOfC "_law_mixed" (defScope s__law_mixed) s.heap.objs.size f cdv)) → A.guards = some [] →
    RSs T true (cxOf (L2.CX P w) P w K mg base ["well", "some", "left", "found", "k"] "_law_mixed" (defScope s__law_mixed) f cdv A outer s H E) (fun cls d _ H' => E cls d H') (defBody s__law_mixed) b__law_mixed := by
  intro cdv A outer s H E hr hgu
  unfold b__law_mixed
  exact (rss_cons (rs_par (i := 2) (j := 3) rfl sc__law_mixed.nd (ra_cons (RE.alloc (re_callTy call_list_of bList_ok Z.n_list (by decide +kernel) (ra_cons (re_var (i := 1)) ra_nil))) (ra_cons (RE.alloc (re_lst ra_nil)) ra_nil)))
    (rss_cons (rs_for own_cx rfl (ri_range1 (ra_cons (re_callB call_len bLen_ok Z.n_len (by decide +kernel) (ra_cons (re_var (i := 2)) ra_nil)) ra_nil) Z.n_range) (rg_name (i := 4) sc__law_mixed.nd) (rss_one (rs_expr (re_bm PySem.F.slot_list_append PySem.F.type_list_append mt_append mAppend_ok (re_var (i := 3)) (ra_cons (re_bm PySem.F.slot_list_pop PySem.F.type_list_pop mt_popAt mPopAt_ok (re_var (i := 2)) (ra_cons (re_call (g__law_dip Z Y) pn__law_dip (hr.mono (by decide)) hgu pass_cx (ra_cons (re_var (i := 0)) (ra_cons (re_callB call_len bLen_ok Z.n_len (by decide +kernel) (ra_cons (re_var (i := 2)) ra_nil)) ra_nil))) ra_nil)) ra_nil)))))
    (rss_one (rs_retL (re_var (i := 3))))))
theorem g__law_mixed (Z : Facts K mg) (Y : FactsT K mg base T) : DefG P w K mg base T 2 "_law_mixed" (defArgs s__law_mixed) (defBody s__law_mixed) (defScope s__law_mixed) ["well", "some"] true F__law_mixed := by
  obtain ⟨f, fd, a, b⟩ := Z.d__law_mixed
  exact ⟨f, fd, a, b, def_g a sc__law_mixed (r__law_mixed Z Y)⟩
theorem r__law_turns (Z : Facts K mg) (Y : FactsT K mg base T) {f : Addr} : ∀ (cdv : Value) (A : Around) (outer : List PySem.Env) (s : Shared) (H : Hp) (E : XK), Room 0 (A.deeper (envOfC "_law_turns" (defScope s__law_turns) s.heap.objs.size f cdv)) → A.guards = some [] →
    RSs T true (cxOf (L2.CX P w) P w K mg base ["script"] "_law_turns" (defScope s__law_turns) f cdv A outer s H E) (fun cls d _ H' => E cls d H') (defBody s__law_turns) b__law_turns := by
  intro cdv A outer s H E hr hgu
  unfold b__law_turns
  exact (rss_one (rs_ret (re_listR1 (re_callB (call_max2 rfl) bMax2_ok Z.n_max (by decide +kernel) (ra_cons re_int (ra_cons (re_callB (call_min2 rfl) bMin2_ok Z.n_min (by decide +kernel) (ra_cons (re_callB call_len bLen_ok Z.n_len (by decide +kernel) (ra_cons (re_var (i := 0)) ra_nil)) (ra_cons re_int ra_nil))) ra_nil))) rfl Z.n_list Z.n_range)))
theorem g__law_turns (Z : Facts K mg) (Y : FactsT K mg base T) : DefG P w K mg base T 1 "_law_turns" (defArgs s__law_turns) (defBody s__law_turns) (defScope s__law_turns) ["script"] true F__law_turns := by
  obtain ⟨f, fd, a, b⟩ := Z.d__law_turns
  exact ⟨f, fd, a, b, def_g a sc__law_turns (r__law_turns Z Y)⟩
theorem r__law_table (Z : Facts K mg) (Y : FactsT K mg base T) {f : Addr} : ∀ (cdv : Value) (A : Around) (outer : List PySem.Env) (s : Shared) (H : Hp) (E : XK), Room 2 (A.deeper (envOfC "_law_table" (defScope s__law_table) s.heap.objs.size f cdv)) → A.guards = some [] →
    RSs T false (cxOf (L2.CX P w) P w K mg base ["well", "size", "wide", "way", "top", "some", "k", "at"] "_law_table" (defScope s__law_table) f cdv A outer s H E) (fun cls d _ H' => E cls d H') (defBody s__law_table) b__law_table := by
  intro cdv A outer s H E hr hgu
  unfold b__law_table
  exact (rss_cons (rs_asg (re_tup (ra_cons (re_call (g__law_dip Z Y) pn__law_dip (hr.mono (by decide)) hgu pass_cx (ra_cons (re_var (i := 0)) (ra_cons re_int ra_nil))) (ra_cons (re_callB (call_min2 rfl) bMin2_ok Z.n_min (by decide +kernel) (ra_cons re_int (ra_cons (re_var (i := 2)) ra_nil))) ra_nil))) (rg_tup rfl (rgs_cons (rg_name (i := 3) sc__law_table.nd) (rgs_cons (rg_name (i := 2) sc__law_table.nd) rgs_nil))))
    (rss_cons (rs_set (i := 4) sc__law_table.nd (re_call (g__law_one Z Y) pn__law_one (hr.mono (by decide)) hgu pass_cx (ra_cons (re_var (i := 0)) (ra_cons (RE.frozen (re_lst (ra_cons (re_var (i := 2)) (ra_cons (re_var (i := 2)) (ra_cons (re_callB (call_min2 rfl) bMin2_ok Z.n_min (by decide +kernel) (ra_cons re_int (ra_cons (re_bin op_add4 oAddA_ok (re_var (i := 2)) re_int) ra_nil))) ra_nil))))) ra_nil))))
    (rss_cons (rs_setLh (i := 5) .loc rfl sc__law_table.nd (blkOk_by (N := ["well", "size", "wide", "way", "top", "some", "k", "at"]) (sc := (defScope s__law_table)) (own := [("k", 6)]) (by decide +kernel)) rfl (by decide) (ri_range1 (ra_cons (re_var (i := 1)) ra_nil) Z.n_range) (fun _ _ _ _ _ => (rg_name (i := 6) sc__law_table.nd)) (fun _ _ _ _ _ => rts_nil) (fun _ _ _ _ _ => (re_callB (call_max2 rfl) bMax2_ok Z.n_max (by decide +kernel) (ra_cons re_int (ra_cons (re_bin op_sub oSub_ok (re_var (i := 4)) (re_call (g__law_dip Z Y) pn__law_dip (hr.mono (by decide)) hgu pass_blk (ra_cons (re_var (i := 0)) (ra_cons (re_bin op_add4 oAddA_ok (re_var (i := 2)) re_int) ra_nil)))) ra_nil)))) (sw_true rfl rfl rfl (by decide +kernel)))
    (rss_cons (rs_if (rt_cmp (op_eqA (Room.units hr)) oEqA_ok (re_var (i := 3)) re_int (nomark _)) (rss_one (rs_ret (re_callTy call_tuple_of bTuple_ok Z.n_tuple (by decide +kernel) (ra_cons (re_var (i := 5)) ra_nil)))) rss_nil)
    (rss_cons (rs_if (rt_cmp (op_eqA (Room.units hr)) oEqA_ok (re_var (i := 3)) re_int (nomark _)) (rss_cons (rs_for own_cx rfl (ri_range2 (ra_cons re_int (ra_cons (re_var (i := 1)) ra_nil)) Z.n_range) (rg_name (i := 6) sc__law_table.nd) (rss_one (rs_asg (re_callB (call_min2 rfl) bMin2_ok Z.n_min (by decide +kernel) (ra_cons re_int (ra_cons (re_callB (call_max2 rfl) bMax2_ok Z.n_max (by decide +kernel) (ra_cons re_int (ra_cons (re_bin op_add4 oAddA_ok (re_ix (re_var (i := 5)) (re_bin op_sub oSub_ok (re_var (i := 6)) re_int) (fun _ _ => rfl)) (re_call (g__law_one Z Y) pn__law_one (hr.mono (by decide)) hgu pass_cx (ra_cons (re_var (i := 0)) (ra_cons (RE.frozen (re_lst (ra_cons re_int (ra_cons re_int (ra_cons re_int (ra_cons (re_neg re_int) ra_nil)))))) ra_nil)))) ra_nil))) ra_nil))) (rg_sub (re_var (i := 5)) (re_var (i := 6))))))
    (rss_one (rs_ret (re_callTy call_tuple_of bTuple_ok Z.n_tuple (by decide +kernel) (ra_cons (re_var (i := 5)) ra_nil))))) rss_nil)
    (rss_cons (rs_set (i := 5) sc__law_table.nd (RE.alloc (re_back (RE.frozen (re_callB cr_sortedA bSortedA_ok Z.n_sorted (by decide +kernel) (ra_cons (re_var (i := 5)) ra_nil))))))
    (rss_cons (rs_if (rt_cmp (op_eqA (Room.units hr)) oEqA_ok (re_var (i := 3)) re_int (nomark _)) (rss_one (rs_set (i := 5) sc__law_table.nd (RE.alloc (re_bin op_rep oRepL_ok (RE.frozen (re_lst (ra_cons (re_ix (re_var (i := 5)) re_int (fun _ _ => rfl)) ra_nil))) (re_var (i := 1)))))) rss_nil)
    (rss_cons (rs_if (rt_cmp op_inA oInA_ok (re_var (i := 3)) (re_tup (ra_cons re_int (ra_cons re_int ra_nil))) (by rfl)) (rss_cons (rs_set (i := 7) sc__law_table.nd (re_call (g__law_dip Z Y) pn__law_dip (hr.mono (by decide)) hgu pass_cx (ra_cons (re_var (i := 0)) (ra_cons (re_var (i := 1)) ra_nil))))
    (rss_one (rs_asg (re_callB (call_min2 rfl) bMin2_ok Z.n_min (by decide +kernel) (ra_cons re_int (ra_cons (re_callB (call_max2 rfl) bMax2_ok Z.n_max (by decide +kernel) (ra_cons re_int (ra_cons (re_bin op_add4 oAddA_ok (re_ix (re_var (i := 5)) (re_var (i := 7)) (fun _ _ => rfl)) (re_call (g__law_one Z Y) pn__law_one (hr.mono (by decide)) hgu pass_cx (ra_cons (re_var (i := 0)) (ra_cons (RE.frozen (re_lst (ra_cons re_int (ra_cons re_int (ra_cons (re_neg re_int) (ra_cons re_int ra_nil)))))) ra_nil)))) ra_nil))) ra_nil))) (rg_sub (re_var (i := 5)) (re_var (i := 7)))))) rss_nil)
    (rss_one (rs_ret (re_callTy call_tuple_of bTuple_ok Z.n_tuple (by decide +kernel) (ra_cons (re_var (i := 5)) ra_nil))))))))))))
theorem g__law_table (Z : Facts K mg) (Y : FactsT K mg base T) : DefG P w K mg base T 3 "_law_table" (defArgs s__law_table) (defBody s__law_table) (defScope s__law_table) ["well", "size", "wide"] false F__law_table := by
  obtain ⟨f, fd, a, b⟩ := Z.d__law_table
  exact ⟨f, fd, a, b, def_g a sc__law_table (r__law_table Z Y)⟩
theorem r__law_near (Z : Facts K mg) (Y : FactsT K mg base T) {f : Addr} : ∀ (cdv : Value) (A : Around) (outer : List PySem.Env) (s : Shared) (H : Hp) (E : XK), Room 2 (A.deeper (envOfC "_law_near" (defScope s__law_near) s.heap.objs.size f cdv)) → A.guards = some [] →
    RSs T false (cxOf (L2.CX P w) P w K mg base ["well", "numbers", "base"] "_law_near" (defScope s__law_near) f cdv A outer s H E) (fun cls d _ H' => E cls d H') (defBody s__law_near) b__law_near := by
  intro cdv A outer s H E hr hgu
  unfold b__law_near
  exact (rss_cons (rs_set (i := 2) sc__law_near.nd (re_call (g__law_one Z Y) pn__law_one (hr.mono (by decide)) hgu pass_cx (ra_cons (re_var (i := 0)) (ra_cons (re_var (i := 1)) ra_nil))))
    (rss_one (rs_ret (re_callB (call_min2 rfl) bMin2_ok Z.n_min (by decide +kernel) (ra_cons re_int (ra_cons (re_callB (call_max2 rfl) bMax2_ok Z.n_max (by decide +kernel) (ra_cons re_int (ra_cons (re_call (g__law_one Z Y) pn__law_one (hr.mono (by decide)) hgu pass_cx (ra_cons (re_var (i := 0)) (ra_cons (RE.frozen (re_lst (ra_cons (re_var (i := 2)) (ra_cons (re_var (i := 2)) (ra_cons (re_bin op_sub oSub_ok (re_var (i := 2)) re_int) (ra_cons (re_bin op_add4 oAddA_ok (re_var (i := 2)) re_int) (ra_cons re_int (ra_cons re_int (ra_cons (re_call (g__law_dip Z Y) pn__law_dip (hr.mono (by decide)) hgu pass_cx (ra_cons (re_var (i := 0)) (ra_cons re_int ra_nil))) ra_nil))))))))) ra_nil))) ra_nil))) ra_nil))))))
theorem g__law_near (Z : Facts K mg) (Y : FactsT K mg base T) : DefG P w K mg base T 3 "_law_near" (defArgs s__law_near) (defBody s__law_near) (defScope s__law_near) ["well", "numbers"] false F__law_near := by
  obtain ⟨f, fd, a, b⟩ := Z.d__law_near
  exact ⟨f, fd, a, b, def_g a sc__law_near (r__law_near Z Y)⟩
theorem r__law_ceilings (Z : Facts K mg) (Y : FactsT K mg base T) {f : Addr} : ∀ (cdv : Value) (A : Around) (outer : List PySem.Env) (s : Shared) (H : Hp) (E : XK), Room 3 (A.deeper (envOfC "_law_ceilings" (defScope s__law_ceilings) s.heap.objs.size f cdv)) → A.guards = some [] →
    RSs T false (cxOf (L2.CX P w) P w K mg base ["well", "numbers", "most", "k"] "_law_ceilings" (defScope s__law_ceilings) f cdv A outer s H E) (fun cls d _ H' => E cls d H') (defBody s__law_ceilings) b__law_ceilings := by
  intro cdv A outer s H E hr hgu
  unfold b__law_ceilings
  exact (rss_one (rs_ret (re_callTy call_tuple_of bTuple_ok Z.n_tuple (by decide +kernel) (ra_cons (RE.frozen (re_comp rfl sc__law_ceilings.nd (blkOk_by (N := ["well", "numbers", "most", "k"]) (sc := (defScope s__law_ceilings)) (own := [("k", 3)]) (by decide +kernel)) rfl (by decide) (ri_range1 (ra_cons (re_bin op_add4 oAddA_ok re_int (re_call (g__law_dip Z Y) pn__law_dip (hr.mono (by decide)) hgu pass_cx (ra_cons (re_var (i := 0)) (ra_cons (re_var (i := 2)) ra_nil)))) ra_nil) Z.n_range) (fun _ _ _ _ _ => (rg_name (i := 3) sc__law_ceilings.nd)) (fun _ _ _ _ _ => rts_nil) (fun _ _ _ _ _ => (re_call (g__law_near Z Y) pn__law_near (hr.mono (by decide)) hgu pass_blk (ra_cons (re_var (i := 0)) (ra_cons (re_var (i := 1)) ra_nil)))))) ra_nil))))
theorem g__law_ceilings (Z : Facts K mg) (Y : FactsT K mg base T) : DefG P w K mg base T 4 "_law_ceilings" (defArgs s__law_ceilings) (defBody s__law_ceilings) (defScope s__law_ceilings) ["well", "numbers", "most"] false F__law_ceilings := by
  obtain ⟨f, fd, a, b⟩ := Z.d__law_ceilings
  exact ⟨f, fd, a, b, def_g a sc__law_ceilings (r__law_ceilings Z Y)⟩
theorem r__law_shared_by (Z : Facts K mg) (Y : FactsT K mg base T) {f : Addr} : ∀ (cdv : Value) (A : Around) (outer : List PySem.Env) (s : Shared) (H : Hp) (E : XK), Room 0 (A.deeper (envOfC "_law_shared_by" (defScope s__law_shared_by) s.heap.objs.size f cdv)) → A.guards = some [] →
    RSs T false (cxOf (L2.CX P w) P w K mg base ["tables", "ceilings", "classes", "left", "turn", "stay", "k"] "_law_shared_by" (defScope s__law_shared_by) f cdv A outer s H E) (fun cls d _ H' => E cls d H') (defBody s__law_shared_by) b__law_shared_by := by
  intro cdv A outer s H E hr hgu
  unfold b__law_shared_by
  exact (rss_cons (rs_set (i := 3) sc__law_shared_by.nd (RE.frozen (re_listR1 (re_callB call_len bLen_ok Z.n_len (by decide +kernel) (ra_cons (re_var (i := 1)) ra_nil)) rfl Z.n_list Z.n_range)))
    (rss_cons (rs_for own_cx rfl (ri_range1 (ra_cons (re_bin op_add4 oAddA_ok (re_callB call_len bLen_ok Z.n_len (by decide +kernel) (ra_cons (re_var (i := 1)) ra_nil)) re_int) ra_nil) Z.n_range) (rg_name (i := 4) sc__law_shared_by.nd) (rss_cons (rs_setLh (i := 5) .val rfl sc__law_shared_by.nd (blkOk_by (N := ["tables", "ceilings", "classes", "left", "turn", "stay", "k"]) (sc := (defScope s__law_shared_by)) (own := [("k", 6)]) (by decide +kernel)) rfl (by decide) (ri_seqA (re_var (i := 3))) (fun _ _ _ _ _ => (rg_name (i := 6) sc__law_shared_by.nd)) (fun _ _ _ _ _ => (rts_one (rt_cmp op_ge oGe_ok (re_ix (re_var (i := 1)) (re_var (i := 6)) (fun _ _ => rfl)) (re_ix (re_ix (re_var (i := 0)) (re_ix (re_var (i := 2)) (re_var (i := 6)) (fun _ _ => rfl)) (fun _ _ => rfl)) (re_bin op_sub oSub_ok (re_callB call_len bLen_ok Z.n_len (by decide +kernel) (ra_cons (re_var (i := 3)) ra_nil)) re_int) (fun _ _ => rfl)) (nomark _)))) (fun _ _ _ _ _ => (re_var (i := 6))) (sw_true rfl rfl rfl (by decide +kernel)))
    (rss_cons (rs_if (rt_cmp (op_eqA (Room.units hr)) oEqA_ok (re_callB call_len bLen_ok Z.n_len (by decide +kernel) (ra_cons (re_var (i := 5)) ra_nil)) (re_callB call_len bLen_ok Z.n_len (by decide +kernel) (ra_cons (re_var (i := 3)) ra_nil)) (nomark _)) (rss_one (rs_ret (re_tup (ra_cons (re_callTy call_tuple_of bTuple_ok Z.n_tuple (by decide +kernel) (ra_cons (re_var (i := 3)) ra_nil)) (ra_cons (re_callTy call_tuple_of bTuple_ok Z.n_tuple (by decide +kernel) (ra_cons (RE.frozen (re_comp rfl sc__law_shared_by.nd (blkOk_by (N := ["tables", "ceilings", "classes", "left", "turn", "stay", "k"]) (sc := (defScope s__law_shared_by)) (own := [("k", 6)]) (by decide +kernel)) rfl (by decide) (ri_seqA (re_var (i := 3))) (fun _ _ _ _ _ => (rg_name (i := 6) sc__law_shared_by.nd)) (fun _ _ _ _ _ => rts_nil) (fun _ _ _ _ _ => (re_ix (re_ix (re_var (i := 0)) (re_ix (re_var (i := 2)) (re_var (i := 6)) (fun _ _ => rfl)) (fun _ _ => rfl)) (re_bin op_sub oSub_ok (re_callB call_len bLen_ok Z.n_len (by decide +kernel) (ra_cons (re_var (i := 3)) ra_nil)) re_int) (fun _ _ => rfl))))) ra_nil)) ra_nil))))) rss_nil)
    (rss_one (rs_set (i := 3) sc__law_shared_by.nd (re_var (i := 5)))))))
    (rss_one (rs_ret (re_tup (ra_cons (re_tup ra_nil) (ra_cons (re_tup ra_nil) ra_nil)))))))
theorem g__law_shared_by (Z : Facts K mg) (Y : FactsT K mg base T) : DefG P w K mg base T 1 "_law_shared_by" (defArgs s__law_shared_by) (defBody s__law_shared_by) (defScope s__law_shared_by) ["tables", "ceilings", "classes"] false F__law_shared_by := by
  obtain ⟨f, fd, a, b⟩ := Z.d__law_shared_by
  exact ⟨f, fd, a, b, def_g a sc__law_shared_by (r__law_shared_by Z Y)⟩
theorem r__law_turned_right (Z : Facts K mg) (Y : FactsT K mg base T) {f : Addr} : ∀ (cdv : Value) (A : Around) (outer : List PySem.Env) (s : Shared) (H : Hp) (E : XK), Room 8 (A.deeper (envOfC "_law_turned_right" (defScope s__law_turned_right) s.heap.objs.size f cdv)) → A.guards = some [] →
    RSs T false (cxOf (L2.CX P w) P w K mg base ["well", "tables", "ceilings", "classes", "told", "order", "prices", "left", "k", "due", "other"] "_law_turned_right" (defScope s__law_turned_right) f cdv A outer s H E) (fun cls d _ H' => E cls d H') (defBody s__law_turned_right) b__law_turned_right := by
  intro cdv A outer s H E hr hgu
  unfold b__law_turned_right
  exact (rss_cons (rs_set (i := 5) sc__law_turned_right.nd (RE.frozen (re_call (g__law_mixed Z Y) pn__law_mixed (hr.mono (by decide)) hgu pass_cx (ra_cons (re_var (i := 0)) (ra_cons (RE.frozen (re_listR1 (re_callB call_len bLen_ok Z.n_len (by decide +kernel) (ra_cons (re_var (i := 2)) ra_nil)) rfl Z.n_list Z.n_range)) ra_nil)))))
    (rss_cons (rs_set (i := 6) sc__law_turned_right.nd (re_dz (ra_cons (re_ix (re_var (i := 4)) re_int (fun _ _ => rfl)) (ra_cons (re_ix (re_var (i := 4)) re_int (fun _ _ => rfl)) ra_nil)) rfl Z.n_dict Z.n_zip))
    (rss_cons (rs_setLh (i := 7) .val rfl sc__law_turned_right.nd (blkOk_by (N := ["well", "tables", "ceilings", "classes", "told", "order", "prices", "left", "k", "due", "other"]) (sc := (defScope s__law_turned_right)) (own := [("k", 8)]) (by decide +kernel)) rfl (by decide) (ri_range1 (ra_cons (re_callB call_len bLen_ok Z.n_len (by decide +kernel) (ra_cons (re_var (i := 5)) ra_nil)) ra_nil) Z.n_range) (fun _ _ _ _ _ => (rg_name (i := 8) sc__law_turned_right.nd)) (fun _ _ _ _ _ => (rts_one (rt_cmp op_inA oInA_ok (re_ix (re_var (i := 5)) (re_var (i := 8)) (fun _ _ => rfl)) (re_ix (re_var (i := 4)) re_int (fun _ _ => rfl)) (by rfl)))) (fun _ _ _ _ _ => (re_var (i := 8))) (sw_true rfl rfl rfl (by decide +kernel)))
    (rss_cons (rs_set (i := 9) sc__law_turned_right.nd (re_tup (ra_cons (re_callTy call_tuple_of bTuple_ok Z.n_tuple (by decide +kernel) (ra_cons (re_var (i := 7)) ra_nil)) (ra_cons (re_callTy call_tuple_of bTuple_ok Z.n_tuple (by decide +kernel) (ra_cons (RE.frozen (re_comp rfl sc__law_turned_right.nd (blkOk_by (N := ["well", "tables", "ceilings", "classes", "told", "order", "prices", "left", "k", "due", "other"]) (sc := (defScope s__law_turned_right)) (own := [("k", 8)]) (by decide +kernel)) rfl (by decide) (ri_seqA (re_var (i := 7))) (fun _ _ _ _ _ => (rg_name (i := 8) sc__law_turned_right.nd)) (fun _ _ _ _ _ => rts_nil) (fun _ _ _ _ _ => (re_dg (Nat.lt_of_le_of_lt (Nat.add_le_add_left (by decide) _) (Room.units hr)) (re_var (i := 6)) (re_ix (re_var (i := 5)) (re_var (i := 8)) (fun _ _ => rfl)) (fun _ _ => rfl))))) ra_nil)) ra_nil))))
    (rss_cons (rs_set (i := 10) sc__law_turned_right.nd (re_call (g_share_by Z Y) pn_share_by (hr.mono (by decide)) hgu pass_cx (ra_cons (re_var (i := 1)) (ra_cons (re_callTy call_tuple_of bTuple_ok Z.n_tuple (by decide +kernel) (ra_cons (RE.frozen (re_comp rfl sc__law_turned_right.nd (blkOk_by (N := ["well", "tables", "ceilings", "classes", "told", "order", "prices", "left", "k", "due", "other"]) (sc := (defScope s__law_turned_right)) (own := [("k", 8)]) (by decide +kernel)) rfl (by decide) (ri_seqA (re_var (i := 5))) (fun _ _ _ _ _ => (rg_name (i := 8) sc__law_turned_right.nd)) (fun _ _ _ _ _ => rts_nil) (fun _ _ _ _ _ => (re_ix (re_var (i := 2)) (re_var (i := 8)) (fun _ _ => rfl))))) ra_nil)) (ra_cons (re_callTy call_tuple_of bTuple_ok Z.n_tuple (by decide +kernel) (ra_cons (RE.frozen (re_comp rfl sc__law_turned_right.nd (blkOk_by (N := ["well", "tables", "ceilings", "classes", "told", "order", "prices", "left", "k", "due", "other"]) (sc := (defScope s__law_turned_right)) (own := [("k", 8)]) (by decide +kernel)) rfl (by decide) (ri_seqA (re_var (i := 5))) (fun _ _ _ _ _ => (rg_name (i := 8) sc__law_turned_right.nd)) (fun _ _ _ _ _ => rts_nil) (fun _ _ _ _ _ => (re_ix (re_var (i := 3)) (re_var (i := 8)) (fun _ _ => rfl))))) ra_nil)) ra_nil)))))
    (rss_one (rs_ret (re_cmp (op_eqA (Room.units hr)) oEqA_ok (re_callB (call_repr hgu (Room.units hr)) bRepr_ok Z.n_repr (by decide +kernel) (ra_cons (re_var (i := 10)) ra_nil)) (re_callB (call_repr hgu (Room.units hr)) bRepr_ok Z.n_repr (by decide +kernel) (ra_cons (re_var (i := 9)) ra_nil)) (nomark _)))))))))
theorem g__law_turned_right (Z : Facts K mg) (Y : FactsT K mg base T) : DefG P w K mg base T 9 "_law_turned_right" (defArgs s__law_turned_right) (defBody s__law_turned_right) (defScope s__law_turned_right) ["well", "tables", "ceilings", "classes", "told"] false F__law_turned_right := by
  obtain ⟨f, fd, a, b⟩ := Z.d__law_turned_right
  exact ⟨f, fd, a, b, def_g a sc__law_turned_right (r__law_turned_right Z Y)⟩
theorem r__law_right (Z : Facts K mg) (Y : FactsT K mg base T) {f : Addr} : ∀ (cdv : Value) (A : Around) (outer : List PySem.Env) (s : Shared) (H : Hp) (E : XK), Room 9 (A.deeper (envOfC "_law_right" (defScope s__law_right) s.heap.objs.size f cdv)) → A.guards = some [] →
    RSs T false (cxOf (L2.CX P w) P w K mg base ["well", "turn", "size", "wide", "tables", "k", "ceilings", "classes", "each", "due", "told", "left", "price", "same"] "_law_right" (defScope s__law_right) f cdv A outer s H E) (fun cls d _ H' => E cls d H') (defBody s__law_right) b__law_right := by
  intro cdv A outer s H E hr hgu
  unfold b__law_right
  exact (rss_cons (rs_for own_cx rfl (ri_range1 (ra_cons re_int ra_nil) Z.n_range) (rg_name (i := 1) sc__law_right.nd) (rss_cons (rs_asg (re_tup (ra_cons (re_call (g__law_one Z Y) pn__law_one (hr.mono (by decide)) hgu pass_cx (ra_cons (re_var (i := 0)) (ra_cons (RE.frozen (re_lst (ra_cons re_int (ra_cons re_int (ra_cons re_int (ra_cons re_int (ra_cons re_int ra_nil))))))) ra_nil))) (ra_cons (re_call (g__law_one Z Y) pn__law_one (hr.mono (by decide)) hgu pass_cx (ra_cons (re_var (i := 0)) (ra_cons (RE.frozen (re_lst (ra_cons re_int (ra_cons re_int (ra_cons re_int (ra_cons re_int ra_nil)))))) ra_nil))) ra_nil))) (rg_tup rfl (rgs_cons (rg_name (i := 2) sc__law_right.nd) (rgs_cons (rg_name (i := 3) sc__law_right.nd) rgs_nil))))
    (rss_cons (rs_set (i := 4) sc__law_right.nd (re_callTy call_tuple_of bTuple_ok Z.n_tuple (by decide +kernel) (ra_cons (RE.frozen (re_comp rfl sc__law_right.nd (blkOk_by (N := ["well", "turn", "size", "wide", "tables", "k", "ceilings", "classes", "each", "due", "told", "left", "price", "same"]) (sc := (defScope s__law_right)) (own := [("k", 5)]) (by decide +kernel)) rfl (by decide) (ri_range1 (ra_cons (re_bin op_add4 oAddA_ok re_int (re_call (g__law_dip Z Y) pn__law_dip (hr.mono (by decide)) hgu pass_cx (ra_cons (re_var (i := 0)) (ra_cons re_int ra_nil)))) ra_nil) Z.n_range) (fun _ _ _ _ _ => (rg_name (i := 5) sc__law_right.nd)) (fun _ _ _ _ _ => rts_nil) (fun _ _ _ _ _ => (re_call (g__law_table Z Y) pn__law_table (hr.mono (by decide)) hgu pass_blk (ra_cons (re_var (i := 0)) (ra_cons (re_var (i := 2)) (ra_cons (re_var (i := 3)) ra_nil))))))) ra_nil)))
    (rss_cons (rs_set (i := 6) sc__law_right.nd (re_call (g__law_ceilings Z Y) pn__law_ceilings (hr.mono (by decide)) hgu pass_cx (ra_cons (re_var (i := 0)) (ra_cons (re_bin op_add4 oAddA_ok (re_ix (re_var (i := 4)) re_int (fun _ _ => rfl)) (re_ix (re_var (i := 4)) (re_neg re_int) (fun _ _ => rfl))) (ra_cons (re_var (i := 2)) ra_nil)))))
    (rss_cons (rs_set (i := 7) sc__law_right.nd (re_callTy call_tuple_of bTuple_ok Z.n_tuple (by decide +kernel) (ra_cons (RE.frozen (re_comp rfl sc__law_right.nd (blkOk_by (N := ["well", "turn", "size", "wide", "tables", "k", "ceilings", "classes", "each", "due", "told", "left", "price", "same"]) (sc := (defScope s__law_right)) (own := [("each", 8)]) (by decide +kernel)) rfl (by decide) (ri_seqA (re_var (i := 6))) (fun _ _ _ _ _ => (rg_name (i := 8) sc__law_right.nd)) (fun _ _ _ _ _ => rts_nil) (fun _ _ _ _ _ => (re_call (g__law_dip Z Y) pn__law_dip (hr.mono (by decide)) hgu pass_blk (ra_cons (re_var (i := 0)) (ra_cons (re_callB call_len bLen_ok Z.n_len (by decide +kernel) (ra_cons (re_var (i := 4)) ra_nil)) ra_nil)))))) ra_nil)))
    (rss_cons (rs_asg (re_tup (ra_cons (re_call (g__law_shared_by Z Y) pn__law_shared_by (hr.mono (by decide)) hgu pass_cx (ra_cons (re_var (i := 4)) (ra_cons (re_var (i := 6)) (ra_cons (re_var (i := 7)) ra_nil)))) (ra_cons (re_call (g_share_by Z Y) pn_share_by (hr.mono (by decide)) hgu pass_cx (ra_cons (re_var (i := 4)) (ra_cons (re_var (i := 6)) (ra_cons (re_var (i := 7)) ra_nil)))) ra_nil))) (rg_tup rfl (rgs_cons (rg_name (i := 9) sc__law_right.nd) (rgs_cons (rg_name (i := 10) sc__law_right.nd) rgs_nil))))
    (rss_cons (rs_if (rt_cmp (op_neA (Room.units hr)) oNeA_ok (re_callB (call_repr hgu (Room.units hr)) bRepr_ok Z.n_repr (by decide +kernel) (ra_cons (RE.frozen (re_lst (ra_cons (re_var (i := 10)) (ra_cons (re_callK0 (g_share_by Z Y) kn0_b kn0_r kn0_v kn0_l (hr.mono (by decide)) hgu pass_cx (rk_cons (re_var (i := 7)) (rk_cons (re_var (i := 6)) (rk_cons (re_var (i := 4)) rk_nil)))) ra_nil)))) ra_nil)) (re_callB (call_repr hgu (Room.units hr)) bRepr_ok Z.n_repr (by decide +kernel) (ra_cons (RE.frozen (re_lst (ra_cons (re_var (i := 9)) (ra_cons (re_var (i := 9)) ra_nil)))) ra_nil)) (nomark _)) (rss_one (rs_ret re_bl)) rss_nil)
    (rss_cons (rs_if (rt_not (rt_val (re_call (g__law_turned_right Z Y) pn__law_turned_right (hr.mono (by decide)) hgu pass_cx (ra_cons (re_var (i := 0)) (ra_cons (re_var (i := 4)) (ra_cons (re_var (i := 6)) (ra_cons (re_var (i := 7)) (ra_cons (re_var (i := 10)) ra_nil)))))))) (rss_one (rs_ret re_bl)) rss_nil)
    (rss_cons (rs_if (rt_cmp (op_neA (Room.units hr)) oNeA_ok (RE.frozen (re_comp rfl sc__law_right.nd (blkOk_by (N := ["well", "turn", "size", "wide", "tables", "k", "ceilings", "classes", "each", "due", "told", "left", "price", "same"]) (sc := (defScope s__law_right)) (own := [("k", 5)]) (by decide +kernel)) rfl (by decide) (ri_range1 (ra_cons (re_callB call_len bLen_ok Z.n_len (by decide +kernel) (ra_cons (re_ix (re_var (i := 10)) re_int (fun _ _ => rfl)) ra_nil)) ra_nil) Z.n_range) (fun _ _ _ _ _ => (rg_name (i := 5) sc__law_right.nd)) (fun _ _ _ _ _ => (rts_one (rt_cmp (op_ltA (Room.units0 hr)) oLtA_ok (re_ix (re_var (i := 6)) (re_ix (re_ix (re_var (i := 10)) re_int (fun _ _ => rfl)) (re_var (i := 5)) (fun _ _ => rfl)) (fun _ _ => rfl)) (re_ix (re_ix (re_var (i := 10)) re_int (fun _ _ => rfl)) (re_var (i := 5)) (fun _ _ => rfl)) (nomark _)))) (fun _ _ _ _ _ => (re_var (i := 5))))) (RE.frozen (re_lst ra_nil)) (nomark _)) (rss_one (rs_ret re_bl)) rss_nil)
    (rss_cons (rs_asg (re_call (g_share Z Y) pn_share (hr.mono (by decide)) hgu pass_cx (ra_cons (re_ix (re_var (i := 4)) re_int (fun _ _ => rfl)) (ra_cons (re_var (i := 6)) ra_nil))) (rg_tup rfl (rgs_cons (rg_name (i := 11) sc__law_right.nd) (rgs_cons (rg_name (i := 12) sc__law_right.nd) rgs_nil))))
    (rss_cons (rs_set (i := 13) sc__law_right.nd (re_call (g_share_by Z Y) pn_share_by (hr.mono (by decide)) hgu pass_cx (ra_cons (re_bin op_mulA oMulA_ok (re_sliceA (re_var (i := 4)) ro_none (ro_some re_int)) (re_callB call_len bLen_ok Z.n_len (by decide +kernel) (ra_cons (re_var (i := 4)) ra_nil))) (ra_cons (re_var (i := 6)) (ra_cons (re_var (i := 7)) ra_nil)))))
    (rss_one (rs_if (rt_cmp (op_neA (Room.units hr)) oNeA_ok (re_callB (call_repr hgu (Room.units hr)) bRepr_ok Z.n_repr (by decide +kernel) (ra_cons (re_var (i := 13)) ra_nil)) (re_callB (call_repr hgu (Room.units hr)) bRepr_ok Z.n_repr (by decide +kernel) (ra_cons (re_tup (ra_cons (re_var (i := 11)) (ra_cons (re_bin op_mulA oMulA_ok (re_tup (ra_cons (re_var (i := 12)) ra_nil)) (re_callB call_len bLen_ok Z.n_len (by decide +kernel) (ra_cons (re_var (i := 11)) ra_nil))) ra_nil))) ra_nil)) (nomark _)) (rss_one (rs_ret re_bl)) rss_nil)))))))))))))
    (rss_one (rs_ret re_bl)))
theorem g__law_right (Z : Facts K mg) (Y : FactsT K mg base T) : DefG P w K mg base T 10 "_law_right" (defArgs s__law_right) (defBody s__law_right) (defScope s__law_right) ["well"] false F__law_right := by
  obtain ⟨f, fd, a, b⟩ := Z.d__law_right
  exact ⟨f, fd, a, b, def_g a sc__law_right (r__law_right Z Y)⟩
theorem r_law (Z : Facts K mg) (Y : FactsT K mg base T) {f : Addr} : ∀ (cdv : Value) (A : Around) (outer : List PySem.Env) (s : Shared) (H : Hp) (E : XK), Room 10 (A.deeper (envOfC "law" (defScope s_law) s.heap.objs.size f cdv)) → A.guards = some [] →
    RSs T false (cxOf (L2.CX P w) P w K mg base ["script", "k"] "law" (defScope s_law) f cdv A outer s H E) (fun cls d _ H' => E cls d H') (defBody s_law) b_law := by
  intro cdv A outer s H E hr hgu
  unfold b_law
  exact (rss_one (rs_ret (re_callB (cr_all rfl) bAll_ok Z.n_all (by decide +kernel) (ra_cons (RE.frozen (re_comp rfl sc_law.nd (blkOk_by (N := ["script", "k"]) (sc := (defScope s_law)) (own := [("k", 1)]) (by decide +kernel)) rfl (by decide) (ri_seqA (RE.frozen (re_call (g__law_turns Z Y) pn__law_turns (hr.mono (by decide)) hgu pass_cx (ra_cons (re_var (i := 0)) ra_nil)))) (fun _ _ _ _ _ => (rg_name (i := 1) sc_law.nd)) (fun _ _ _ _ _ => rts_nil) (fun _ _ _ _ _ => (RE.scope (re_call (g__law_right Z Y) pn__law_right (hr.mono (by decide)) hgu pass_blk (ra_cons (RE.alloc (re_call (g__law_well Z Y) pn__law_well (hr.mono (by decide)) hgu pass_blk (ra_cons (re_var (i := 0)) (ra_cons (re_var (i := 1)) ra_nil)))) ra_nil)))))) ra_nil))))
theorem g_law (Z : Facts K mg) (Y : FactsT K mg base T) : DefG P w K mg base T 11 "law" (defArgs s_law) (defBody s_law) (defScope s_law) ["script"] false F_law := by
  obtain ⟨f, fd, a, b⟩ := Z.d_law
  exact ⟨f, fd, a, b, def_g a sc_law (r_law Z Y)⟩
end
end LW
set_option Elab.async false
set_option linter.all false
set_option maxRecDepth 100000
set_option maxHeartbeats 0
namespace LW
open PySem L2 Evl PySem.Spec PyProof.Rows PF
def df_is_whole : He.DefD := ⟨("is_whole", none), "is_whole", "is_whole", defArgs s_is_whole, defBody s_is_whole, defScope s_is_whole, [], []⟩
def df_is_number : He.DefD := ⟨("is_number", none), "is_number", "is_number", defArgs s_is_number, defBody s_is_number, defScope s_is_number, [], []⟩
def df_is_tuple_of : He.DefD := ⟨("is_tuple_of", none), "is_tuple_of", "is_tuple_of", defArgs s_is_tuple_of, defBody s_is_tuple_of, defScope s_is_tuple_of, [], []⟩
def df_wrong_at : He.DefD := ⟨("wrong_at", none), "wrong_at", "wrong_at", defArgs s_wrong_at, defBody s_wrong_at, defScope s_wrong_at, [], []⟩
def df_wrong_from_one : He.DefD := ⟨("wrong_from_one", none), "wrong_from_one", "wrong_from_one", defArgs s_wrong_from_one, defBody s_wrong_from_one, defScope s_wrong_from_one, [], []⟩
def df_left_of : He.DefD := ⟨("left_of", none), "left_of", "left_of", defArgs s_left_of, defBody s_left_of, defScope s_left_of, [], []⟩
def df_staying : He.DefD := ⟨("staying", none), "staying", "staying", defArgs s_staying, defBody s_staying, defScope s_staying, [], []⟩
def df_is_told : He.DefD := ⟨("is_told", none), "is_told", "is_told", defArgs s_is_told, defBody s_is_told, defScope s_is_told, [], []⟩
def df_is_table : He.DefD := ⟨("is_table", none), "is_table", "is_table", defArgs s_is_table, defBody s_is_table, defScope s_is_table, [], []⟩
def df_check_table : He.DefD := ⟨("check_table", none), "check_table", "check_table", defArgs s_check_table, defBody s_check_table, defScope s_check_table, [], []⟩
def df_check_ceilings : He.DefD := ⟨("check_ceilings", none), "check_ceilings", "check_ceilings", defArgs s_check_ceilings, defBody s_check_ceilings, defScope s_check_ceilings, [], []⟩
def df_check_shared : He.DefD := ⟨("check_shared", none), "check_shared", "check_shared", defArgs s_check_shared, defBody s_check_shared, defScope s_check_shared, [], []⟩
def df_price_of : He.DefD := ⟨("price_of", none), "price_of", "price_of", defArgs s_price_of, defBody s_price_of, defScope s_price_of, [], []⟩
def df_share : He.DefD := ⟨("share", none), "share", "share", defArgs s_share, defBody s_share, defScope s_share, [], []⟩
def df_check_tables : He.DefD := ⟨("check_tables", none), "check_tables", "check_tables", defArgs s_check_tables, defBody s_check_tables, defScope s_check_tables, [], []⟩
def df_is_as_long : He.DefD := ⟨("is_as_long", none), "is_as_long", "is_as_long", defArgs s_is_as_long, defBody s_is_as_long, defScope s_is_as_long, [], []⟩
def df_check_classes : He.DefD := ⟨("check_classes", none), "check_classes", "check_classes", defArgs s_check_classes, defBody s_check_classes, defScope s_check_classes, [], []⟩
def df_share_by : He.DefD := ⟨("share_by", none), "share_by", "share_by", defArgs s_share_by, defBody s_share_by, defScope s_share_by, [], []⟩
def df__law_well : He.DefD := ⟨("_law_well", none), "_law_well", "_law_well", defArgs s__law_well, defBody s__law_well, defScope s__law_well, [], []⟩
def df__law_dip : He.DefD := ⟨("_law_dip", none), "_law_dip", "_law_dip", defArgs s__law_dip, defBody s__law_dip, defScope s__law_dip, [], []⟩
def df__law_one : He.DefD := ⟨("_law_one", none), "_law_one", "_law_one", defArgs s__law_one, defBody s__law_one, defScope s__law_one, [], []⟩
def df__law_mixed : He.DefD := ⟨("_law_mixed", none), "_law_mixed", "_law_mixed", defArgs s__law_mixed, defBody s__law_mixed, defScope s__law_mixed, [], []⟩
def df__law_turns : He.DefD := ⟨("_law_turns", none), "_law_turns", "_law_turns", defArgs s__law_turns, defBody s__law_turns, defScope s__law_turns, [], []⟩
def df__law_table : He.DefD := ⟨("_law_table", none), "_law_table", "_law_table", defArgs s__law_table, defBody s__law_table, defScope s__law_table, [], []⟩
def df__law_near : He.DefD := ⟨("_law_near", none), "_law_near", "_law_near", defArgs s__law_near, defBody s__law_near, defScope s__law_near, [], []⟩
def df__law_ceilings : He.DefD := ⟨("_law_ceilings", none), "_law_ceilings", "_law_ceilings", defArgs s__law_ceilings, defBody s__law_ceilings, defScope s__law_ceilings, [], []⟩
def df__law_shared_by : He.DefD := ⟨("_law_shared_by", none), "_law_shared_by", "_law_shared_by", defArgs s__law_shared_by, defBody s__law_shared_by, defScope s__law_shared_by, [], []⟩
def df__law_turned_right : He.DefD := ⟨("_law_turned_right", none), "_law_turned_right", "_law_turned_right", defArgs s__law_turned_right, defBody s__law_turned_right, defScope s__law_turned_right, [], []⟩
def df__law_right : He.DefD := ⟨("_law_right", none), "_law_right", "_law_right", defArgs s__law_right, defBody s__law_right, defScope s__law_right, [], []⟩
def df_law : He.DefD := ⟨("law", none), "law", "law", defArgs s_law, defBody s_law, defScope s_law, [], []⟩
def fns : List He.DefD := ([df_is_whole, df_is_number, df_is_tuple_of, df_wrong_at, df_wrong_from_one, df_left_of, df_staying, df_is_told, df_is_table, df_check_table, df_check_ceilings, df_check_shared, df_price_of, df_share, df_check_tables, df_is_as_long, df_check_classes, df_share_by, df__law_well, df__law_dip, df__law_one, df__law_mixed, df__law_turns, df__law_table, df__law_near, df__law_ceilings, df__law_shared_by, df__law_turned_right, df__law_right, df_law] : List He.DefD)
def fas : List He.Fa := ([.glo "is_whole", .glo "is_number", .glo "is_tuple_of", .glo "wrong_at", .glo "wrong_from_one", .glo "left_of", .glo "staying", .glo "is_told", .glo "is_table", .glo "check_table", .glo "check_ceilings", .glo "check_shared", .glo "price_of", .glo "share", .glo "check_tables", .glo "is_as_long", .glo "check_classes", .glo "share_by", .glo "_law_well", .glo "_law_dip", .glo "_law_one", .glo "_law_mixed", .glo "_law_turns", .glo "_law_table", .glo "_law_near", .glo "_law_ceilings", .glo "_law_shared_by", .glo "_law_turned_right", .glo "_law_right", .glo "law"] : List He.Fa) ++ ([.free "abs", .free "all", .free "bool", .free "dict", .free "divmod", .free "enumerate", .free "int", .free "isinstance", .free "len", .free "list", .free "max", .free "min", .free "range", .free "repr", .free "sorted", .free "tuple", .free "zip", .int "MOST_CLASSES" 4, .int "MOST_PEOPLE" 24, .int "MOST_PRICE" 998, .int "MOST_WORTH" 999] : List He.Fa)
def loose : List Str := (["PledgeError", "InvalidTable", "InvalidTables", "InvalidClasses", "InvalidCeilings", "is_whole", "is_number", "is_tuple_of", "wrong_at", "wrong_from_one", "MOST_WORTH", "left_of", "staying", "is_told", "MOST_PEOPLE", "MOST_PRICE", "is_table", "check_table", "check_ceilings", "check_shared", "price_of", "share", "MOST_CLASSES", "check_tables", "is_as_long", "check_classes", "share_by", "_law_well", "_law_dip", "_law_one"] : List Str) ++ (["_law_mixed", "_law_turns", "_law_table", "_law_near", "_law_ceilings", "_law_shared_by", "_law_turned_right", "_law_right"] : List Str)
abbrev R : PySem.W.OpenRow := PySem.W.OpenLaw.row PySem.Challenge.rw_pledgehall_k54_whole_shares_by_classes
def tf : List He.Defn := [("check_ceilings", none), ("check_tables", none)]
abbrev hk : PySem.W.Hook := He.hookX 4 fas fns [] tf (apartL tf)
def obs (s : PySem.W.SharedT) : He.AlX := He.obsX 4 fas fns [] tf (apartL tf) (HandSHeadRun.getT s)
theorem obs_eq (s : PySem.W.SharedT) : obs s = hk.obs s.abs := He.obsX_eq (HandSHeadRun.getT_eq s)
theorem run (w : World) : HandSHeadRun.RunEq R (PySem.W.view R.prog [44]) hk obs 100000 loose w := by
  intro os
  kernel_rfl
theorem facts_of {K : PySem.W.Frag} {h : Heap} {mg : Str → Option Value} (X : K.In h) (G : h.Ns mainGlobals mg) (c : He.SaysD fas fns K) : Facts K mg := by
  refine { n_abs := ?n_abs, n_all := ?n_all, n_bool := ?n_bool, n_dict := ?n_dict, n_divmod := ?n_divmod, n_enumerate := ?n_enumerate, n_int := ?n_int, n_isinstance := ?n_isinstance, n_len := ?n_len, n_list := ?n_list, n_max := ?n_max, n_min := ?n_min, n_range := ?n_range, n_repr := ?n_repr, n_sorted := ?n_sorted, n_tuple := ?n_tuple, n_zip := ?n_zip, k_MOST_CLASSES := ?k_MOST_CLASSES, k_MOST_PEOPLE := ?k_MOST_PEOPLE, k_MOST_PRICE := ?k_MOST_PRICE, k_MOST_WORTH := ?k_MOST_WORTH, d_is_whole := ?d_is_whole, d_is_number := ?d_is_number, d_is_tuple_of := ?d_is_tuple_of, d_wrong_at := ?d_wrong_at, d_wrong_from_one := ?d_wrong_from_one, d_left_of := ?d_left_of, d_staying := ?d_staying, d_is_told := ?d_is_told, d_is_table := ?d_is_table, d_check_table := ?d_check_table, d_check_ceilings := ?d_check_ceilings, d_check_shared := ?d_check_shared, d_price_of := ?d_price_of, d_share := ?d_share, d_check_tables := ?d_check_tables, d_is_as_long := ?d_is_as_long, d_check_classes := ?d_check_classes, d_share_by := ?d_share_by, d__law_well := ?d__law_well, d__law_dip := ?d__law_dip, d__law_one := ?d__law_one, d__law_mixed := ?d__law_mixed, d__law_turns := ?d__law_turns, d__law_table := ?d__law_table, d__law_near := ?d__law_near, d__law_ceilings := ?d__law_ceilings, d__law_shared_by := ?d__law_shared_by, d__law_turned_right := ?d__law_turned_right, d__law_right := ?d__law_right, d_law := ?d_law }
  case n_abs => exact He.free_ok X G (c.fact 30 (f := .free "abs") rfl)
  case n_all => exact He.free_ok X G (c.fact 31 (f := .free "all") rfl)
  case n_bool => exact He.free_ok X G (c.fact 32 (f := .free "bool") rfl)
  case n_dict => exact He.free_ok X G (c.fact 33 (f := .free "dict") rfl)
  case n_divmod => exact He.free_ok X G (c.fact 34 (f := .free "divmod") rfl)
  case n_enumerate => exact He.free_ok X G (c.fact 35 (f := .free "enumerate") rfl)
  case n_int => exact He.free_ok X G (c.fact 36 (f := .free "int") rfl)
  case n_isinstance => exact He.free_ok X G (c.fact 37 (f := .free "isinstance") rfl)
  case n_len => exact He.free_ok X G (c.fact 38 (f := .free "len") rfl)
  case n_list => exact He.free_ok X G (c.fact 39 (f := .free "list") rfl)
  case n_max => exact He.free_ok X G (c.fact 40 (f := .free "max") rfl)
  case n_min => exact He.free_ok X G (c.fact 41 (f := .free "min") rfl)
  case n_range => exact He.free_ok X G (c.fact 42 (f := .free "range") rfl)
  case n_repr => exact He.free_ok X G (c.fact 43 (f := .free "repr") rfl)
  case n_sorted => exact He.free_ok X G (c.fact 44 (f := .free "sorted") rfl)
  case n_tuple => exact He.free_ok X G (c.fact 45 (f := .free "tuple") rfl)
  case n_zip => exact He.free_ok X G (c.fact 46 (f := .free "zip") rfl)
  case k_MOST_CLASSES => exact globInt (He.int_ok X G (c.fact 47 (f := .int "MOST_CLASSES" 4) rfl))
  case k_MOST_PEOPLE => exact globInt (He.int_ok X G (c.fact 48 (f := .int "MOST_PEOPLE" 24) rfl))
  case k_MOST_PRICE => exact globInt (He.int_ok X G (c.fact 49 (f := .int "MOST_PRICE" 998) rfl))
  case k_MOST_WORTH => exact globInt (He.int_ok X G (c.fact 50 (f := .int "MOST_WORTH" 999) rfl))
  case d_is_whole =>
    obtain ⟨fd, FD⟩ := c.def_ 0 (d := df_is_whole) rfl
    exact ⟨_, fd, FD, He.glo_ok X G (c.fact 0 (f := .glo "is_whole") rfl)⟩
  case d_is_number =>
    obtain ⟨fd, FD⟩ := c.def_ 1 (d := df_is_number) rfl
    exact ⟨_, fd, FD, He.glo_ok X G (c.fact 1 (f := .glo "is_number") rfl)⟩
  case d_is_tuple_of =>
    obtain ⟨fd, FD⟩ := c.def_ 2 (d := df_is_tuple_of) rfl
    exact ⟨_, fd, FD, He.glo_ok X G (c.fact 2 (f := .glo "is_tuple_of") rfl)⟩
  case d_wrong_at =>
    obtain ⟨fd, FD⟩ := c.def_ 3 (d := df_wrong_at) rfl
    exact ⟨_, fd, FD, He.glo_ok X G (c.fact 3 (f := .glo "wrong_at") rfl)⟩
  case d_wrong_from_one =>
    obtain ⟨fd, FD⟩ := c.def_ 4 (d := df_wrong_from_one) rfl
    exact ⟨_, fd, FD, He.glo_ok X G (c.fact 4 (f := .glo "wrong_from_one") rfl)⟩
  case d_left_of =>
    obtain ⟨fd, FD⟩ := c.def_ 5 (d := df_left_of) rfl
    exact ⟨_, fd, FD, He.glo_ok X G (c.fact 5 (f := .glo "left_of") rfl)⟩
  case d_staying =>
    obtain ⟨fd, FD⟩ := c.def_ 6 (d := df_staying) rfl
    exact ⟨_, fd, FD, He.glo_ok X G (c.fact 6 (f := .glo "staying") rfl)⟩
  case d_is_told =>
    obtain ⟨fd, FD⟩ := c.def_ 7 (d := df_is_told) rfl
    exact ⟨_, fd, FD, He.glo_ok X G (c.fact 7 (f := .glo "is_told") rfl)⟩
  case d_is_table =>
    obtain ⟨fd, FD⟩ := c.def_ 8 (d := df_is_table) rfl
    exact ⟨_, fd, FD, He.glo_ok X G (c.fact 8 (f := .glo "is_table") rfl)⟩
  case d_check_table =>
    obtain ⟨fd, FD⟩ := c.def_ 9 (d := df_check_table) rfl
    exact ⟨_, fd, FD, He.glo_ok X G (c.fact 9 (f := .glo "check_table") rfl)⟩
  case d_check_ceilings =>
    obtain ⟨fd, FD⟩ := c.def_ 10 (d := df_check_ceilings) rfl
    exact ⟨_, fd, FD, He.glo_ok X G (c.fact 10 (f := .glo "check_ceilings") rfl)⟩
  case d_check_shared =>
    obtain ⟨fd, FD⟩ := c.def_ 11 (d := df_check_shared) rfl
    exact ⟨_, fd, FD, He.glo_ok X G (c.fact 11 (f := .glo "check_shared") rfl)⟩
  case d_price_of =>
    obtain ⟨fd, FD⟩ := c.def_ 12 (d := df_price_of) rfl
    exact ⟨_, fd, FD, He.glo_ok X G (c.fact 12 (f := .glo "price_of") rfl)⟩
  case d_share =>
    obtain ⟨fd, FD⟩ := c.def_ 13 (d := df_share) rfl
    exact ⟨_, fd, FD, He.glo_ok X G (c.fact 13 (f := .glo "share") rfl)⟩
  case d_check_tables =>
    obtain ⟨fd, FD⟩ := c.def_ 14 (d := df_check_tables) rfl
    exact ⟨_, fd, FD, He.glo_ok X G (c.fact 14 (f := .glo "check_tables") rfl)⟩
  case d_is_as_long =>
    obtain ⟨fd, FD⟩ := c.def_ 15 (d := df_is_as_long) rfl
    exact ⟨_, fd, FD, He.glo_ok X G (c.fact 15 (f := .glo "is_as_long") rfl)⟩
  case d_check_classes =>
    obtain ⟨fd, FD⟩ := c.def_ 16 (d := df_check_classes) rfl
    exact ⟨_, fd, FD, He.glo_ok X G (c.fact 16 (f := .glo "check_classes") rfl)⟩
  case d_share_by =>
    obtain ⟨fd, FD⟩ := c.def_ 17 (d := df_share_by) rfl
    exact ⟨_, fd, FD, He.glo_ok X G (c.fact 17 (f := .glo "share_by") rfl)⟩
  case d__law_well =>
    obtain ⟨fd, FD⟩ := c.def_ 18 (d := df__law_well) rfl
    exact ⟨_, fd, FD, He.glo_ok X G (c.fact 18 (f := .glo "_law_well") rfl)⟩
  case d__law_dip =>
    obtain ⟨fd, FD⟩ := c.def_ 19 (d := df__law_dip) rfl
    exact ⟨_, fd, FD, He.glo_ok X G (c.fact 19 (f := .glo "_law_dip") rfl)⟩
  case d__law_one =>
    obtain ⟨fd, FD⟩ := c.def_ 20 (d := df__law_one) rfl
    exact ⟨_, fd, FD, He.glo_ok X G (c.fact 20 (f := .glo "_law_one") rfl)⟩
  case d__law_mixed =>
    obtain ⟨fd, FD⟩ := c.def_ 21 (d := df__law_mixed) rfl
    exact ⟨_, fd, FD, He.glo_ok X G (c.fact 21 (f := .glo "_law_mixed") rfl)⟩
  case d__law_turns =>
    obtain ⟨fd, FD⟩ := c.def_ 22 (d := df__law_turns) rfl
    exact ⟨_, fd, FD, He.glo_ok X G (c.fact 22 (f := .glo "_law_turns") rfl)⟩
  case d__law_table =>
    obtain ⟨fd, FD⟩ := c.def_ 23 (d := df__law_table) rfl
    exact ⟨_, fd, FD, He.glo_ok X G (c.fact 23 (f := .glo "_law_table") rfl)⟩
  case d__law_near =>
    obtain ⟨fd, FD⟩ := c.def_ 24 (d := df__law_near) rfl
    exact ⟨_, fd, FD, He.glo_ok X G (c.fact 24 (f := .glo "_law_near") rfl)⟩
  case d__law_ceilings =>
    obtain ⟨fd, FD⟩ := c.def_ 25 (d := df__law_ceilings) rfl
    exact ⟨_, fd, FD, He.glo_ok X G (c.fact 25 (f := .glo "_law_ceilings") rfl)⟩
  case d__law_shared_by =>
    obtain ⟨fd, FD⟩ := c.def_ 26 (d := df__law_shared_by) rfl
    exact ⟨_, fd, FD, He.glo_ok X G (c.fact 26 (f := .glo "_law_shared_by") rfl)⟩
  case d__law_turned_right =>
    obtain ⟨fd, FD⟩ := c.def_ 27 (d := df__law_turned_right) rfl
    exact ⟨_, fd, FD, He.glo_ok X G (c.fact 27 (f := .glo "_law_turned_right") rfl)⟩
  case d__law_right =>
    obtain ⟨fd, FD⟩ := c.def_ 28 (d := df__law_right) rfl
    exact ⟨_, fd, FD, He.glo_ok X G (c.fact 28 (f := .glo "_law_right") rfl)⟩
  case d_law =>
    obtain ⟨fd, FD⟩ := c.def_ 29 (d := df_law) rfl
    exact ⟨_, fd, FD, He.glo_ok X G (c.fact 29 (f := .glo "law") rfl)⟩
theorem factsT_of {K : PySem.W.Frag} {h : Heap} {mg : Str → Option Value} {base : Heap} (X : K.In h) (G : h.Ns mainGlobals mg) (c : He.SaysD fas fns K) (ap : apartL tf K = true) (tb : ∀ p ∈ tf.map (He.cT K), LamX.TabB base mg p.1 p.2) : FactsT K mg base (tabsL tf K) := by
  refine { t_check_ceilings := ?t_check_ceilings, t_check_tables := ?t_check_tables }
  case t_check_ceilings =>
    obtain ⟨fd, FD⟩ := c.def_ 10 (d := df_check_ceilings) rfl
    exact makes ("check_ceilings", none) ap (by decide) tb FD (He.glo_ok X G (c.fact 10 (f := .glo "check_ceilings") rfl))
  case t_check_tables =>
    obtain ⟨fd, FD⟩ := c.def_ 14 (d := df_check_tables) rfl
    exact makes ("check_tables", none) ap (by decide) tb FD (He.glo_ok X G (c.fact 14 (f := .glo "check_tables") rfl))
theorem main_ (end_ : ∀ ns : List Int, ns.length ≤ 63 → F_law [.fz (ns.map D.int)] [] = some (.ok (.bl true), [])) : PySem.Challenge.rw_pledgehall_k54_whole_shares_by_classes.Holds := by
  open PySem.W in
  w_on; o_law
  refine HandSHeadRun.head_any (r := PySem.W.OpenLaw.row PySem.Challenge.rw_pledgehall_k54_whole_shares_by_classes) (q := PySem.W.view (PySem.W.OpenLaw.row PySem.Challenge.rw_pledgehall_k54_whole_shares_by_classes).prog [44]) (H := hk) (ob := obs) (M := 100000) (loose := loose) (d := HandSHeadRun.topDef (PySem.W.OpenLaw.row PySem.Challenge.rw_pledgehall_k54_whole_shares_by_classes).prog 44) (kwd := []) obs_eq
    (by kernel_rfl) (fun s => by kernel_rfl) run (by kernel_rfl) (by kernel_rfl) (by kernel_rfl) (by rfl) (by first | assumption | decide +kernel) (by decide +kernel) ⟨rfl, rfl, rfl, rfl, rfl, by decide +kernel⟩ ?hw ?hc
  case hw => w_witness2
  case hc =>
    refine walk_pfT (l := PySem.Challenge.rw_pledgehall_k54_whole_shares_by_classes) (k := 11) (x := "script") (o := F_law) rfl (by kernel_rfl) ⟨rfl, by decide, by decide⟩ end_ ?F
    intro w mg fa h Y G hmg0
    obtain ⟨K, KX, c⟩ := Y
    have hmg : mg ("law" : PySem.Str) = some (.ref fa) := by
      have e : (HandSHeadRun.topDef (PySem.W.OpenLaw.row PySem.Challenge.rw_pledgehall_k54_whole_shares_by_classes).prog 44).name = ("law" : PySem.Str) := by kernel_rfl
      rw [← e]
      exact hmg0
    have Z := facts_of KX G c.t.d
    obtain ⟨f, fd, FD, hf⟩ := Z.d_law
    have e := hmg.symm.trans hf
    cases e
    refine ⟨K, fd, tf.map (He.cT K), tabsL tf K, KX, fun p hp => ?_, fun p hp => ?_, fun p hp => ?_, fun t ht => ?_, fun s u => FunD.bindsA (ps := ["script"]) FD pn_law s [u] rfl, fun base kb gb tb => ?_⟩
    · obtain ⟨q, hq, rfl⟩ := List.mem_map.mp hp
      exact c.empty q hq
    · obtain ⟨q, hq, rfl⟩ := List.mem_map.mp hp
      exact c.out q hq
    · obtain ⟨q, hq, rfl⟩ := List.mem_map.mp hp
      exact PySem.W.codeHd_of_K KX (c.hd q hq)
    · obtain ⟨q, hq, rfl⟩ := List.mem_map.mp ht
      exact ⟨_, List.mem_map.mpr ⟨q, hq, rfl⟩, rfl⟩
    exact def_g FD sc_law (r_law Z (factsT_of KX G c.t.d c.more tb))
end LW
set_option Elab.async false
set_option linter.all false
set_option maxRecDepth 100000
set_option maxHeartbeats 4000000
namespace LW
open PySem L2 Evl PySem.Spec PyProof.Rows PF
local macro_rules | `(tactic| trivial) => `(tactic| first
  | (with_reducible first | refine v0 ?_ | refine v1 ?_ | refine v2 ?_ | refine v3 ?_ | refine v4 ?_ | refine v5 ?_ | refine v6 ?_ | refine v7 ?_ | refine v8 ?_ | refine v9 ?_ | refine v10 ?_ | refine v11 ?_ | refine v12 ?_ | refine v13 ?_ | refine tn0 ?_ | refine tn1 ?_ | refine tn2 ?_ | refine tn3 ?_ | refine tn4 ?_ | refine tn5 ?_ | refine tn6 ?_ | refine tn7 ?_ | refine tn8 ?_ | refine tn9 ?_ | refine tn10 ?_ | refine tn11 ?_ | refine tn12 ?_ | refine tn13 ?_ | refine ss0 ?_ | refine ss1 ?_ | refine ss2 ?_ | refine ss3 ?_ | refine ss4 ?_ | refine ss5 ?_ | refine ss6 ?_ | refine ss7 ?_ | refine ss8 ?_ | refine ss9 ?_ | refine ss10 ?_ | refine ss11 ?_ | refine ss12 ?_ | refine ss13 ?_)
  | (with_reducible first | refine r_k ?_ | refine r_bin ?_ | refine r_cons ?_ | refine r_nil ?_ | refine r_call ?_ | refine r_blt ?_ | refine r_un ?_ | refine r_ok ?_ | refine s_seq ?_ | refine s_ret ?_ | refine s_if ?_ | refine s_expr ?_ | refine s_asg ?_ | refine s_par ?_ | refine s_nil ?_ | refine s_brk ?_ | refine s_ct ?_ | refine s_for ?_ | refine bool_t ?_ | refine bool_and ?_ | refine bool_or ?_ | refine bool_not ?_ | refine bool_yes ?_ | refine r_and ?_ | refine r_or ?_ | refine r_not ?_ | refine r_ife ?_ | refine r_chain ?_ | refine r_isi ?_ | refine r_lam ?_ | refine r_back ?_ | refine r_listR1 ?_ | refine r_callK ?_ | refine r_mt ?_ | refine r_alloc ?_ | refine r_sliceA ?_ | refine r_sliceL ?_ | refine r_no ?_ | refine r_part ?_ | refine r_scope ?_ | refine t_nil ?_ | refine t_cons ?_ | refine q_seq ?_ | refine q_range ?_ | refine q_range2 ?_ | refine q_rangeD ?_ | refine q_enumA ?_ | refine nx_nx ?_ | refine nx_ret ?_ | refine nx_exc ?_ | refine nx_brk ?_ | refine nx_ct ?_ | refine bl_bl ?_ | refine cs_not ?_ | refine cs_t ?_ | refine cs_f ?_ | refine r_bind ?_ | refine r_nox ?_ | refine t_sub ?_ | refine s_retL ?_ | refine o1_sub ?_ | refine o1_add ?_ | refine o1_lt ?_ | refine o1_le ?_ | refine o1_gt ?_ | refine o1_ge ?_ | refine o1_neg ?_ | refine o1_eq ?_ | refine o1_ne ?_ | refine b1_abs ?_ | refine b1_int ?_ | refine b1_min2 ?_ | refine b1_max2 ?_ | refine o1_eqA ?_ | refine o1_neA ?_ | refine o1_eqS ?_ | refine o1_isN ?_ | refine o1_notN ?_ | refine x_bl ?_ | refine x_int ?_ | refine x_str ?_ | refine x_non ?_ | refine x_nx ?_ | refine x_tup ?_ | refine x_lst ?_ | refine sl_tup ?_ | refine sl_lst ?_ | refine sl_fz ?_ | refine sL_lst ?_ | refine sL_fz ?_)
  | (with_reducible first | refine r_tup ?_ | refine r_lst ?_ | refine o1_addT ?_ | refine o1_addL ?_ | refine b1_len ?_ | refine b1_tuple ?_ | refine b1_list ?_ | refine o1_cat ?_ | refine m1_append ?_ | refine o_pow10_1 ?_ | refine o_pow10_2 ?_ | refine o_pow10_3 ?_ | refine o_pow10_4 ?_ | refine o_pow10_5 ?_ | refine o_pow10_6 ?_ | refine o_pow10_7 ?_ | refine o_pow10_8 ?_ | refine o_pow10_9 ?_ | refine o_pow10_10 ?_ | refine o_pow10_11 ?_ | refine o_pow10_12 ?_ | refine o_pow10_13 ?_ | refine o_pow10_14 ?_ | refine o_pow10_15 ?_ | refine o_pow10_16 ?_ | refine o_pow10_17 ?_ | refine o_pow10_18 ?_ | refine o_pow10_20 ?_ | refine o_pow10_30 ?_)
  | ((with_reducible refine o1_ix ?_); refine ⟨_, _, by first | rfl | assumption, by first | rfl | exact atI_zero, ?_⟩)
  | ((with_reducible refine o1_mul ?_ ?_); first | omega | decide | fail)
  | ((with_reducible refine o1_div ?_ ?_); first | omega | decide | fail)
  | ((with_reducible refine o1_mod ?_ ?_); first | omega | decide | fail)
  | ((with_reducible refine b1_divmod ?_ ?_); first | omega | decide | fail)
  | ((with_reducible refine t_tup ?_ ?_); rfl)
  | ((with_reducible refine r_callV ?_ ?_); rfl)
  | (with_reducible refine cs_dec (fun _ => ?_) (fun _ => ?_))
  | (with_reducible refine cs_beq (fun _ => ?_) (fun _ => ?_))
  | ((with_reducible refine cs_te ?_ ?_); rfl)
  | ((with_reducible refine cs_fe ?_ ?_); rfl)
  | ((with_reducible refine put0 (by assumption) ?_ fun _ => ?_); first | rfl | fail)
  | ((with_reducible refine put1 (by assumption) ?_ fun _ => ?_); first | rfl | fail)
  | ((with_reducible refine put2 (by assumption) ?_ fun _ => ?_); first | rfl | fail)
  | ((fail_if_success (with_reducible refine pst_id ?_)); first
    | exact take_same
    | (with_reducible refine fun (_ : Nat) (_ : Store) (_ : _ = _) (_ : _ = _) (_ : _ = _) => ?_)
    | ((fail_if_success (with_reducible refine And.intro ?_ ?_)); refine ⟨_, by first | rfl | assumption, ?_⟩)
    | ((fail_if_success (with_reducible refine And.intro ?_ ?_)); refine ⟨_, _, rfl, ?_⟩)
    | ((fail_if_success (with_reducible refine And.intro ?_ ?_)); refine ⟨_, _, by first | rfl | assumption, rfl, ?_⟩)
    | ((with_reducible refine And.intro ?_ ?_); first | exact rfl | omega | (simp only [List.length_map]; omega) | exact ⟨rfl, rfl⟩ | exact Nat.le_of_ble_eq_true rfl | fail)))
local macro_rules | `(tactic| done) => `(tactic| first
  | (with_reducible first | refine v0 ?_ | refine v1 ?_ | refine v2 ?_ | refine v3 ?_ | refine v4 ?_ | refine v5 ?_ | refine v6 ?_ | refine v7 ?_ | refine v8 ?_ | refine v9 ?_ | refine v10 ?_ | refine v11 ?_ | refine v12 ?_ | refine v13 ?_ | refine tn0 ?_ | refine tn1 ?_ | refine tn2 ?_ | refine tn3 ?_ | refine tn4 ?_ | refine tn5 ?_ | refine tn6 ?_ | refine tn7 ?_ | refine tn8 ?_ | refine tn9 ?_ | refine tn10 ?_ | refine tn11 ?_ | refine tn12 ?_ | refine tn13 ?_ | refine ss0 ?_ | refine ss1 ?_ | refine ss2 ?_ | refine ss3 ?_ | refine ss4 ?_ | refine ss5 ?_ | refine ss6 ?_ | refine ss7 ?_ | refine ss8 ?_ | refine ss9 ?_ | refine ss10 ?_ | refine ss11 ?_ | refine ss12 ?_ | refine ss13 ?_)
  | (with_reducible first | refine r_k ?_ | refine r_bin ?_ | refine r_cons ?_ | refine r_nil ?_ | refine r_call ?_ | refine r_blt ?_ | refine r_un ?_ | refine r_ok ?_ | refine s_seq ?_ | refine s_ret ?_ | refine s_if ?_ | refine s_expr ?_ | refine s_asg ?_ | refine s_par ?_ | refine s_nil ?_ | refine s_brk ?_ | refine s_ct ?_ | refine s_for ?_ | refine bool_t ?_ | refine bool_and ?_ | refine bool_or ?_ | refine bool_not ?_ | refine bool_yes ?_ | refine r_and ?_ | refine r_or ?_ | refine r_not ?_ | refine r_ife ?_ | refine r_chain ?_ | refine r_isi ?_ | refine r_lam ?_ | refine r_back ?_ | refine r_listR1 ?_ | refine r_callK ?_ | refine r_mt ?_ | refine r_alloc ?_ | refine r_sliceA ?_ | refine r_sliceL ?_ | refine r_no ?_ | refine r_part ?_ | refine r_scope ?_ | refine t_nil ?_ | refine t_cons ?_ | refine q_seq ?_ | refine q_range ?_ | refine q_range2 ?_ | refine q_rangeD ?_ | refine q_enumA ?_ | refine nx_nx ?_ | refine nx_ret ?_ | refine nx_exc ?_ | refine nx_brk ?_ | refine nx_ct ?_ | refine bl_bl ?_ | refine cs_not ?_ | refine cs_t ?_ | refine cs_f ?_ | refine r_bind ?_ | refine r_nox ?_ | refine t_sub ?_ | refine s_retL ?_ | refine o1_sub ?_ | refine o1_add ?_ | refine o1_lt ?_ | refine o1_le ?_ | refine o1_gt ?_ | refine o1_ge ?_ | refine o1_neg ?_ | refine o1_eq ?_ | refine o1_ne ?_ | refine b1_abs ?_ | refine b1_int ?_ | refine b1_min2 ?_ | refine b1_max2 ?_ | refine o1_eqA ?_ | refine o1_neA ?_ | refine o1_eqS ?_ | refine o1_isN ?_ | refine o1_notN ?_ | refine x_bl ?_ | refine x_int ?_ | refine x_str ?_ | refine x_non ?_ | refine x_nx ?_ | refine x_tup ?_ | refine x_lst ?_ | refine sl_tup ?_ | refine sl_lst ?_ | refine sl_fz ?_ | refine sL_lst ?_ | refine sL_fz ?_)
  | (with_reducible first | refine r_tup ?_ | refine r_lst ?_ | refine o1_addT ?_ | refine o1_addL ?_ | refine b1_len ?_ | refine b1_tuple ?_ | refine b1_list ?_ | refine o1_cat ?_ | refine m1_append ?_ | refine o_pow10_1 ?_ | refine o_pow10_2 ?_ | refine o_pow10_3 ?_ | refine o_pow10_4 ?_ | refine o_pow10_5 ?_ | refine o_pow10_6 ?_ | refine o_pow10_7 ?_ | refine o_pow10_8 ?_ | refine o_pow10_9 ?_ | refine o_pow10_10 ?_ | refine o_pow10_11 ?_ | refine o_pow10_12 ?_ | refine o_pow10_13 ?_ | refine o_pow10_14 ?_ | refine o_pow10_15 ?_ | refine o_pow10_16 ?_ | refine o_pow10_17 ?_ | refine o_pow10_18 ?_ | refine o_pow10_20 ?_ | refine o_pow10_30 ?_)
  | ((with_reducible refine o1_ix ?_); refine ⟨_, _, by first | rfl | assumption, by first | rfl | exact atI_zero, ?_⟩)
  | ((with_reducible refine o1_mul ?_ ?_); first | omega | decide | fail)
  | ((with_reducible refine o1_div ?_ ?_); first | omega | decide | fail)
  | ((with_reducible refine o1_mod ?_ ?_); first | omega | decide | fail)
  | ((with_reducible refine b1_divmod ?_ ?_); first | omega | decide | fail)
  | ((with_reducible refine t_tup ?_ ?_); rfl)
  | ((with_reducible refine r_callV ?_ ?_); rfl)
  | (with_reducible refine cs_dec (fun _ => ?_) (fun _ => ?_))
  | (with_reducible refine cs_beq (fun _ => ?_) (fun _ => ?_))
  | ((with_reducible refine cs_te ?_ ?_); rfl)
  | ((with_reducible refine cs_fe ?_ ?_); rfl)
  | ((with_reducible refine put0 (by assumption) ?_ fun _ => ?_); first | rfl | fail)
  | ((with_reducible refine put1 (by assumption) ?_ fun _ => ?_); first | rfl | fail)
  | ((with_reducible refine put2 (by assumption) ?_ fun _ => ?_); first | rfl | fail)
  | ((fail_if_success (with_reducible refine pst_id ?_)); first
    | exact take_same
    | (with_reducible refine fun (_ : Nat) (_ : Store) (_ : _ = _) (_ : _ = _) (_ : _ = _) => ?_)
    | ((fail_if_success (with_reducible refine And.intro ?_ ?_)); refine ⟨_, by first | rfl | assumption, ?_⟩)
    | ((fail_if_success (with_reducible refine And.intro ?_ ?_)); refine ⟨_, _, rfl, ?_⟩)
    | ((fail_if_success (with_reducible refine And.intro ?_ ?_)); refine ⟨_, _, by first | rfl | assumption, rfl, ?_⟩)
    | ((with_reducible refine And.intro ?_ ?_); first | exact rfl | omega | (simp only [List.length_map]; omega) | exact ⟨rfl, rfl⟩ | exact Nat.le_of_ble_eq_true rfl | fail))
  | ((fail_if_success (with_reducible refine pst_id ?_)); first | (with_reducible rfl) | assumption | contradiction))

/-! what the package does to tables and ceilings -/
structure TabOk (t : List Int) : Prop where
  l1 : 1 ≤ t.length
  l24 : t.length ≤ 24
  ok : ∀ x ∈ t, 0 ≤ x ∧ x ≤ 998
structure CeilOk (m : Nat) (cs : List Int) : Prop where
  l1 : 1 ≤ cs.length
  le : cs.length ≤ m
  ok : ∀ x ∈ cs, 0 ≤ x ∧ x ≤ 999
theorem whole_int {v : Int} {S : Store} : F_is_whole [.int v] S = some (.ok (.bl true), S) := by
  unfold F_is_whole b_is_whole
  refine call_eq rfl ?_
  dsimp only [startE, List.map, List.replicate, List.length, List.cons_append, List.nil_append, Nat.reduceAdd, Nat.reduceSub]
  repeat' trivial
theorem num_in {v a b : Int} (h : a ≤ v ∧ v ≤ b) {S : Store} : F_is_number [.int v, .int a, .int b] S = some (.ok (.bl true), S) := by
  unfold F_is_number b_is_number
  refine call_eq rfl ?_
  dsimp only [startE, List.map, List.replicate, List.length, List.cons_append, List.nil_append, Nat.reduceAdd, Nat.reduceSub]
  repeat' trivial
  refine r_eq whole_int ?_
  repeat' trivial
  rw [decide_eq_true h.2]
  exact ⟨rfl, take_same⟩
theorem table_is {t : List Int} (h : TabOk t) {S : Store} : F_is_table [tI t] S = some (.ok (.bl true), S) := by
  have l1 := h.l1
  have l24 := h.l24
  unfold F_is_table b_is_table
  refine call_eq rfl ?_
  dsimp only [startE, List.map, List.replicate, List.length, List.cons_append, List.nil_append, Nat.reduceAdd, Nat.reduceSub]
  repeat' trivial
  · rw [List.length_map] at *
    refine r_eq (comp_map (so := .items (t.map D.int)) t D.int (fun _ => .bl true) rfl rfl (fun _ => rfl) (by show _ ≤ 1000000; omega) ?_) ?_
    · intro v hv acc
      refine ⟨rfl, ?_⟩
      dsimp only [wipeE, List.set]
      repeat' trivial
      refine r_eq (num_in (h.ok v hv)) ?_
      repeat' trivial
    refine r_nil ?_
    refine r_eq b_allM ?_
    repeat' trivial
    simp
  all_goals exfalso; simp only [List.length_map] at *; omega
theorem check_table_is {t : List Int} (h : TabOk t) {S : Store} : F_check_table [tI t] S = some (.ok .non, S) := by
  unfold F_check_table b_check_table
  refine call_eq rfl ?_
  dsimp only [startE, List.map, List.replicate, List.length, List.cons_append, List.nil_append, Nat.reduceAdd, Nat.reduceSub]
  repeat' trivial
  refine r_eq (table_is h) ?_
  repeat' trivial
theorem eqok_ints {ns : List Int} : eqOk (tI ns) = true := by
  unfold eqOk
  rw [Bool.and_eq_true]
  refine ⟨by rw [D.pure]; exact pures_mapI, ?_⟩
  unfold SeqAt.shaped
  rw [Bool.and_eq_true]
  constructor
  · rw [D.py, PyData.canLay0]
    induction ns with
    | nil => rfl
    | cons n ns ih => simp only [List.map_cons, D.pys, PyData.canLayAll0, D.py, PyData.canLay0, ih, Bool.and_self]
  · refine decide_eq_true ?_
    rw [D.py, PyData.depth]
    have : PyData.depthAll (D.pys (ns.map D.int)) = 0 := by
      induction ns with
      | nil => rfl
      | cons n ns ih => simp only [List.map_cons, D.pys, D.py, PyData.depthAll, PyData.depth, ih, Nat.max_self]
    omega
theorem neA_nil {S : Store} : oNeA (.lst []) (.lst []) S = some (.ok (.bl false), S) := by
  unfold oNeA oNeS oNe
  exact (if_pos ⟨(by decide : eqOk (.lst []) = true), (by decide : eqOk (.lst []) = true)⟩).trans rfl
theorem eqA_nilT {ds : List D} (h0 : ds ≠ []) (hp : eqOk (.tup ds) = true) {S : Store} : oEqA (.tup ds) (.tup []) S = some (.ok (.bl false), S) := by
  unfold oEqA oEqS oEq
  refine (if_pos ⟨hp, (by decide : eqOk (.tup []) = true)⟩).trans ?_
  dsimp only [told]
  cases ds with
  | nil => exact absurd rfl h0
  | cons d ds => simp [D.eqv, D.eqvs]
end LW
set_option Elab.async false
set_option linter.all false
set_option maxRecDepth 100000
set_option maxHeartbeats 4000000
namespace LW
open PySem L2 Evl PySem.Spec PyProof.Rows PF
local macro_rules | `(tactic| trivial) => `(tactic| first
  | (with_reducible first | refine v0 ?_ | refine v1 ?_ | refine v2 ?_ | refine v3 ?_ | refine v4 ?_ | refine v5 ?_ | refine v6 ?_ | refine v7 ?_ | refine v8 ?_ | refine v9 ?_ | refine v10 ?_ | refine v11 ?_ | refine v12 ?_ | refine v13 ?_ | refine tn0 ?_ | refine tn1 ?_ | refine tn2 ?_ | refine tn3 ?_ | refine tn4 ?_ | refine tn5 ?_ | refine tn6 ?_ | refine tn7 ?_ | refine tn8 ?_ | refine tn9 ?_ | refine tn10 ?_ | refine tn11 ?_ | refine tn12 ?_ | refine tn13 ?_ | refine ss0 ?_ | refine ss1 ?_ | refine ss2 ?_ | refine ss3 ?_ | refine ss4 ?_ | refine ss5 ?_ | refine ss6 ?_ | refine ss7 ?_ | refine ss8 ?_ | refine ss9 ?_ | refine ss10 ?_ | refine ss11 ?_ | refine ss12 ?_ | refine ss13 ?_)
  | (with_reducible first | refine r_k ?_ | refine r_bin ?_ | refine r_cons ?_ | refine r_nil ?_ | refine r_call ?_ | refine r_blt ?_ | refine r_un ?_ | refine r_ok ?_ | refine s_seq ?_ | refine s_ret ?_ | refine s_if ?_ | refine s_expr ?_ | refine s_asg ?_ | refine s_par ?_ | refine s_nil ?_ | refine s_brk ?_ | refine s_ct ?_ | refine s_for ?_ | refine bool_t ?_ | refine bool_and ?_ | refine bool_or ?_ | refine bool_not ?_ | refine bool_yes ?_ | refine r_and ?_ | refine r_or ?_ | refine r_not ?_ | refine r_ife ?_ | refine r_chain ?_ | refine r_isi ?_ | refine r_lam ?_ | refine r_back ?_ | refine r_listR1 ?_ | refine r_callK ?_ | refine r_mt ?_ | refine r_alloc ?_ | refine r_sliceA ?_ | refine r_sliceL ?_ | refine r_no ?_ | refine r_part ?_ | refine r_scope ?_ | refine t_nil ?_ | refine t_cons ?_ | refine q_seq ?_ | refine q_range ?_ | refine q_range2 ?_ | refine q_rangeD ?_ | refine q_enumA ?_ | refine nx_nx ?_ | refine nx_ret ?_ | refine nx_exc ?_ | refine nx_brk ?_ | refine nx_ct ?_ | refine bl_bl ?_ | refine cs_not ?_ | refine cs_t ?_ | refine cs_f ?_ | refine r_bind ?_ | refine r_nox ?_ | refine t_sub ?_ | refine s_retL ?_ | refine o1_sub ?_ | refine o1_add ?_ | refine o1_lt ?_ | refine o1_le ?_ | refine o1_gt ?_ | refine o1_ge ?_ | refine o1_neg ?_ | refine o1_eq ?_ | refine o1_ne ?_ | refine b1_abs ?_ | refine b1_int ?_ | refine b1_min2 ?_ | refine b1_max2 ?_ | refine o1_eqA ?_ | refine o1_neA ?_ | refine o1_eqS ?_ | refine o1_isN ?_ | refine o1_notN ?_ | refine x_bl ?_ | refine x_int ?_ | refine x_str ?_ | refine x_non ?_ | refine x_nx ?_ | refine x_tup ?_ | refine x_lst ?_ | refine sl_tup ?_ | refine sl_lst ?_ | refine sl_fz ?_ | refine sL_lst ?_ | refine sL_fz ?_)
  | (with_reducible first | refine r_tup ?_ | refine r_lst ?_ | refine o1_addT ?_ | refine o1_addL ?_ | refine b1_len ?_ | refine b1_tuple ?_ | refine b1_list ?_ | refine o1_cat ?_ | refine m1_append ?_ | refine o_pow10_1 ?_ | refine o_pow10_2 ?_ | refine o_pow10_3 ?_ | refine o_pow10_4 ?_ | refine o_pow10_5 ?_ | refine o_pow10_6 ?_ | refine o_pow10_7 ?_ | refine o_pow10_8 ?_ | refine o_pow10_9 ?_ | refine o_pow10_10 ?_ | refine o_pow10_11 ?_ | refine o_pow10_12 ?_ | refine o_pow10_13 ?_ | refine o_pow10_14 ?_ | refine o_pow10_15 ?_ | refine o_pow10_16 ?_ | refine o_pow10_17 ?_ | refine o_pow10_18 ?_ | refine o_pow10_20 ?_ | refine o_pow10_30 ?_)
  | ((with_reducible refine o1_ix ?_); refine ⟨_, _, by first | rfl | assumption, by first | rfl | exact atI_zero, ?_⟩)
  | ((with_reducible refine o1_mul ?_ ?_); first | omega | decide | fail)
  | ((with_reducible refine o1_div ?_ ?_); first | omega | decide | fail)
  | ((with_reducible refine o1_mod ?_ ?_); first | omega | decide | fail)
  | ((with_reducible refine b1_divmod ?_ ?_); first | omega | decide | fail)
  | ((with_reducible refine t_tup ?_ ?_); rfl)
  | ((with_reducible refine r_callV ?_ ?_); rfl)
  | (with_reducible refine cs_dec (fun _ => ?_) (fun _ => ?_))
  | (with_reducible refine cs_beq (fun _ => ?_) (fun _ => ?_))
  | ((with_reducible refine cs_te ?_ ?_); rfl)
  | ((with_reducible refine cs_fe ?_ ?_); rfl)
  | ((with_reducible refine put0 (by assumption) ?_ fun _ => ?_); first | rfl | fail)
  | ((with_reducible refine put1 (by assumption) ?_ fun _ => ?_); first | rfl | fail)
  | ((with_reducible refine put2 (by assumption) ?_ fun _ => ?_); first | rfl | fail)
  | ((fail_if_success (with_reducible refine pst_id ?_)); first
    | exact take_same
    | (with_reducible refine fun (_ : Nat) (_ : Store) (_ : _ = _) (_ : _ = _) (_ : _ = _) => ?_)
    | ((fail_if_success (with_reducible refine And.intro ?_ ?_)); refine ⟨_, by first | rfl | assumption, ?_⟩)
    | ((fail_if_success (with_reducible refine And.intro ?_ ?_)); refine ⟨_, _, rfl, ?_⟩)
    | ((fail_if_success (with_reducible refine And.intro ?_ ?_)); refine ⟨_, _, by first | rfl | assumption, rfl, ?_⟩)
    | ((with_reducible refine And.intro ?_ ?_); first | exact rfl | omega | (simp only [List.length_map]; omega) | exact ⟨rfl, rfl⟩ | exact Nat.le_of_ble_eq_true rfl | fail)))
local macro_rules | `(tactic| done) => `(tactic| first
  | (with_reducible first | refine v0 ?_ | refine v1 ?_ | refine v2 ?_ | refine v3 ?_ | refine v4 ?_ | refine v5 ?_ | refine v6 ?_ | refine v7 ?_ | refine v8 ?_ | refine v9 ?_ | refine v10 ?_ | refine v11 ?_ | refine v12 ?_ | refine v13 ?_ | refine tn0 ?_ | refine tn1 ?_ | refine tn2 ?_ | refine tn3 ?_ | refine tn4 ?_ | refine tn5 ?_ | refine tn6 ?_ | refine tn7 ?_ | refine tn8 ?_ | refine tn9 ?_ | refine tn10 ?_ | refine tn11 ?_ | refine tn12 ?_ | refine tn13 ?_ | refine ss0 ?_ | refine ss1 ?_ | refine ss2 ?_ | refine ss3 ?_ | refine ss4 ?_ | refine ss5 ?_ | refine ss6 ?_ | refine ss7 ?_ | refine ss8 ?_ | refine ss9 ?_ | refine ss10 ?_ | refine ss11 ?_ | refine ss12 ?_ | refine ss13 ?_)
  | (with_reducible first | refine r_k ?_ | refine r_bin ?_ | refine r_cons ?_ | refine r_nil ?_ | refine r_call ?_ | refine r_blt ?_ | refine r_un ?_ | refine r_ok ?_ | refine s_seq ?_ | refine s_ret ?_ | refine s_if ?_ | refine s_expr ?_ | refine s_asg ?_ | refine s_par ?_ | refine s_nil ?_ | refine s_brk ?_ | refine s_ct ?_ | refine s_for ?_ | refine bool_t ?_ | refine bool_and ?_ | refine bool_or ?_ | refine bool_not ?_ | refine bool_yes ?_ | refine r_and ?_ | refine r_or ?_ | refine r_not ?_ | refine r_ife ?_ | refine r_chain ?_ | refine r_isi ?_ | refine r_lam ?_ | refine r_back ?_ | refine r_listR1 ?_ | refine r_callK ?_ | refine r_mt ?_ | refine r_alloc ?_ | refine r_sliceA ?_ | refine r_sliceL ?_ | refine r_no ?_ | refine r_part ?_ | refine r_scope ?_ | refine t_nil ?_ | refine t_cons ?_ | refine q_seq ?_ | refine q_range ?_ | refine q_range2 ?_ | refine q_rangeD ?_ | refine q_enumA ?_ | refine nx_nx ?_ | refine nx_ret ?_ | refine nx_exc ?_ | refine nx_brk ?_ | refine nx_ct ?_ | refine bl_bl ?_ | refine cs_not ?_ | refine cs_t ?_ | refine cs_f ?_ | refine r_bind ?_ | refine r_nox ?_ | refine t_sub ?_ | refine s_retL ?_ | refine o1_sub ?_ | refine o1_add ?_ | refine o1_lt ?_ | refine o1_le ?_ | refine o1_gt ?_ | refine o1_ge ?_ | refine o1_neg ?_ | refine o1_eq ?_ | refine o1_ne ?_ | refine b1_abs ?_ | refine b1_int ?_ | refine b1_min2 ?_ | refine b1_max2 ?_ | refine o1_eqA ?_ | refine o1_neA ?_ | refine o1_eqS ?_ | refine o1_isN ?_ | refine o1_notN ?_ | refine x_bl ?_ | refine x_int ?_ | refine x_str ?_ | refine x_non ?_ | refine x_nx ?_ | refine x_tup ?_ | refine x_lst ?_ | refine sl_tup ?_ | refine sl_lst ?_ | refine sl_fz ?_ | refine sL_lst ?_ | refine sL_fz ?_)
  | (with_reducible first | refine r_tup ?_ | refine r_lst ?_ | refine o1_addT ?_ | refine o1_addL ?_ | refine b1_len ?_ | refine b1_tuple ?_ | refine b1_list ?_ | refine o1_cat ?_ | refine m1_append ?_ | refine o_pow10_1 ?_ | refine o_pow10_2 ?_ | refine o_pow10_3 ?_ | refine o_pow10_4 ?_ | refine o_pow10_5 ?_ | refine o_pow10_6 ?_ | refine o_pow10_7 ?_ | refine o_pow10_8 ?_ | refine o_pow10_9 ?_ | refine o_pow10_10 ?_ | refine o_pow10_11 ?_ | refine o_pow10_12 ?_ | refine o_pow10_13 ?_ | refine o_pow10_14 ?_ | refine o_pow10_15 ?_ | refine o_pow10_16 ?_ | refine o_pow10_17 ?_ | refine o_pow10_18 ?_ | refine o_pow10_20 ?_ | refine o_pow10_30 ?_)
  | ((with_reducible refine o1_ix ?_); refine ⟨_, _, by first | rfl | assumption, by first | rfl | exact atI_zero, ?_⟩)
  | ((with_reducible refine o1_mul ?_ ?_); first | omega | decide | fail)
  | ((with_reducible refine o1_div ?_ ?_); first | omega | decide | fail)
  | ((with_reducible refine o1_mod ?_ ?_); first | omega | decide | fail)
  | ((with_reducible refine b1_divmod ?_ ?_); first | omega | decide | fail)
  | ((with_reducible refine t_tup ?_ ?_); rfl)
  | ((with_reducible refine r_callV ?_ ?_); rfl)
  | (with_reducible refine cs_dec (fun _ => ?_) (fun _ => ?_))
  | (with_reducible refine cs_beq (fun _ => ?_) (fun _ => ?_))
  | ((with_reducible refine cs_te ?_ ?_); rfl)
  | ((with_reducible refine cs_fe ?_ ?_); rfl)
  | ((with_reducible refine put0 (by assumption) ?_ fun _ => ?_); first | rfl | fail)
  | ((with_reducible refine put1 (by assumption) ?_ fun _ => ?_); first | rfl | fail)
  | ((with_reducible refine put2 (by assumption) ?_ fun _ => ?_); first | rfl | fail)
  | ((fail_if_success (with_reducible refine pst_id ?_)); first
    | exact take_same
    | (with_reducible refine fun (_ : Nat) (_ : Store) (_ : _ = _) (_ : _ = _) (_ : _ = _) => ?_)
    | ((fail_if_success (with_reducible refine And.intro ?_ ?_)); refine ⟨_, by first | rfl | assumption, ?_⟩)
    | ((fail_if_success (with_reducible refine And.intro ?_ ?_)); refine ⟨_, _, rfl, ?_⟩)
    | ((fail_if_success (with_reducible refine And.intro ?_ ?_)); refine ⟨_, _, by first | rfl | assumption, rfl, ?_⟩)
    | ((with_reducible refine And.intro ?_ ?_); first | exact rfl | omega | (simp only [List.length_map]; omega) | exact ⟨rfl, rfl⟩ | exact Nat.le_of_ble_eq_true rfl | fail))
  | ((fail_if_success (with_reducible refine pst_id ?_)); first | (with_reducible rfl) | assumption | contradiction))

/-! who is left -/
def okL (b : Int) (cs : List Int) (k : Nat) : Bool := decide (b ≤ cs.getD k 0)
def stepL (t cs : List Int) (l : List Nat) : List Nat := l.filter (okL (t.getD (l.length - 1) 0) cs)
theorem stepL_len (t cs : List Int) (l : List Nat) : (stepL t cs l).length ≤ l.length := List.length_filter_le ..
theorem filterMap_nD {l : List Nat} {p : Nat → Bool} {g : D → Option D} (e : ∀ k ∈ l, g (nD k) = if p k = true then some (nD k) else none) : (l.map nD).filterMap g = (l.filter p).map nD := by
  induction l with
  | nil => rfl
  | cons a l ih =>
    rw [List.map_cons, List.filterMap_cons, e a (List.mem_cons_self ..)]
    by_cases hp : p a = true
    · rw [if_pos hp, List.filter_cons_of_pos hp, List.map_cons, ih fun k hk => e k (List.mem_cons_of_mem _ hk)]
    · rw [if_neg hp, List.filter_cons_of_neg hp, ih fun k hk => e k (List.mem_cons_of_mem _ hk)]
def natD : D → Nat
  | .int i => i.toNat
  | _ => 0
/-- the turns of the loop -/
def turnsL (t cs : List Int) : Nat → List Nat → List Nat
  | 0, l => l
  | f + 1, l => if (stepL t cs l).length < l.length then turnsL t cs f (stepL t cs l) else l
def leftL (t cs : List Int) : List Nat := turnsL t cs cs.length (List.range cs.length)
theorem turns_end (t cs : List Int) : ∀ (f : Nat) (l : List Nat), l.length ≤ f → stepL t cs (turnsL t cs f l) = turnsL t cs f l
  | 0, l, h => by
    have : l = [] := List.length_eq_zero_iff.mp (by omega)
    subst this
    rfl
  | f + 1, l, h => by
    unfold turnsL
    split
    · rename_i h1
      exact turns_end t cs f _ (by omega)
    · rename_i h1
      have h2 := stepL_len t cs l
      exact List.filter_sublist.eq_of_length (by unfold stepL at h1 h2; omega)
theorem turns_sub (t cs : List Int) : ∀ (f : Nat) (l : List Nat), List.Sublist (turnsL t cs f l) l
  | 0, l => List.Sublist.refl _
  | f + 1, l => by
    unfold turnsL
    split
    · exact (turns_sub t cs f _).trans List.filter_sublist
    · exact List.Sublist.refl _
/-- what each turn keeps, holds at the end -/
theorem turns_inv {t cs : List Int} {P : List Nat → Prop} (hs : ∀ l, P l → P (stepL t cs l)) : ∀ (f : Nat) (l : List Nat), P l → P (turnsL t cs f l)
  | 0, l, h => h
  | f + 1, l, h => by
    unfold turnsL
    split
    · exact turns_inv hs f _ (hs l h)
    · exact h
theorem leftL_lt {t cs : List Int} {k : Nat} (h : k ∈ leftL t cs) : k < cs.length := List.mem_range.mp ((turns_sub t cs _ _).subset h)
theorem leftL_len (t cs : List Int) : (leftL t cs).length ≤ cs.length := by
  have := (turns_sub t cs cs.length (List.range cs.length)).length_le
  rw [List.length_range] at this; exact this
def priceD (t : List Int) (l : List Nat) : D := if l = [] then .non else .int (t.getD (l.length - 1) 0)
theorem eqok_intsL {ns : List Int} : eqOk (.lst (ns.map D.int)) = true := by
  have h : eqOk (.tup (ns.map D.int)) = true := eqok_ints
  unfold eqOk at h ⊢
  unfold SeqAt.shaped at h ⊢
  simp only [D.pure, D.py, PyData.canLay0, PyData.depth] at h ⊢
  exact h
theorem map_nD (l : List Nat) : l.map nD = (l.map Int.ofNat).map D.int := by
  rw [List.map_map]; rfl
theorem neA_nilL {l : List Nat} {S : Store} : oNeA (.lst (l.map nD)) (.lst []) S = some (.ok (.bl (!l.isEmpty)), S) := by
  unfold oNeA oNeS oNe
  rw [map_nD]
  refine (if_pos ⟨(eqok_intsL : eqOk (.lst ((l.map Int.ofNat).map D.int)) = true), (by decide : eqOk (.lst []) = true)⟩).trans ?_
  dsimp only [told]
  cases l <;> simp [D.eqv, D.eqvs]
def shareD (t cs : List Int) : D := .tup [.tup ((leftL t cs).map nD), priceD t (leftL t cs)]
theorem flat1 {α : Type} (d : α) : ∀ n : Nat, (List.replicate n [d]).flatten = List.replicate n d
  | 0 => rfl
  | n + 1 => by rw [List.replicate_succ, List.flatten_cons, flat1 d n, List.replicate_succ]; rfl
theorem o_rep1 {d : D} {n : Nat} {S : Store} (h : n ≤ 1000) : oRepL (.lst [d]) (.int n) S = some (.ok (.lst (List.replicate n d)), S) := by
  have e : oRepL (.lst [d]) (.int n) S = if (n : Int) ≤ 10000 ∧ -10000 ≤ (n : Int) ∧ [d].length * (n : Int).toNat ≤ lim then some (.ok (.lst (List.replicate (n : Int).toNat [d]).flatten), S) else none := rfl
  rw [e, if_pos ⟨by omega, by omega, by show 1 * _ ≤ 1000000; omega⟩, Int.toNat_natCast, flat1]
theorem price_pure {t : List Int} {l : List Nat} : (priceD t l).pure = true := by
  unfold priceD
  split <;> rfl
theorem share_ro {t cs : List Int} (ht : TabOk t) (h : CeilOk t.length cs) : RP 2 2200 (shareD t cs) := by
  have l24 := ht.l24
  have le := h.le
  have hl := leftL_len t cs
  have h1 : RP 1 1008 (.tup ((leftL t cs).map nD)) := by
    refine (ro_tup (k := 0) (m := 41) ?_).mono (Nat.le_refl _) ?_
    · intro d hd
      obtain ⟨k, hk, rfl⟩ := List.mem_map.mp hd
      have := leftL_lt hk
      exact ro_int (by omega)
    · rw [List.length_map]; omega
  have h2 : RP 1 1008 (priceD t (leftL t cs)) := by
    unfold priceD
    split
    · exact ro_non.mono (by decide) (by decide)
    · refine (ro_int ?_).mono (by decide) (by decide)
      rw [List.getD_eq_getElem?_getD]
      cases e : t[(leftL t cs).length - 1]? with
      | none => decide
      | some x =>
        have := ht.ok x (List.mem_of_getElem? e)
        show -1000000000000 < x ∧ x < 1000000000000
        omega
  refine (ro_tup (ros_cons h1 (ros_cons h2 ros_nil))).mono (Nat.le_refl _) ?_
  simp
theorem share_repr {t cs : List Int} (ht : TabOk t) (h : CeilOk t.length cs) {S : Store} : bRepr [shareD t cs] S = some (.ok (.str (shareD t cs).py.shown), S) := repr_eq (ro_ok (share_ro ht h) (by decide) (by decide))
end LW
set_option Elab.async false
set_option linter.all false
set_option maxRecDepth 100000
set_option maxHeartbeats 4000000
namespace LW
open PySem L2 Evl PySem.Spec PyProof.Rows PF
local macro_rules | `(tactic| trivial) => `(tactic| first
  | (with_reducible first | refine v0 ?_ | refine v1 ?_ | refine v2 ?_ | refine v3 ?_ | refine v4 ?_ | refine v5 ?_ | refine v6 ?_ | refine v7 ?_ | refine v8 ?_ | refine v9 ?_ | refine v10 ?_ | refine v11 ?_ | refine v12 ?_ | refine v13 ?_ | refine tn0 ?_ | refine tn1 ?_ | refine tn2 ?_ | refine tn3 ?_ | refine tn4 ?_ | refine tn5 ?_ | refine tn6 ?_ | refine tn7 ?_ | refine tn8 ?_ | refine tn9 ?_ | refine tn10 ?_ | refine tn11 ?_ | refine tn12 ?_ | refine tn13 ?_ | refine ss0 ?_ | refine ss1 ?_ | refine ss2 ?_ | refine ss3 ?_ | refine ss4 ?_ | refine ss5 ?_ | refine ss6 ?_ | refine ss7 ?_ | refine ss8 ?_ | refine ss9 ?_ | refine ss10 ?_ | refine ss11 ?_ | refine ss12 ?_ | refine ss13 ?_)
  | (with_reducible first | refine r_k ?_ | refine r_bin ?_ | refine r_cons ?_ | refine r_nil ?_ | refine r_call ?_ | refine r_blt ?_ | refine r_un ?_ | refine r_ok ?_ | refine s_seq ?_ | refine s_ret ?_ | refine s_if ?_ | refine s_expr ?_ | refine s_asg ?_ | refine s_par ?_ | refine s_nil ?_ | refine s_brk ?_ | refine s_ct ?_ | refine s_for ?_ | refine bool_t ?_ | refine bool_and ?_ | refine bool_or ?_ | refine bool_not ?_ | refine bool_yes ?_ | refine r_and ?_ | refine r_or ?_ | refine r_not ?_ | refine r_ife ?_ | refine r_chain ?_ | refine r_isi ?_ | refine r_lam ?_ | refine r_back ?_ | refine r_listR1 ?_ | refine r_callK ?_ | refine r_mt ?_ | refine r_alloc ?_ | refine r_sliceA ?_ | refine r_sliceL ?_ | refine r_no ?_ | refine r_part ?_ | refine r_scope ?_ | refine t_nil ?_ | refine t_cons ?_ | refine q_seq ?_ | refine q_range ?_ | refine q_range2 ?_ | refine q_rangeD ?_ | refine q_enumA ?_ | refine nx_nx ?_ | refine nx_ret ?_ | refine nx_exc ?_ | refine nx_brk ?_ | refine nx_ct ?_ | refine bl_bl ?_ | refine cs_not ?_ | refine cs_t ?_ | refine cs_f ?_ | refine r_bind ?_ | refine r_nox ?_ | refine t_sub ?_ | refine s_retL ?_ | refine o1_sub ?_ | refine o1_add ?_ | refine o1_lt ?_ | refine o1_le ?_ | refine o1_gt ?_ | refine o1_ge ?_ | refine o1_neg ?_ | refine o1_eq ?_ | refine o1_ne ?_ | refine b1_abs ?_ | refine b1_int ?_ | refine b1_min2 ?_ | refine b1_max2 ?_ | refine o1_eqA ?_ | refine o1_neA ?_ | refine o1_eqS ?_ | refine o1_isN ?_ | refine o1_notN ?_ | refine x_bl ?_ | refine x_int ?_ | refine x_str ?_ | refine x_non ?_ | refine x_nx ?_ | refine x_tup ?_ | refine x_lst ?_ | refine sl_tup ?_ | refine sl_lst ?_ | refine sl_fz ?_ | refine sL_lst ?_ | refine sL_fz ?_)
  | (with_reducible first | refine r_tup ?_ | refine r_lst ?_ | refine o1_addT ?_ | refine o1_addL ?_ | refine b1_len ?_ | refine b1_tuple ?_ | refine b1_list ?_ | refine o1_cat ?_ | refine m1_append ?_ | refine o_pow10_1 ?_ | refine o_pow10_2 ?_ | refine o_pow10_3 ?_ | refine o_pow10_4 ?_ | refine o_pow10_5 ?_ | refine o_pow10_6 ?_ | refine o_pow10_7 ?_ | refine o_pow10_8 ?_ | refine o_pow10_9 ?_ | refine o_pow10_10 ?_ | refine o_pow10_11 ?_ | refine o_pow10_12 ?_ | refine o_pow10_13 ?_ | refine o_pow10_14 ?_ | refine o_pow10_15 ?_ | refine o_pow10_16 ?_ | refine o_pow10_17 ?_ | refine o_pow10_18 ?_ | refine o_pow10_20 ?_ | refine o_pow10_30 ?_)
  | ((with_reducible refine o1_ix ?_); refine ⟨_, _, by first | rfl | assumption, by first | rfl | exact atI_zero, ?_⟩)
  | ((with_reducible refine o1_mul ?_ ?_); first | omega | decide | fail)
  | ((with_reducible refine o1_div ?_ ?_); first | omega | decide | fail)
  | ((with_reducible refine o1_mod ?_ ?_); first | omega | decide | fail)
  | ((with_reducible refine b1_divmod ?_ ?_); first | omega | decide | fail)
  | ((with_reducible refine t_tup ?_ ?_); rfl)
  | ((with_reducible refine r_callV ?_ ?_); rfl)
  | (with_reducible refine cs_dec (fun _ => ?_) (fun _ => ?_))
  | (with_reducible refine cs_beq (fun _ => ?_) (fun _ => ?_))
  | ((with_reducible refine cs_te ?_ ?_); rfl)
  | ((with_reducible refine cs_fe ?_ ?_); rfl)
  | ((with_reducible refine put0 (by assumption) ?_ fun _ => ?_); first | rfl | fail)
  | ((with_reducible refine put1 (by assumption) ?_ fun _ => ?_); first | rfl | fail)
  | ((with_reducible refine put2 (by assumption) ?_ fun _ => ?_); first | rfl | fail)
  | ((fail_if_success (with_reducible refine pst_id ?_)); first
    | exact take_same
    | (with_reducible refine fun (_ : Nat) (_ : Store) (_ : _ = _) (_ : _ = _) (_ : _ = _) => ?_)
    | ((fail_if_success (with_reducible refine And.intro ?_ ?_)); refine ⟨_, by first | rfl | assumption, ?_⟩)
    | ((fail_if_success (with_reducible refine And.intro ?_ ?_)); refine ⟨_, _, rfl, ?_⟩)
    | ((fail_if_success (with_reducible refine And.intro ?_ ?_)); refine ⟨_, _, by first | rfl | assumption, rfl, ?_⟩)
    | ((with_reducible refine And.intro ?_ ?_); first | exact rfl | omega | (simp only [List.length_map]; omega) | exact ⟨rfl, rfl⟩ | exact Nat.le_of_ble_eq_true rfl | fail)))
local macro_rules | `(tactic| done) => `(tactic| first
  | (with_reducible first | refine v0 ?_ | refine v1 ?_ | refine v2 ?_ | refine v3 ?_ | refine v4 ?_ | refine v5 ?_ | refine v6 ?_ | refine v7 ?_ | refine v8 ?_ | refine v9 ?_ | refine v10 ?_ | refine v11 ?_ | refine v12 ?_ | refine v13 ?_ | refine tn0 ?_ | refine tn1 ?_ | refine tn2 ?_ | refine tn3 ?_ | refine tn4 ?_ | refine tn5 ?_ | refine tn6 ?_ | refine tn7 ?_ | refine tn8 ?_ | refine tn9 ?_ | refine tn10 ?_ | refine tn11 ?_ | refine tn12 ?_ | refine tn13 ?_ | refine ss0 ?_ | refine ss1 ?_ | refine ss2 ?_ | refine ss3 ?_ | refine ss4 ?_ | refine ss5 ?_ | refine ss6 ?_ | refine ss7 ?_ | refine ss8 ?_ | refine ss9 ?_ | refine ss10 ?_ | refine ss11 ?_ | refine ss12 ?_ | refine ss13 ?_)
  | (with_reducible first | refine r_k ?_ | refine r_bin ?_ | refine r_cons ?_ | refine r_nil ?_ | refine r_call ?_ | refine r_blt ?_ | refine r_un ?_ | refine r_ok ?_ | refine s_seq ?_ | refine s_ret ?_ | refine s_if ?_ | refine s_expr ?_ | refine s_asg ?_ | refine s_par ?_ | refine s_nil ?_ | refine s_brk ?_ | refine s_ct ?_ | refine s_for ?_ | refine bool_t ?_ | refine bool_and ?_ | refine bool_or ?_ | refine bool_not ?_ | refine bool_yes ?_ | refine r_and ?_ | refine r_or ?_ | refine r_not ?_ | refine r_ife ?_ | refine r_chain ?_ | refine r_isi ?_ | refine r_lam ?_ | refine r_back ?_ | refine r_listR1 ?_ | refine r_callK ?_ | refine r_mt ?_ | refine r_alloc ?_ | refine r_sliceA ?_ | refine r_sliceL ?_ | refine r_no ?_ | refine r_part ?_ | refine r_scope ?_ | refine t_nil ?_ | refine t_cons ?_ | refine q_seq ?_ | refine q_range ?_ | refine q_range2 ?_ | refine q_rangeD ?_ | refine q_enumA ?_ | refine nx_nx ?_ | refine nx_ret ?_ | refine nx_exc ?_ | refine nx_brk ?_ | refine nx_ct ?_ | refine bl_bl ?_ | refine cs_not ?_ | refine cs_t ?_ | refine cs_f ?_ | refine r_bind ?_ | refine r_nox ?_ | refine t_sub ?_ | refine s_retL ?_ | refine o1_sub ?_ | refine o1_add ?_ | refine o1_lt ?_ | refine o1_le ?_ | refine o1_gt ?_ | refine o1_ge ?_ | refine o1_neg ?_ | refine o1_eq ?_ | refine o1_ne ?_ | refine b1_abs ?_ | refine b1_int ?_ | refine b1_min2 ?_ | refine b1_max2 ?_ | refine o1_eqA ?_ | refine o1_neA ?_ | refine o1_eqS ?_ | refine o1_isN ?_ | refine o1_notN ?_ | refine x_bl ?_ | refine x_int ?_ | refine x_str ?_ | refine x_non ?_ | refine x_nx ?_ | refine x_tup ?_ | refine x_lst ?_ | refine sl_tup ?_ | refine sl_lst ?_ | refine sl_fz ?_ | refine sL_lst ?_ | refine sL_fz ?_)
  | (with_reducible first | refine r_tup ?_ | refine r_lst ?_ | refine o1_addT ?_ | refine o1_addL ?_ | refine b1_len ?_ | refine b1_tuple ?_ | refine b1_list ?_ | refine o1_cat ?_ | refine m1_append ?_ | refine o_pow10_1 ?_ | refine o_pow10_2 ?_ | refine o_pow10_3 ?_ | refine o_pow10_4 ?_ | refine o_pow10_5 ?_ | refine o_pow10_6 ?_ | refine o_pow10_7 ?_ | refine o_pow10_8 ?_ | refine o_pow10_9 ?_ | refine o_pow10_10 ?_ | refine o_pow10_11 ?_ | refine o_pow10_12 ?_ | refine o_pow10_13 ?_ | refine o_pow10_14 ?_ | refine o_pow10_15 ?_ | refine o_pow10_16 ?_ | refine o_pow10_17 ?_ | refine o_pow10_18 ?_ | refine o_pow10_20 ?_ | refine o_pow10_30 ?_)
  | ((with_reducible refine o1_ix ?_); refine ⟨_, _, by first | rfl | assumption, by first | rfl | exact atI_zero, ?_⟩)
  | ((with_reducible refine o1_mul ?_ ?_); first | omega | decide | fail)
  | ((with_reducible refine o1_div ?_ ?_); first | omega | decide | fail)
  | ((with_reducible refine o1_mod ?_ ?_); first | omega | decide | fail)
  | ((with_reducible refine b1_divmod ?_ ?_); first | omega | decide | fail)
  | ((with_reducible refine t_tup ?_ ?_); rfl)
  | ((with_reducible refine r_callV ?_ ?_); rfl)
  | (with_reducible refine cs_dec (fun _ => ?_) (fun _ => ?_))
  | (with_reducible refine cs_beq (fun _ => ?_) (fun _ => ?_))
  | ((with_reducible refine cs_te ?_ ?_); rfl)
  | ((with_reducible refine cs_fe ?_ ?_); rfl)
  | ((with_reducible refine put0 (by assumption) ?_ fun _ => ?_); first | rfl | fail)
  | ((with_reducible refine put1 (by assumption) ?_ fun _ => ?_); first | rfl | fail)
  | ((with_reducible refine put2 (by assumption) ?_ fun _ => ?_); first | rfl | fail)
  | ((fail_if_success (with_reducible refine pst_id ?_)); first
    | exact take_same
    | (with_reducible refine fun (_ : Nat) (_ : Store) (_ : _ = _) (_ : _ = _) (_ : _ = _) => ?_)
    | ((fail_if_success (with_reducible refine And.intro ?_ ?_)); refine ⟨_, by first | rfl | assumption, ?_⟩)
    | ((fail_if_success (with_reducible refine And.intro ?_ ?_)); refine ⟨_, _, rfl, ?_⟩)
    | ((fail_if_success (with_reducible refine And.intro ?_ ?_)); refine ⟨_, _, by first | rfl | assumption, rfl, ?_⟩)
    | ((with_reducible refine And.intro ?_ ?_); first | exact rfl | omega | (simp only [List.length_map]; omega) | exact ⟨rfl, rfl⟩ | exact Nat.le_of_ble_eq_true rfl | fail))
  | ((fail_if_success (with_reducible refine pst_id ?_)); first | (with_reducible rfl) | assumption | contradiction))

theorem told_in {v : Int} (h : 0 ≤ v ∧ v ≤ 999) {S : Store} : F_is_told [.int v] S = some (.ok (.bl true), S) := by
  unfold F_is_told b_is_told
  refine call_eq rfl ?_
  dsimp only [startE, List.map, List.replicate, List.length, List.cons_append, List.nil_append, Nat.reduceAdd, Nat.reduceSub]
  repeat' trivial
  refine r_eq (num_in h) ?_
  repeat' trivial
theorem lam_in {v : Int} (h : 0 ≤ v ∧ v ≤ 999) {x : D} {S : Store} : F_lam_0 [.int v, x] S = some (.ok (.bl true), S) := by
  unfold F_lam_0 e_lam_0 lamF
  refine call_eq rfl ?_
  dsimp only [startE, List.map, List.replicate, List.length, List.cons_append, List.nil_append, Nat.reduceAdd, Nat.reduceSub]
  repeat' trivial
  refine r_eq (told_in h) ?_
  repeat' trivial
theorem wrong_at_in {m : Nat} {cs : List Int} (h : CeilOk m cs) {S : Store} : F_wrong_at_0 [tI cs, .int m, .fn lam_0] S = some (.ok (.lst []), S) := by
  have le := h.le
  unfold F_wrong_at_0 b_wrong_at_0
  refine call_eq rfl ?_
  dsimp only [startE, List.map, List.replicate, List.length, List.cons_append, List.nil_append, Nat.reduceAdd, Nat.reduceSub]
  repeat' trivial
  refine for_of (fun i ρ S' => ∃ x3 x4, ρ = [some (tI cs), some (.int m), some (.fn lam_0), x3, x4] ∧ S' = S) ⟨_, _, rfl, rfl⟩ (fun _ _ _ _ => rfl) ?_ ?_
  · rintro i d ρ S' hd ⟨x3, x4, rfl, rfl⟩
    rw [numb_get, List.getElem?_map, Option.map_map] at hd
    obtain ⟨v, hv, rfl⟩ := Option.map_eq_some_iff.mp hd
    have hi : i < cs.length := (List.getElem?_eq_some_iff.mp hv).1
    dsimp only [Function.comp]
    repeat' trivial
    refine r_eq (lam_in (h.ok v (List.mem_of_getElem? hv))) ?_
    repeat' trivial
  · rintro ρ S' ⟨x3, x4, rfl, rfl⟩
    repeat' trivial
theorem wrong_from_in {m : Nat} {cs : List Int} (h : CeilOk m cs) {S : Store} : F_wrong_from_one_0 [tI cs, .int m, .fn lam_0] S = some (.ok (.lst []), S) := by
  unfold F_wrong_from_one_0 b_wrong_from_one_0
  refine call_eq rfl ?_
  dsimp only [startE, List.map, List.replicate, List.length, List.cons_append, List.nil_append, Nat.reduceAdd, Nat.reduceSub]
  repeat' trivial
  refine r_eq (eqA_nilT ?_ ?_) ?_
  · have := h.l1
    cases cs with
    | nil => simp at this
    | cons c cs => simp
  · exact eqok_ints
  repeat' trivial
  refine r_eq (wrong_at_in h) ?_
  repeat' trivial
theorem check_ceilings_is {m : Nat} {cs : List Int} (h : CeilOk m cs) {S : Store} : F_check_ceilings [tI cs, .int m] S = some (.ok .non, S) := by
  unfold F_check_ceilings b_check_ceilings
  refine call_eq rfl ?_
  dsimp only [startE, List.map, List.replicate, List.length, List.cons_append, List.nil_append, Nat.reduceAdd, Nat.reduceSub]
  repeat' trivial
  refine r_eq (wrong_from_in h) ?_
  repeat' trivial
  refine r_eq neA_nil ?_
  repeat' trivial
end LW
set_option Elab.async false
set_option linter.all false
set_option maxRecDepth 100000
set_option maxHeartbeats 4000000
namespace LW
open PySem L2 Evl PySem.Spec PyProof.Rows PF
local macro_rules | `(tactic| trivial) => `(tactic| first
  | (with_reducible first | refine v0 ?_ | refine v1 ?_ | refine v2 ?_ | refine v3 ?_ | refine v4 ?_ | refine v5 ?_ | refine v6 ?_ | refine v7 ?_ | refine v8 ?_ | refine v9 ?_ | refine v10 ?_ | refine v11 ?_ | refine v12 ?_ | refine v13 ?_ | refine tn0 ?_ | refine tn1 ?_ | refine tn2 ?_ | refine tn3 ?_ | refine tn4 ?_ | refine tn5 ?_ | refine tn6 ?_ | refine tn7 ?_ | refine tn8 ?_ | refine tn9 ?_ | refine tn10 ?_ | refine tn11 ?_ | refine tn12 ?_ | refine tn13 ?_ | refine ss0 ?_ | refine ss1 ?_ | refine ss2 ?_ | refine ss3 ?_ | refine ss4 ?_ | refine ss5 ?_ | refine ss6 ?_ | refine ss7 ?_ | refine ss8 ?_ | refine ss9 ?_ | refine ss10 ?_ | refine ss11 ?_ | refine ss12 ?_ | refine ss13 ?_)
  | (with_reducible first | refine r_k ?_ | refine r_bin ?_ | refine r_cons ?_ | refine r_nil ?_ | refine r_call ?_ | refine r_blt ?_ | refine r_un ?_ | refine r_ok ?_ | refine s_seq ?_ | refine s_ret ?_ | refine s_if ?_ | refine s_expr ?_ | refine s_asg ?_ | refine s_par ?_ | refine s_nil ?_ | refine s_brk ?_ | refine s_ct ?_ | refine s_for ?_ | refine bool_t ?_ | refine bool_and ?_ | refine bool_or ?_ | refine bool_not ?_ | refine bool_yes ?_ | refine r_and ?_ | refine r_or ?_ | refine r_not ?_ | refine r_ife ?_ | refine r_chain ?_ | refine r_isi ?_ | refine r_lam ?_ | refine r_back ?_ | refine r_listR1 ?_ | refine r_callK ?_ | refine r_mt ?_ | refine r_alloc ?_ | refine r_sliceA ?_ | refine r_sliceL ?_ | refine r_no ?_ | refine r_part ?_ | refine r_scope ?_ | refine t_nil ?_ | refine t_cons ?_ | refine q_seq ?_ | refine q_range ?_ | refine q_range2 ?_ | refine q_rangeD ?_ | refine q_enumA ?_ | refine nx_nx ?_ | refine nx_ret ?_ | refine nx_exc ?_ | refine nx_brk ?_ | refine nx_ct ?_ | refine bl_bl ?_ | refine cs_not ?_ | refine cs_t ?_ | refine cs_f ?_ | refine r_bind ?_ | refine r_nox ?_ | refine t_sub ?_ | refine s_retL ?_ | refine o1_sub ?_ | refine o1_add ?_ | refine o1_lt ?_ | refine o1_le ?_ | refine o1_gt ?_ | refine o1_ge ?_ | refine o1_neg ?_ | refine o1_eq ?_ | refine o1_ne ?_ | refine b1_abs ?_ | refine b1_int ?_ | refine b1_min2 ?_ | refine b1_max2 ?_ | refine o1_eqA ?_ | refine o1_neA ?_ | refine o1_eqS ?_ | refine o1_isN ?_ | refine o1_notN ?_ | refine x_bl ?_ | refine x_int ?_ | refine x_str ?_ | refine x_non ?_ | refine x_nx ?_ | refine x_tup ?_ | refine x_lst ?_ | refine sl_tup ?_ | refine sl_lst ?_ | refine sl_fz ?_ | refine sL_lst ?_ | refine sL_fz ?_)
  | (with_reducible first | refine r_tup ?_ | refine r_lst ?_ | refine o1_addT ?_ | refine o1_addL ?_ | refine b1_len ?_ | refine b1_tuple ?_ | refine b1_list ?_ | refine o1_cat ?_ | refine m1_append ?_ | refine o_pow10_1 ?_ | refine o_pow10_2 ?_ | refine o_pow10_3 ?_ | refine o_pow10_4 ?_ | refine o_pow10_5 ?_ | refine o_pow10_6 ?_ | refine o_pow10_7 ?_ | refine o_pow10_8 ?_ | refine o_pow10_9 ?_ | refine o_pow10_10 ?_ | refine o_pow10_11 ?_ | refine o_pow10_12 ?_ | refine o_pow10_13 ?_ | refine o_pow10_14 ?_ | refine o_pow10_15 ?_ | refine o_pow10_16 ?_ | refine o_pow10_17 ?_ | refine o_pow10_18 ?_ | refine o_pow10_20 ?_ | refine o_pow10_30 ?_)
  | ((with_reducible refine o1_ix ?_); refine ⟨_, _, by first | rfl | assumption, by first | rfl | exact atI_zero, ?_⟩)
  | ((with_reducible refine o1_mul ?_ ?_); first | omega | decide | fail)
  | ((with_reducible refine o1_div ?_ ?_); first | omega | decide | fail)
  | ((with_reducible refine o1_mod ?_ ?_); first | omega | decide | fail)
  | ((with_reducible refine b1_divmod ?_ ?_); first | omega | decide | fail)
  | ((with_reducible refine t_tup ?_ ?_); rfl)
  | ((with_reducible refine r_callV ?_ ?_); rfl)
  | (with_reducible refine cs_dec (fun _ => ?_) (fun _ => ?_))
  | (with_reducible refine cs_beq (fun _ => ?_) (fun _ => ?_))
  | ((with_reducible refine cs_te ?_ ?_); rfl)
  | ((with_reducible refine cs_fe ?_ ?_); rfl)
  | ((with_reducible refine put0 (by assumption) ?_ fun _ => ?_); first | rfl | fail)
  | ((with_reducible refine put1 (by assumption) ?_ fun _ => ?_); first | rfl | fail)
  | ((with_reducible refine put2 (by assumption) ?_ fun _ => ?_); first | rfl | fail)
  | ((fail_if_success (with_reducible refine pst_id ?_)); first
    | exact take_same
    | (with_reducible refine fun (_ : Nat) (_ : Store) (_ : _ = _) (_ : _ = _) (_ : _ = _) => ?_)
    | ((fail_if_success (with_reducible refine And.intro ?_ ?_)); refine ⟨_, by first | rfl | assumption, ?_⟩)
    | ((fail_if_success (with_reducible refine And.intro ?_ ?_)); refine ⟨_, _, rfl, ?_⟩)
    | ((fail_if_success (with_reducible refine And.intro ?_ ?_)); refine ⟨_, _, by first | rfl | assumption, rfl, ?_⟩)
    | ((with_reducible refine And.intro ?_ ?_); first | exact rfl | omega | (simp only [List.length_map]; omega) | exact ⟨rfl, rfl⟩ | exact Nat.le_of_ble_eq_true rfl | fail)))
local macro_rules | `(tactic| done) => `(tactic| first
  | (with_reducible first | refine v0 ?_ | refine v1 ?_ | refine v2 ?_ | refine v3 ?_ | refine v4 ?_ | refine v5 ?_ | refine v6 ?_ | refine v7 ?_ | refine v8 ?_ | refine v9 ?_ | refine v10 ?_ | refine v11 ?_ | refine v12 ?_ | refine v13 ?_ | refine tn0 ?_ | refine tn1 ?_ | refine tn2 ?_ | refine tn3 ?_ | refine tn4 ?_ | refine tn5 ?_ | refine tn6 ?_ | refine tn7 ?_ | refine tn8 ?_ | refine tn9 ?_ | refine tn10 ?_ | refine tn11 ?_ | refine tn12 ?_ | refine tn13 ?_ | refine ss0 ?_ | refine ss1 ?_ | refine ss2 ?_ | refine ss3 ?_ | refine ss4 ?_ | refine ss5 ?_ | refine ss6 ?_ | refine ss7 ?_ | refine ss8 ?_ | refine ss9 ?_ | refine ss10 ?_ | refine ss11 ?_ | refine ss12 ?_ | refine ss13 ?_)
  | (with_reducible first | refine r_k ?_ | refine r_bin ?_ | refine r_cons ?_ | refine r_nil ?_ | refine r_call ?_ | refine r_blt ?_ | refine r_un ?_ | refine r_ok ?_ | refine s_seq ?_ | refine s_ret ?_ | refine s_if ?_ | refine s_expr ?_ | refine s_asg ?_ | refine s_par ?_ | refine s_nil ?_ | refine s_brk ?_ | refine s_ct ?_ | refine s_for ?_ | refine bool_t ?_ | refine bool_and ?_ | refine bool_or ?_ | refine bool_not ?_ | refine bool_yes ?_ | refine r_and ?_ | refine r_or ?_ | refine r_not ?_ | refine r_ife ?_ | refine r_chain ?_ | refine r_isi ?_ | refine r_lam ?_ | refine r_back ?_ | refine r_listR1 ?_ | refine r_callK ?_ | refine r_mt ?_ | refine r_alloc ?_ | refine r_sliceA ?_ | refine r_sliceL ?_ | refine r_no ?_ | refine r_part ?_ | refine r_scope ?_ | refine t_nil ?_ | refine t_cons ?_ | refine q_seq ?_ | refine q_range ?_ | refine q_range2 ?_ | refine q_rangeD ?_ | refine q_enumA ?_ | refine nx_nx ?_ | refine nx_ret ?_ | refine nx_exc ?_ | refine nx_brk ?_ | refine nx_ct ?_ | refine bl_bl ?_ | refine cs_not ?_ | refine cs_t ?_ | refine cs_f ?_ | refine r_bind ?_ | refine r_nox ?_ | refine t_sub ?_ | refine s_retL ?_ | refine o1_sub ?_ | refine o1_add ?_ | refine o1_lt ?_ | refine o1_le ?_ | refine o1_gt ?_ | refine o1_ge ?_ | refine o1_neg ?_ | refine o1_eq ?_ | refine o1_ne ?_ | refine b1_abs ?_ | refine b1_int ?_ | refine b1_min2 ?_ | refine b1_max2 ?_ | refine o1_eqA ?_ | refine o1_neA ?_ | refine o1_eqS ?_ | refine o1_isN ?_ | refine o1_notN ?_ | refine x_bl ?_ | refine x_int ?_ | refine x_str ?_ | refine x_non ?_ | refine x_nx ?_ | refine x_tup ?_ | refine x_lst ?_ | refine sl_tup ?_ | refine sl_lst ?_ | refine sl_fz ?_ | refine sL_lst ?_ | refine sL_fz ?_)
  | (with_reducible first | refine r_tup ?_ | refine r_lst ?_ | refine o1_addT ?_ | refine o1_addL ?_ | refine b1_len ?_ | refine b1_tuple ?_ | refine b1_list ?_ | refine o1_cat ?_ | refine m1_append ?_ | refine o_pow10_1 ?_ | refine o_pow10_2 ?_ | refine o_pow10_3 ?_ | refine o_pow10_4 ?_ | refine o_pow10_5 ?_ | refine o_pow10_6 ?_ | refine o_pow10_7 ?_ | refine o_pow10_8 ?_ | refine o_pow10_9 ?_ | refine o_pow10_10 ?_ | refine o_pow10_11 ?_ | refine o_pow10_12 ?_ | refine o_pow10_13 ?_ | refine o_pow10_14 ?_ | refine o_pow10_15 ?_ | refine o_pow10_16 ?_ | refine o_pow10_17 ?_ | refine o_pow10_18 ?_ | refine o_pow10_20 ?_ | refine o_pow10_30 ?_)
  | ((with_reducible refine o1_ix ?_); refine ⟨_, _, by first | rfl | assumption, by first | rfl | exact atI_zero, ?_⟩)
  | ((with_reducible refine o1_mul ?_ ?_); first | omega | decide | fail)
  | ((with_reducible refine o1_div ?_ ?_); first | omega | decide | fail)
  | ((with_reducible refine o1_mod ?_ ?_); first | omega | decide | fail)
  | ((with_reducible refine b1_divmod ?_ ?_); first | omega | decide | fail)
  | ((with_reducible refine t_tup ?_ ?_); rfl)
  | ((with_reducible refine r_callV ?_ ?_); rfl)
  | (with_reducible refine cs_dec (fun _ => ?_) (fun _ => ?_))
  | (with_reducible refine cs_beq (fun _ => ?_) (fun _ => ?_))
  | ((with_reducible refine cs_te ?_ ?_); rfl)
  | ((with_reducible refine cs_fe ?_ ?_); rfl)
  | ((with_reducible refine put0 (by assumption) ?_ fun _ => ?_); first | rfl | fail)
  | ((with_reducible refine put1 (by assumption) ?_ fun _ => ?_); first | rfl | fail)
  | ((with_reducible refine put2 (by assumption) ?_ fun _ => ?_); first | rfl | fail)
  | ((fail_if_success (with_reducible refine pst_id ?_)); first
    | exact take_same
    | (with_reducible refine fun (_ : Nat) (_ : Store) (_ : _ = _) (_ : _ = _) (_ : _ = _) => ?_)
    | ((fail_if_success (with_reducible refine And.intro ?_ ?_)); refine ⟨_, by first | rfl | assumption, ?_⟩)
    | ((fail_if_success (with_reducible refine And.intro ?_ ?_)); refine ⟨_, _, rfl, ?_⟩)
    | ((fail_if_success (with_reducible refine And.intro ?_ ?_)); refine ⟨_, _, by first | rfl | assumption, rfl, ?_⟩)
    | ((with_reducible refine And.intro ?_ ?_); first | exact rfl | omega | (simp only [List.length_map]; omega) | exact ⟨rfl, rfl⟩ | exact Nat.le_of_ble_eq_true rfl | fail))
  | ((fail_if_success (with_reducible refine pst_id ?_)); first | (with_reducible rfl) | assumption | contradiction))

theorem check_shared_is {t cs : List Int} (ht : TabOk t) (h : CeilOk t.length cs) {S : Store} : F_check_shared [tI t, tI cs] S = some (.ok .non, S) := by
  unfold F_check_shared b_check_shared
  refine call_eq rfl ?_
  dsimp only [startE, List.map, List.replicate, List.length, List.cons_append, List.nil_append, Nat.reduceAdd, Nat.reduceSub]
  repeat' trivial
  refine r_eq (check_table_is ht) ?_
  repeat' trivial
  rw [List.length_map]
  refine r_eq (check_ceilings_is h) ?_
  repeat' trivial
theorem staying_eq {t cs : List Int} {l : List Nat} {n : Nat} (hn : cs.length ≤ n ∧ n ≤ 1000) (hl : l.length ≤ t.length) (h : ∀ k ∈ l, k < cs.length) (hl2 : l.length ≤ 1000) {S : Store} :
    F_staying [.lst (List.replicate n (tI t)), tI cs, .lst (l.map nD)] S = some (.ok (.lst ((stepL t cs l).map nD)), S) := by
  unfold F_staying b_staying
  refine call_eq rfl ?_
  dsimp only [startE, List.map, List.replicate, List.length, List.cons_append, List.nil_append, Nat.reduceAdd, Nat.reduceSub]
  repeat' trivial
  refine r_eq (comp_pure (so := .items (l.map nD)) (ds := l.map nD) (fun d => if okL (t.getD (l.length - 1) 0) cs (natD d) = true then some d else none) rfl rfl (fun _ => rfl) ?_ ?_) ?_
  · rw [List.length_map]; show _ ≤ 1000000; omega
  · intro d hd acc
    obtain ⟨k, hk, rfl⟩ := List.mem_map.mp hd
    have hkc := h k hk
    have hlp : 0 < l.length := List.length_pos_of_mem hk
    dsimp only [wipeE, List.set, nD]
    repeat' trivial
    refine ix_int (ns := cs) rfl (by omega) ?_
    refine r_bin ?_
    refine r_bin ?_
    repeat' trivial
    refine o1_ix ⟨_, _, rfl, (atI_nat _ (by omega)).trans (List.getElem?_replicate_of_lt (by omega)), ?_⟩
    repeat' trivial
    rw [List.length_map]
    refine ix_int (ns := t) rfl (by omega) ?_
    repeat' trivial
    have e1 : ((l.length : Int) - 1).toNat = l.length - 1 := by omega
    have e2 : natD (.int (k : Int)) = k := Int.toNat_natCast k
    rw [e1, Int.toNat_natCast]
    have e3 : okL (t.getD (l.length - 1) 0) cs (natD (.int (k : Int))) = decide (t.getD (l.length - 1) 0 ≤ cs.getD k 0) := by rw [e2]; rfl
    refine ⟨fun hb => ?_, fun hb => ?_⟩
    · refine v3 ?_
      exact ⟨rfl, rfl, if_pos (e3.trans hb)⟩
    · exact ⟨rfl, if_neg (by rw [e3, hb]; decide)⟩
  · rw [filterMap_nD (p := okL (t.getD (l.length - 1) 0) cs) (fun k hk => by
      have e2 : natD (nD k) = k := Int.toNat_natCast k
      rw [e2])]
    refine x_lst ⟨pures_nD, rfl, take_same⟩
theorem left_of_eq {t cs : List Int} {n : Nat} (hn : cs.length ≤ n ∧ n ≤ 1000) (hl : cs.length ≤ t.length) {S : Store} :
    F_left_of [.lst (List.replicate n (tI t)), tI cs] S = some (.ok (.lst ((leftL t cs).map nD)), S) := by
  unfold F_left_of b_left_of
  refine call_eq rfl ?_
  dsimp only [startE, List.map, List.replicate, List.length, List.cons_append, List.nil_append, Nat.reduceAdd, Nat.reduceSub]
  repeat' trivial
  rw [List.length_map, Int.toNat_natCast, ranged_nD]
  repeat' trivial
  refine r_eq (staying_eq hn (by simpa using hl) (fun k hk => List.mem_range.mp hk) (by simp; omega)) ?_
  repeat' trivial
  refine while_inv (fun f ρ S' => ∃ l, ρ = [some (.lst (List.replicate n (tI t))), some (tI cs), some (.lst (l.map nD)), some (.lst ((stepL t cs l).map nD))] ∧ List.Sublist l (List.range cs.length) ∧ l.length ≤ f ∧ turnsL t cs f l = leftL t cs ∧ S' = S) ?_ _ cs.length _ _ (show cs.length < 100000 by omega) ⟨_, rfl, List.Sublist.refl _, by simp, rfl, rfl⟩
  rintro f ρ S' ⟨l, rfl, hs, hf, he, rfl⟩
  have hlen := hs.length_le
  rw [List.length_range] at hlen
  repeat' trivial
  refine ⟨fun hb => ?_, fun hb => ?_⟩
  · have hb : (stepL t cs l).length < l.length := by simpa using hb
    match f, hf, he with
    | 0, hf, he => omega
    | f + 1, hf, he =>
    have hsub : List.Sublist (stepL t cs l) (List.range cs.length) := List.Sublist.trans List.filter_sublist hs
    refine ⟨f, rfl, ?_⟩
    repeat' trivial
    refine r_eq (staying_eq hn (by omega) (fun k hk => List.mem_range.mp (hsub.subset hk)) (by omega)) ?_
    repeat' trivial
    rw [← he]
    refine ⟨?_, rfl⟩
    conv => rhs; unfold turnsL
    rw [if_pos hb]
  · have hb : ¬ (stepL t cs l).length < l.length := by simpa using hb
    have e : l = leftL t cs := by
      rw [← he]
      cases f with
      | zero => rfl
      | succ f => unfold turnsL; rw [if_neg hb]
    rw [← e]
    repeat' trivial
    exact ⟨pures_nD, rfl, take_same⟩
theorem price_of_eq {t : List Int} {l : List Nat} (hl : l.length ≤ t.length) {S : Store} : F_price_of [tI t, .lst (l.map nD)] S = some (.ok (priceD t l), S) := by
  unfold F_price_of b_price_of
  refine call_eq rfl ?_
  dsimp only [startE, List.map, List.replicate, List.length, List.cons_append, List.nil_append, Nat.reduceAdd, Nat.reduceSub]
  repeat' trivial
  refine r_eq neA_nilL ?_
  unfold priceD
  cases l with
  | nil => repeat' trivial
  | cons k l =>
    rw [if_neg (by simp)]
    repeat' trivial
    rw [List.length_map]
    refine ix_int (ns := t) rfl (by simp only [List.length_cons] at hl ⊢; omega) ?_
    repeat' trivial
    refine ⟨?_, take_same⟩
    congr 2
    simp
end LW
set_option Elab.async false
set_option linter.all false
set_option maxRecDepth 100000
set_option maxHeartbeats 4000000
namespace LW
open PySem L2 Evl PySem.Spec PyProof.Rows PF
local macro_rules | `(tactic| trivial) => `(tactic| first
  | (with_reducible first | refine v0 ?_ | refine v1 ?_ | refine v2 ?_ | refine v3 ?_ | refine v4 ?_ | refine v5 ?_ | refine v6 ?_ | refine v7 ?_ | refine v8 ?_ | refine v9 ?_ | refine v10 ?_ | refine v11 ?_ | refine v12 ?_ | refine v13 ?_ | refine tn0 ?_ | refine tn1 ?_ | refine tn2 ?_ | refine tn3 ?_ | refine tn4 ?_ | refine tn5 ?_ | refine tn6 ?_ | refine tn7 ?_ | refine tn8 ?_ | refine tn9 ?_ | refine tn10 ?_ | refine tn11 ?_ | refine tn12 ?_ | refine tn13 ?_ | refine ss0 ?_ | refine ss1 ?_ | refine ss2 ?_ | refine ss3 ?_ | refine ss4 ?_ | refine ss5 ?_ | refine ss6 ?_ | refine ss7 ?_ | refine ss8 ?_ | refine ss9 ?_ | refine ss10 ?_ | refine ss11 ?_ | refine ss12 ?_ | refine ss13 ?_)
  | (with_reducible first | refine r_k ?_ | refine r_bin ?_ | refine r_cons ?_ | refine r_nil ?_ | refine r_call ?_ | refine r_blt ?_ | refine r_un ?_ | refine r_ok ?_ | refine s_seq ?_ | refine s_ret ?_ | refine s_if ?_ | refine s_expr ?_ | refine s_asg ?_ | refine s_par ?_ | refine s_nil ?_ | refine s_brk ?_ | refine s_ct ?_ | refine s_for ?_ | refine bool_t ?_ | refine bool_and ?_ | refine bool_or ?_ | refine bool_not ?_ | refine bool_yes ?_ | refine r_and ?_ | refine r_or ?_ | refine r_not ?_ | refine r_ife ?_ | refine r_chain ?_ | refine r_isi ?_ | refine r_lam ?_ | refine r_back ?_ | refine r_listR1 ?_ | refine r_callK ?_ | refine r_mt ?_ | refine r_alloc ?_ | refine r_sliceA ?_ | refine r_sliceL ?_ | refine r_no ?_ | refine r_part ?_ | refine r_scope ?_ | refine t_nil ?_ | refine t_cons ?_ | refine q_seq ?_ | refine q_range ?_ | refine q_range2 ?_ | refine q_rangeD ?_ | refine q_enumA ?_ | refine nx_nx ?_ | refine nx_ret ?_ | refine nx_exc ?_ | refine nx_brk ?_ | refine nx_ct ?_ | refine bl_bl ?_ | refine cs_not ?_ | refine cs_t ?_ | refine cs_f ?_ | refine r_bind ?_ | refine r_nox ?_ | refine t_sub ?_ | refine s_retL ?_ | refine o1_sub ?_ | refine o1_add ?_ | refine o1_lt ?_ | refine o1_le ?_ | refine o1_gt ?_ | refine o1_ge ?_ | refine o1_neg ?_ | refine o1_eq ?_ | refine o1_ne ?_ | refine b1_abs ?_ | refine b1_int ?_ | refine b1_min2 ?_ | refine b1_max2 ?_ | refine o1_eqA ?_ | refine o1_neA ?_ | refine o1_eqS ?_ | refine o1_isN ?_ | refine o1_notN ?_ | refine x_bl ?_ | refine x_int ?_ | refine x_str ?_ | refine x_non ?_ | refine x_nx ?_ | refine x_tup ?_ | refine x_lst ?_ | refine sl_tup ?_ | refine sl_lst ?_ | refine sl_fz ?_ | refine sL_lst ?_ | refine sL_fz ?_)
  | (with_reducible first | refine r_tup ?_ | refine r_lst ?_ | refine o1_addT ?_ | refine o1_addL ?_ | refine b1_len ?_ | refine b1_tuple ?_ | refine b1_list ?_ | refine o1_cat ?_ | refine m1_append ?_ | refine o_pow10_1 ?_ | refine o_pow10_2 ?_ | refine o_pow10_3 ?_ | refine o_pow10_4 ?_ | refine o_pow10_5 ?_ | refine o_pow10_6 ?_ | refine o_pow10_7 ?_ | refine o_pow10_8 ?_ | refine o_pow10_9 ?_ | refine o_pow10_10 ?_ | refine o_pow10_11 ?_ | refine o_pow10_12 ?_ | refine o_pow10_13 ?_ | refine o_pow10_14 ?_ | refine o_pow10_15 ?_ | refine o_pow10_16 ?_ | refine o_pow10_17 ?_ | refine o_pow10_18 ?_ | refine o_pow10_20 ?_ | refine o_pow10_30 ?_)
  | ((with_reducible refine o1_ix ?_); refine ⟨_, _, by first | rfl | assumption, by first | rfl | exact atI_zero, ?_⟩)
  | ((with_reducible refine o1_mul ?_ ?_); first | omega | decide | fail)
  | ((with_reducible refine o1_div ?_ ?_); first | omega | decide | fail)
  | ((with_reducible refine o1_mod ?_ ?_); first | omega | decide | fail)
  | ((with_reducible refine b1_divmod ?_ ?_); first | omega | decide | fail)
  | ((with_reducible refine t_tup ?_ ?_); rfl)
  | ((with_reducible refine r_callV ?_ ?_); rfl)
  | (with_reducible refine cs_dec (fun _ => ?_) (fun _ => ?_))
  | (with_reducible refine cs_beq (fun _ => ?_) (fun _ => ?_))
  | ((with_reducible refine cs_te ?_ ?_); rfl)
  | ((with_reducible refine cs_fe ?_ ?_); rfl)
  | ((with_reducible refine put0 (by assumption) ?_ fun _ => ?_); first | rfl | fail)
  | ((with_reducible refine put1 (by assumption) ?_ fun _ => ?_); first | rfl | fail)
  | ((with_reducible refine put2 (by assumption) ?_ fun _ => ?_); first | rfl | fail)
  | ((fail_if_success (with_reducible refine pst_id ?_)); first
    | exact take_same
    | (with_reducible refine fun (_ : Nat) (_ : Store) (_ : _ = _) (_ : _ = _) (_ : _ = _) => ?_)
    | ((fail_if_success (with_reducible refine And.intro ?_ ?_)); refine ⟨_, by first | rfl | assumption, ?_⟩)
    | ((fail_if_success (with_reducible refine And.intro ?_ ?_)); refine ⟨_, _, rfl, ?_⟩)
    | ((fail_if_success (with_reducible refine And.intro ?_ ?_)); refine ⟨_, _, by first | rfl | assumption, rfl, ?_⟩)
    | ((with_reducible refine And.intro ?_ ?_); first | exact rfl | omega | (simp only [List.length_map]; omega) | exact ⟨rfl, rfl⟩ | exact Nat.le_of_ble_eq_true rfl | fail)))
local macro_rules | `(tactic| done) => `(tactic| first
  | (with_reducible first | refine v0 ?_ | refine v1 ?_ | refine v2 ?_ | refine v3 ?_ | refine v4 ?_ | refine v5 ?_ | refine v6 ?_ | refine v7 ?_ | refine v8 ?_ | refine v9 ?_ | refine v10 ?_ | refine v11 ?_ | refine v12 ?_ | refine v13 ?_ | refine tn0 ?_ | refine tn1 ?_ | refine tn2 ?_ | refine tn3 ?_ | refine tn4 ?_ | refine tn5 ?_ | refine tn6 ?_ | refine tn7 ?_ | refine tn8 ?_ | refine tn9 ?_ | refine tn10 ?_ | refine tn11 ?_ | refine tn12 ?_ | refine tn13 ?_ | refine ss0 ?_ | refine ss1 ?_ | refine ss2 ?_ | refine ss3 ?_ | refine ss4 ?_ | refine ss5 ?_ | refine ss6 ?_ | refine ss7 ?_ | refine ss8 ?_ | refine ss9 ?_ | refine ss10 ?_ | refine ss11 ?_ | refine ss12 ?_ | refine ss13 ?_)
  | (with_reducible first | refine r_k ?_ | refine r_bin ?_ | refine r_cons ?_ | refine r_nil ?_ | refine r_call ?_ | refine r_blt ?_ | refine r_un ?_ | refine r_ok ?_ | refine s_seq ?_ | refine s_ret ?_ | refine s_if ?_ | refine s_expr ?_ | refine s_asg ?_ | refine s_par ?_ | refine s_nil ?_ | refine s_brk ?_ | refine s_ct ?_ | refine s_for ?_ | refine bool_t ?_ | refine bool_and ?_ | refine bool_or ?_ | refine bool_not ?_ | refine bool_yes ?_ | refine r_and ?_ | refine r_or ?_ | refine r_not ?_ | refine r_ife ?_ | refine r_chain ?_ | refine r_isi ?_ | refine r_lam ?_ | refine r_back ?_ | refine r_listR1 ?_ | refine r_callK ?_ | refine r_mt ?_ | refine r_alloc ?_ | refine r_sliceA ?_ | refine r_sliceL ?_ | refine r_no ?_ | refine r_part ?_ | refine r_scope ?_ | refine t_nil ?_ | refine t_cons ?_ | refine q_seq ?_ | refine q_range ?_ | refine q_range2 ?_ | refine q_rangeD ?_ | refine q_enumA ?_ | refine nx_nx ?_ | refine nx_ret ?_ | refine nx_exc ?_ | refine nx_brk ?_ | refine nx_ct ?_ | refine bl_bl ?_ | refine cs_not ?_ | refine cs_t ?_ | refine cs_f ?_ | refine r_bind ?_ | refine r_nox ?_ | refine t_sub ?_ | refine s_retL ?_ | refine o1_sub ?_ | refine o1_add ?_ | refine o1_lt ?_ | refine o1_le ?_ | refine o1_gt ?_ | refine o1_ge ?_ | refine o1_neg ?_ | refine o1_eq ?_ | refine o1_ne ?_ | refine b1_abs ?_ | refine b1_int ?_ | refine b1_min2 ?_ | refine b1_max2 ?_ | refine o1_eqA ?_ | refine o1_neA ?_ | refine o1_eqS ?_ | refine o1_isN ?_ | refine o1_notN ?_ | refine x_bl ?_ | refine x_int ?_ | refine x_str ?_ | refine x_non ?_ | refine x_nx ?_ | refine x_tup ?_ | refine x_lst ?_ | refine sl_tup ?_ | refine sl_lst ?_ | refine sl_fz ?_ | refine sL_lst ?_ | refine sL_fz ?_)
  | (with_reducible first | refine r_tup ?_ | refine r_lst ?_ | refine o1_addT ?_ | refine o1_addL ?_ | refine b1_len ?_ | refine b1_tuple ?_ | refine b1_list ?_ | refine o1_cat ?_ | refine m1_append ?_ | refine o_pow10_1 ?_ | refine o_pow10_2 ?_ | refine o_pow10_3 ?_ | refine o_pow10_4 ?_ | refine o_pow10_5 ?_ | refine o_pow10_6 ?_ | refine o_pow10_7 ?_ | refine o_pow10_8 ?_ | refine o_pow10_9 ?_ | refine o_pow10_10 ?_ | refine o_pow10_11 ?_ | refine o_pow10_12 ?_ | refine o_pow10_13 ?_ | refine o_pow10_14 ?_ | refine o_pow10_15 ?_ | refine o_pow10_16 ?_ | refine o_pow10_17 ?_ | refine o_pow10_18 ?_ | refine o_pow10_20 ?_ | refine o_pow10_30 ?_)
  | ((with_reducible refine o1_ix ?_); refine ⟨_, _, by first | rfl | assumption, by first | rfl | exact atI_zero, ?_⟩)
  | ((with_reducible refine o1_mul ?_ ?_); first | omega | decide | fail)
  | ((with_reducible refine o1_div ?_ ?_); first | omega | decide | fail)
  | ((with_reducible refine o1_mod ?_ ?_); first | omega | decide | fail)
  | ((with_reducible refine b1_divmod ?_ ?_); first | omega | decide | fail)
  | ((with_reducible refine t_tup ?_ ?_); rfl)
  | ((with_reducible refine r_callV ?_ ?_); rfl)
  | (with_reducible refine cs_dec (fun _ => ?_) (fun _ => ?_))
  | (with_reducible refine cs_beq (fun _ => ?_) (fun _ => ?_))
  | ((with_reducible refine cs_te ?_ ?_); rfl)
  | ((with_reducible refine cs_fe ?_ ?_); rfl)
  | ((with_reducible refine put0 (by assumption) ?_ fun _ => ?_); first | rfl | fail)
  | ((with_reducible refine put1 (by assumption) ?_ fun _ => ?_); first | rfl | fail)
  | ((with_reducible refine put2 (by assumption) ?_ fun _ => ?_); first | rfl | fail)
  | ((fail_if_success (with_reducible refine pst_id ?_)); first
    | exact take_same
    | (with_reducible refine fun (_ : Nat) (_ : Store) (_ : _ = _) (_ : _ = _) (_ : _ = _) => ?_)
    | ((fail_if_success (with_reducible refine And.intro ?_ ?_)); refine ⟨_, by first | rfl | assumption, ?_⟩)
    | ((fail_if_success (with_reducible refine And.intro ?_ ?_)); refine ⟨_, _, rfl, ?_⟩)
    | ((fail_if_success (with_reducible refine And.intro ?_ ?_)); refine ⟨_, _, by first | rfl | assumption, rfl, ?_⟩)
    | ((with_reducible refine And.intro ?_ ?_); first | exact rfl | omega | (simp only [List.length_map]; omega) | exact ⟨rfl, rfl⟩ | exact Nat.le_of_ble_eq_true rfl | fail))
  | ((fail_if_success (with_reducible refine pst_id ?_)); first | (with_reducible rfl) | assumption | contradiction))

theorem share_eq {t cs : List Int} (ht : TabOk t) (h : CeilOk t.length cs) {S : Store} : F_share [tI t, tI cs] S = some (.ok (shareD t cs), S) := by
  have l24 := ht.l24
  have le := h.le
  unfold F_share b_share
  refine call_eq rfl ?_
  dsimp only [startE, List.map, List.replicate, List.length, List.cons_append, List.nil_append, Nat.reduceAdd, Nat.reduceSub]
  repeat' trivial
  refine r_eq (check_shared_is ht h) ?_
  repeat' trivial
  rw [List.length_map]
  refine r_eq (o_rep1 (by omega)) ?_
  repeat' trivial
  refine r_eq (left_of_eq ⟨Nat.le_refl _, by omega⟩ le) ?_
  repeat' trivial
  refine r_eq (price_of_eq (Nat.le_trans (leftL_len t cs) le)) ?_
  repeat' trivial
  refine ⟨?_, rfl, take_same⟩
  rw [D.pures, D.pures, D.pures, D.pure, pures_nD, price_pure]
  rfl
end LW
set_option Elab.async false
set_option linter.all false
set_option maxRecDepth 100000
set_option maxHeartbeats 4000000
namespace LW
open PySem L2 Evl PySem.Spec PyProof.Rows PF
local macro_rules | `(tactic| trivial) => `(tactic| first
  | (with_reducible first | refine v0 ?_ | refine v1 ?_ | refine v2 ?_ | refine v3 ?_ | refine v4 ?_ | refine v5 ?_ | refine v6 ?_ | refine v7 ?_ | refine v8 ?_ | refine v9 ?_ | refine v10 ?_ | refine v11 ?_ | refine v12 ?_ | refine v13 ?_ | refine tn0 ?_ | refine tn1 ?_ | refine tn2 ?_ | refine tn3 ?_ | refine tn4 ?_ | refine tn5 ?_ | refine tn6 ?_ | refine tn7 ?_ | refine tn8 ?_ | refine tn9 ?_ | refine tn10 ?_ | refine tn11 ?_ | refine tn12 ?_ | refine tn13 ?_ | refine ss0 ?_ | refine ss1 ?_ | refine ss2 ?_ | refine ss3 ?_ | refine ss4 ?_ | refine ss5 ?_ | refine ss6 ?_ | refine ss7 ?_ | refine ss8 ?_ | refine ss9 ?_ | refine ss10 ?_ | refine ss11 ?_ | refine ss12 ?_ | refine ss13 ?_)
  | (with_reducible first | refine r_k ?_ | refine r_bin ?_ | refine r_cons ?_ | refine r_nil ?_ | refine r_call ?_ | refine r_blt ?_ | refine r_un ?_ | refine r_ok ?_ | refine s_seq ?_ | refine s_ret ?_ | refine s_if ?_ | refine s_expr ?_ | refine s_asg ?_ | refine s_par ?_ | refine s_nil ?_ | refine s_brk ?_ | refine s_ct ?_ | refine s_for ?_ | refine bool_t ?_ | refine bool_and ?_ | refine bool_or ?_ | refine bool_not ?_ | refine bool_yes ?_ | refine r_and ?_ | refine r_or ?_ | refine r_not ?_ | refine r_ife ?_ | refine r_chain ?_ | refine r_isi ?_ | refine r_lam ?_ | refine r_back ?_ | refine r_listR1 ?_ | refine r_callK ?_ | refine r_mt ?_ | refine r_alloc ?_ | refine r_sliceA ?_ | refine r_sliceL ?_ | refine r_no ?_ | refine r_part ?_ | refine r_scope ?_ | refine t_nil ?_ | refine t_cons ?_ | refine q_seq ?_ | refine q_range ?_ | refine q_range2 ?_ | refine q_rangeD ?_ | refine q_enumA ?_ | refine nx_nx ?_ | refine nx_ret ?_ | refine nx_exc ?_ | refine nx_brk ?_ | refine nx_ct ?_ | refine bl_bl ?_ | refine cs_not ?_ | refine cs_t ?_ | refine cs_f ?_ | refine r_bind ?_ | refine r_nox ?_ | refine t_sub ?_ | refine s_retL ?_ | refine o1_sub ?_ | refine o1_add ?_ | refine o1_lt ?_ | refine o1_le ?_ | refine o1_gt ?_ | refine o1_ge ?_ | refine o1_neg ?_ | refine o1_eq ?_ | refine o1_ne ?_ | refine b1_abs ?_ | refine b1_int ?_ | refine b1_min2 ?_ | refine b1_max2 ?_ | refine o1_eqA ?_ | refine o1_neA ?_ | refine o1_eqS ?_ | refine o1_isN ?_ | refine o1_notN ?_ | refine x_bl ?_ | refine x_int ?_ | refine x_str ?_ | refine x_non ?_ | refine x_nx ?_ | refine x_tup ?_ | refine x_lst ?_ | refine sl_tup ?_ | refine sl_lst ?_ | refine sl_fz ?_ | refine sL_lst ?_ | refine sL_fz ?_)
  | (with_reducible first | refine r_tup ?_ | refine r_lst ?_ | refine o1_addT ?_ | refine o1_addL ?_ | refine b1_len ?_ | refine b1_tuple ?_ | refine b1_list ?_ | refine o1_cat ?_ | refine m1_append ?_ | refine o_pow10_1 ?_ | refine o_pow10_2 ?_ | refine o_pow10_3 ?_ | refine o_pow10_4 ?_ | refine o_pow10_5 ?_ | refine o_pow10_6 ?_ | refine o_pow10_7 ?_ | refine o_pow10_8 ?_ | refine o_pow10_9 ?_ | refine o_pow10_10 ?_ | refine o_pow10_11 ?_ | refine o_pow10_12 ?_ | refine o_pow10_13 ?_ | refine o_pow10_14 ?_ | refine o_pow10_15 ?_ | refine o_pow10_16 ?_ | refine o_pow10_17 ?_ | refine o_pow10_18 ?_ | refine o_pow10_20 ?_ | refine o_pow10_30 ?_)
  | ((with_reducible refine o1_ix ?_); refine ⟨_, _, by first | rfl | assumption, by first | rfl | exact atI_zero, ?_⟩)
  | ((with_reducible refine o1_mul ?_ ?_); first | omega | decide | fail)
  | ((with_reducible refine o1_div ?_ ?_); first | omega | decide | fail)
  | ((with_reducible refine o1_mod ?_ ?_); first | omega | decide | fail)
  | ((with_reducible refine b1_divmod ?_ ?_); first | omega | decide | fail)
  | ((with_reducible refine t_tup ?_ ?_); rfl)
  | ((with_reducible refine r_callV ?_ ?_); rfl)
  | (with_reducible refine cs_dec (fun _ => ?_) (fun _ => ?_))
  | (with_reducible refine cs_beq (fun _ => ?_) (fun _ => ?_))
  | ((with_reducible refine cs_te ?_ ?_); rfl)
  | ((with_reducible refine cs_fe ?_ ?_); rfl)
  | ((with_reducible refine put0 (by assumption) ?_ fun _ => ?_); first | rfl | fail)
  | ((with_reducible refine put1 (by assumption) ?_ fun _ => ?_); first | rfl | fail)
  | ((with_reducible refine put2 (by assumption) ?_ fun _ => ?_); first | rfl | fail)
  | ((fail_if_success (with_reducible refine pst_id ?_)); first
    | exact take_same
    | (with_reducible refine fun (_ : Nat) (_ : Store) (_ : _ = _) (_ : _ = _) (_ : _ = _) => ?_)
    | ((fail_if_success (with_reducible refine And.intro ?_ ?_)); refine ⟨_, by first | rfl | assumption, ?_⟩)
    | ((fail_if_success (with_reducible refine And.intro ?_ ?_)); refine ⟨_, _, rfl, ?_⟩)
    | ((fail_if_success (with_reducible refine And.intro ?_ ?_)); refine ⟨_, _, by first | rfl | assumption, rfl, ?_⟩)
    | ((with_reducible refine And.intro ?_ ?_); first | exact rfl | omega | (simp only [List.length_map]; omega) | exact ⟨rfl, rfl⟩ | exact Nat.le_of_ble_eq_true rfl | fail)))
local macro_rules | `(tactic| done) => `(tactic| first
  | (with_reducible first | refine v0 ?_ | refine v1 ?_ | refine v2 ?_ | refine v3 ?_ | refine v4 ?_ | refine v5 ?_ | refine v6 ?_ | refine v7 ?_ | refine v8 ?_ | refine v9 ?_ | refine v10 ?_ | refine v11 ?_ | refine v12 ?_ | refine v13 ?_ | refine tn0 ?_ | refine tn1 ?_ | refine tn2 ?_ | refine tn3 ?_ | refine tn4 ?_ | refine tn5 ?_ | refine tn6 ?_ | refine tn7 ?_ | refine tn8 ?_ | refine tn9 ?_ | refine tn10 ?_ | refine tn11 ?_ | refine tn12 ?_ | refine tn13 ?_ | refine ss0 ?_ | refine ss1 ?_ | refine ss2 ?_ | refine ss3 ?_ | refine ss4 ?_ | refine ss5 ?_ | refine ss6 ?_ | refine ss7 ?_ | refine ss8 ?_ | refine ss9 ?_ | refine ss10 ?_ | refine ss11 ?_ | refine ss12 ?_ | refine ss13 ?_)
  | (with_reducible first | refine r_k ?_ | refine r_bin ?_ | refine r_cons ?_ | refine r_nil ?_ | refine r_call ?_ | refine r_blt ?_ | refine r_un ?_ | refine r_ok ?_ | refine s_seq ?_ | refine s_ret ?_ | refine s_if ?_ | refine s_expr ?_ | refine s_asg ?_ | refine s_par ?_ | refine s_nil ?_ | refine s_brk ?_ | refine s_ct ?_ | refine s_for ?_ | refine bool_t ?_ | refine bool_and ?_ | refine bool_or ?_ | refine bool_not ?_ | refine bool_yes ?_ | refine r_and ?_ | refine r_or ?_ | refine r_not ?_ | refine r_ife ?_ | refine r_chain ?_ | refine r_isi ?_ | refine r_lam ?_ | refine r_back ?_ | refine r_listR1 ?_ | refine r_callK ?_ | refine r_mt ?_ | refine r_alloc ?_ | refine r_sliceA ?_ | refine r_sliceL ?_ | refine r_no ?_ | refine r_part ?_ | refine r_scope ?_ | refine t_nil ?_ | refine t_cons ?_ | refine q_seq ?_ | refine q_range ?_ | refine q_range2 ?_ | refine q_rangeD ?_ | refine q_enumA ?_ | refine nx_nx ?_ | refine nx_ret ?_ | refine nx_exc ?_ | refine nx_brk ?_ | refine nx_ct ?_ | refine bl_bl ?_ | refine cs_not ?_ | refine cs_t ?_ | refine cs_f ?_ | refine r_bind ?_ | refine r_nox ?_ | refine t_sub ?_ | refine s_retL ?_ | refine o1_sub ?_ | refine o1_add ?_ | refine o1_lt ?_ | refine o1_le ?_ | refine o1_gt ?_ | refine o1_ge ?_ | refine o1_neg ?_ | refine o1_eq ?_ | refine o1_ne ?_ | refine b1_abs ?_ | refine b1_int ?_ | refine b1_min2 ?_ | refine b1_max2 ?_ | refine o1_eqA ?_ | refine o1_neA ?_ | refine o1_eqS ?_ | refine o1_isN ?_ | refine o1_notN ?_ | refine x_bl ?_ | refine x_int ?_ | refine x_str ?_ | refine x_non ?_ | refine x_nx ?_ | refine x_tup ?_ | refine x_lst ?_ | refine sl_tup ?_ | refine sl_lst ?_ | refine sl_fz ?_ | refine sL_lst ?_ | refine sL_fz ?_)
  | (with_reducible first | refine r_tup ?_ | refine r_lst ?_ | refine o1_addT ?_ | refine o1_addL ?_ | refine b1_len ?_ | refine b1_tuple ?_ | refine b1_list ?_ | refine o1_cat ?_ | refine m1_append ?_ | refine o_pow10_1 ?_ | refine o_pow10_2 ?_ | refine o_pow10_3 ?_ | refine o_pow10_4 ?_ | refine o_pow10_5 ?_ | refine o_pow10_6 ?_ | refine o_pow10_7 ?_ | refine o_pow10_8 ?_ | refine o_pow10_9 ?_ | refine o_pow10_10 ?_ | refine o_pow10_11 ?_ | refine o_pow10_12 ?_ | refine o_pow10_13 ?_ | refine o_pow10_14 ?_ | refine o_pow10_15 ?_ | refine o_pow10_16 ?_ | refine o_pow10_17 ?_ | refine o_pow10_18 ?_ | refine o_pow10_20 ?_ | refine o_pow10_30 ?_)
  | ((with_reducible refine o1_ix ?_); refine ⟨_, _, by first | rfl | assumption, by first | rfl | exact atI_zero, ?_⟩)
  | ((with_reducible refine o1_mul ?_ ?_); first | omega | decide | fail)
  | ((with_reducible refine o1_div ?_ ?_); first | omega | decide | fail)
  | ((with_reducible refine o1_mod ?_ ?_); first | omega | decide | fail)
  | ((with_reducible refine b1_divmod ?_ ?_); first | omega | decide | fail)
  | ((with_reducible refine t_tup ?_ ?_); rfl)
  | ((with_reducible refine r_callV ?_ ?_); rfl)
  | (with_reducible refine cs_dec (fun _ => ?_) (fun _ => ?_))
  | (with_reducible refine cs_beq (fun _ => ?_) (fun _ => ?_))
  | ((with_reducible refine cs_te ?_ ?_); rfl)
  | ((with_reducible refine cs_fe ?_ ?_); rfl)
  | ((with_reducible refine put0 (by assumption) ?_ fun _ => ?_); first | rfl | fail)
  | ((with_reducible refine put1 (by assumption) ?_ fun _ => ?_); first | rfl | fail)
  | ((with_reducible refine put2 (by assumption) ?_ fun _ => ?_); first | rfl | fail)
  | ((fail_if_success (with_reducible refine pst_id ?_)); first
    | exact take_same
    | (with_reducible refine fun (_ : Nat) (_ : Store) (_ : _ = _) (_ : _ = _) (_ : _ = _) => ?_)
    | ((fail_if_success (with_reducible refine And.intro ?_ ?_)); refine ⟨_, by first | rfl | assumption, ?_⟩)
    | ((fail_if_success (with_reducible refine And.intro ?_ ?_)); refine ⟨_, _, rfl, ?_⟩)
    | ((fail_if_success (with_reducible refine And.intro ?_ ?_)); refine ⟨_, _, by first | rfl | assumption, rfl, ?_⟩)
    | ((with_reducible refine And.intro ?_ ?_); first | exact rfl | omega | (simp only [List.length_map]; omega) | exact ⟨rfl, rfl⟩ | exact Nat.le_of_ble_eq_true rfl | fail))
  | ((fail_if_success (with_reducible refine pst_id ?_)); first | (with_reducible rfl) | assumption | contradiction))

theorem dip_ok {n : Nat} {S : Store} (h : Well n S) {l : Int} (hl : 0 < l ∧ l < 1073741824) : Pst (F__law_dip [.loc n, .int l] S) (fun d S' => ∃ r, d = .int r ∧ 0 ≤ r ∧ r < l ∧ Fr n S S') NoE := by
  obtain ⟨g, a, b, hS⟩ := h
  unfold F__law_dip b__law_dip
  refine call_go rfl ?_
  dsimp only [startE, List.map, List.replicate, List.length, List.cons_append, List.nil_append, Nat.reduceAdd, Nat.reduceSub]
  repeat' trivial
  all_goals refine ⟨?_, ?_, ?_⟩
  · exact Int.emod_nonneg _ (by omega)
  · exact Int.emod_lt_of_pos _ hl.1
  · rw [List.take_of_length_le (by simp)]
    exact Well.put hS
  · exact Int.emod_nonneg _ (by omega)
  · exact Int.emod_lt_of_pos _ hl.1
  · rw [List.take_of_length_le (by simp), List.set_set]
    exact Well.put hS
theorem dip_go {n : Nat} {S : Store} {l : Int} {Q : D → Store → Prop} {E : XV → Store → Prop} (h : Well n S) (hl : 0 < l ∧ l < 1073741824) (k : ∀ r S', 0 ≤ r → r < l → Fr n S S' → Well n S' → Q (.int r) S') : Pst (F__law_dip [.loc n, .int l] S) Q E := by
  refine Pst.imp (dip_ok h hl) ?_
  rintro _ S1 ⟨r, rfl, r0, r1, hf⟩
  exact k r S1 r0 r1 hf hf.1
/-- one of a list or a tuple -/
theorem one_any {n : Nat} {S : Store} (h : Well n S) {x : D} {ds : List D} (hx : ∀ S, asS x S = some ds) (h0 : 0 < ds.length ∧ ds.length < 1000000) (hp : D.pures ds = true) : Pst (F__law_one [.loc n, x] S) (fun d S' => d ∈ ds ∧ d.pure = true ∧ Fr n S S') NoE := by
  unfold F__law_one b__law_one
  refine call_go rfl ?_
  dsimp only [startE, List.map, List.replicate, List.length, List.cons_append, List.nil_append, Nat.reduceAdd, Nat.reduceSub]
  repeat' trivial
  refine ⟨_, hx _, ?_⟩
  repeat' trivial
  refine Pst.imp (dip_ok h (by omega)) ?_
  rintro _ S1 ⟨r, rfl, r0, r1, hf⟩
  obtain ⟨d, hd, hm, _⟩ := atI_ok (xs := ds) ⟨r0, r1⟩
  refine o1_ix ⟨_, _, hx _, hd, ?_⟩
  have hq := D.pures_iff.mp hp d hm
  rw [exit_pure hq, hf.take]
  exact ⟨hm, hq, hf⟩
theorem one_mem {n : Nat} {S : Store} {x : D} (ns : List Int) {Q : D → Store → Prop} {E : XV → Store → Prop} (h : Well n S) (hx : ∀ S, asS x S = some (ns.map D.int)) (h0 : 0 < ns.length ∧ ns.length < 1000000) (k : ∀ r S', r ∈ ns → Fr n S S' → Well n S' → Q (.int r) S') : Pst (F__law_one [.loc n, x] S) Q E := by
  refine Pst.imp (one_any h hx (by rw [List.length_map]; exact h0) pures_mapI) ?_
  rintro d S1 ⟨hd, _, hf⟩
  obtain ⟨r, hr, rfl⟩ := List.mem_map.mp hd
  exact k r S1 hr hf hf.1
theorem one_go (lo hi : Int) {n : Nat} {S : Store} {ds : List D} {Q : D → Store → Prop} {E : XV → Store → Prop} (h : Well n S) (h0 : 0 < ds.length ∧ ds.length < 1000000) (hb : Bnd lo hi ds) (k : ∀ r S', lo ≤ r → r ≤ hi → Fr n S S' → Well n S' → Q (.int r) S') : Pst (F__law_one [.loc n, .lst ds] S) Q E := by
  refine Pst.imp (one_any h (fun _ => rfl) h0 (D.pures_iff.mpr fun d hd => ?_)) ?_
  · obtain ⟨i, rfl, _⟩ := hb d hd
    rfl
  rintro d S1 ⟨hd, _, hf⟩
  obtain ⟨i, rfl, h1, h2⟩ := hb d hd
  exact k i S1 h1 h2 hf hf.1
end LW
set_option Elab.async false
set_option linter.all false
set_option maxRecDepth 100000
set_option maxHeartbeats 4000000
namespace LW
open PySem L2 Evl PySem.Spec PyProof.Rows PF
local macro_rules | `(tactic| trivial) => `(tactic| first
  | (with_reducible first | refine v0 ?_ | refine v1 ?_ | refine v2 ?_ | refine v3 ?_ | refine v4 ?_ | refine v5 ?_ | refine v6 ?_ | refine v7 ?_ | refine v8 ?_ | refine v9 ?_ | refine v10 ?_ | refine v11 ?_ | refine v12 ?_ | refine v13 ?_ | refine tn0 ?_ | refine tn1 ?_ | refine tn2 ?_ | refine tn3 ?_ | refine tn4 ?_ | refine tn5 ?_ | refine tn6 ?_ | refine tn7 ?_ | refine tn8 ?_ | refine tn9 ?_ | refine tn10 ?_ | refine tn11 ?_ | refine tn12 ?_ | refine tn13 ?_ | refine ss0 ?_ | refine ss1 ?_ | refine ss2 ?_ | refine ss3 ?_ | refine ss4 ?_ | refine ss5 ?_ | refine ss6 ?_ | refine ss7 ?_ | refine ss8 ?_ | refine ss9 ?_ | refine ss10 ?_ | refine ss11 ?_ | refine ss12 ?_ | refine ss13 ?_)
  | (with_reducible first | refine r_k ?_ | refine r_bin ?_ | refine r_cons ?_ | refine r_nil ?_ | refine r_call ?_ | refine r_blt ?_ | refine r_un ?_ | refine r_ok ?_ | refine s_seq ?_ | refine s_ret ?_ | refine s_if ?_ | refine s_expr ?_ | refine s_asg ?_ | refine s_par ?_ | refine s_nil ?_ | refine s_brk ?_ | refine s_ct ?_ | refine s_for ?_ | refine bool_t ?_ | refine bool_and ?_ | refine bool_or ?_ | refine bool_not ?_ | refine bool_yes ?_ | refine r_and ?_ | refine r_or ?_ | refine r_not ?_ | refine r_ife ?_ | refine r_chain ?_ | refine r_isi ?_ | refine r_lam ?_ | refine r_back ?_ | refine r_listR1 ?_ | refine r_callK ?_ | refine r_mt ?_ | refine r_alloc ?_ | refine r_sliceA ?_ | refine r_sliceL ?_ | refine r_no ?_ | refine r_part ?_ | refine r_scope ?_ | refine t_nil ?_ | refine t_cons ?_ | refine q_seq ?_ | refine q_range ?_ | refine q_range2 ?_ | refine q_rangeD ?_ | refine q_enumA ?_ | refine nx_nx ?_ | refine nx_ret ?_ | refine nx_exc ?_ | refine nx_brk ?_ | refine nx_ct ?_ | refine bl_bl ?_ | refine cs_not ?_ | refine cs_t ?_ | refine cs_f ?_ | refine r_bind ?_ | refine r_nox ?_ | refine t_sub ?_ | refine s_retL ?_ | refine o1_sub ?_ | refine o1_add ?_ | refine o1_lt ?_ | refine o1_le ?_ | refine o1_gt ?_ | refine o1_ge ?_ | refine o1_neg ?_ | refine o1_eq ?_ | refine o1_ne ?_ | refine b1_abs ?_ | refine b1_int ?_ | refine b1_min2 ?_ | refine b1_max2 ?_ | refine o1_eqA ?_ | refine o1_neA ?_ | refine o1_eqS ?_ | refine o1_isN ?_ | refine o1_notN ?_ | refine x_bl ?_ | refine x_int ?_ | refine x_str ?_ | refine x_non ?_ | refine x_nx ?_ | refine x_tup ?_ | refine x_lst ?_ | refine sl_tup ?_ | refine sl_lst ?_ | refine sl_fz ?_ | refine sL_lst ?_ | refine sL_fz ?_)
  | (with_reducible first | refine r_tup ?_ | refine r_lst ?_ | refine o1_addT ?_ | refine o1_addL ?_ | refine b1_len ?_ | refine b1_tuple ?_ | refine b1_list ?_ | refine o1_cat ?_ | refine m1_append ?_ | refine o_pow10_1 ?_ | refine o_pow10_2 ?_ | refine o_pow10_3 ?_ | refine o_pow10_4 ?_ | refine o_pow10_5 ?_ | refine o_pow10_6 ?_ | refine o_pow10_7 ?_ | refine o_pow10_8 ?_ | refine o_pow10_9 ?_ | refine o_pow10_10 ?_ | refine o_pow10_11 ?_ | refine o_pow10_12 ?_ | refine o_pow10_13 ?_ | refine o_pow10_14 ?_ | refine o_pow10_15 ?_ | refine o_pow10_16 ?_ | refine o_pow10_17 ?_ | refine o_pow10_18 ?_ | refine o_pow10_20 ?_ | refine o_pow10_30 ?_)
  | ((with_reducible refine o1_ix ?_); refine ⟨_, _, by first | rfl | assumption, by first | rfl | exact atI_zero, ?_⟩)
  | ((with_reducible refine o1_mul ?_ ?_); first | omega | decide | fail)
  | ((with_reducible refine o1_div ?_ ?_); first | omega | decide | fail)
  | ((with_reducible refine o1_mod ?_ ?_); first | omega | decide | fail)
  | ((with_reducible refine b1_divmod ?_ ?_); first | omega | decide | fail)
  | ((with_reducible refine t_tup ?_ ?_); rfl)
  | ((with_reducible refine r_callV ?_ ?_); rfl)
  | (with_reducible refine cs_dec (fun _ => ?_) (fun _ => ?_))
  | (with_reducible refine cs_beq (fun _ => ?_) (fun _ => ?_))
  | ((with_reducible refine cs_te ?_ ?_); rfl)
  | ((with_reducible refine cs_fe ?_ ?_); rfl)
  | ((with_reducible refine put0 (by assumption) ?_ fun _ => ?_); first | rfl | fail)
  | ((with_reducible refine put1 (by assumption) ?_ fun _ => ?_); first | rfl | fail)
  | ((with_reducible refine put2 (by assumption) ?_ fun _ => ?_); first | rfl | fail)
  | ((fail_if_success (with_reducible refine pst_id ?_)); first
    | exact take_same
    | (with_reducible refine fun (_ : Nat) (_ : Store) (_ : _ = _) (_ : _ = _) (_ : _ = _) => ?_)
    | ((fail_if_success (with_reducible refine And.intro ?_ ?_)); refine ⟨_, by first | rfl | assumption, ?_⟩)
    | ((fail_if_success (with_reducible refine And.intro ?_ ?_)); refine ⟨_, _, rfl, ?_⟩)
    | ((fail_if_success (with_reducible refine And.intro ?_ ?_)); refine ⟨_, _, by first | rfl | assumption, rfl, ?_⟩)
    | ((with_reducible refine And.intro ?_ ?_); first | exact rfl | omega | (simp only [List.length_map]; omega) | exact ⟨rfl, rfl⟩ | exact Nat.le_of_ble_eq_true rfl | fail))
  | ((with_reducible refine dip_go (by assumption) ?_ ?_); (first | omega | (simp only [List.length_map]; omega) | fail); intro _ _ _ _ _ _)
  | ((with_reducible refine one_go (-1) (1) (by assumption) ?_ ?_ ?_); (exact ⟨Nat.zero_lt_succ _, Nat.le_of_ble_eq_true rfl⟩); (focus ((repeat (first | exact bnd_nil | refine bnd_cons (by omega) ?_)); (all_goals fail))); intro _ _ _ _ _ _)
  | ((with_reducible refine one_go (-1) (2) (by assumption) ?_ ?_ ?_); (exact ⟨Nat.zero_lt_succ _, Nat.le_of_ble_eq_true rfl⟩); (focus ((repeat (first | exact bnd_nil | refine bnd_cons (by omega) ?_)); (all_goals fail))); intro _ _ _ _ _ _)
  | ((with_reducible refine one_go (0) (998) (by assumption) ?_ ?_ ?_); (exact ⟨Nat.zero_lt_succ _, Nat.le_of_ble_eq_true rfl⟩); (focus ((repeat (first | exact bnd_nil | refine bnd_cons (by omega) ?_)); (all_goals fail))); intro _ _ _ _ _ _)
  | ((with_reducible refine one_go (-1) (1000) (by assumption) ?_ ?_ ?_); (exact ⟨Nat.zero_lt_succ _, Nat.le_of_ble_eq_true rfl⟩); (focus ((repeat (first | exact bnd_nil | refine bnd_cons (by omega) ?_)); (all_goals fail))); intro _ _ _ _ _ _))
local macro_rules | `(tactic| done) => `(tactic| first
  | (with_reducible first | refine v0 ?_ | refine v1 ?_ | refine v2 ?_ | refine v3 ?_ | refine v4 ?_ | refine v5 ?_ | refine v6 ?_ | refine v7 ?_ | refine v8 ?_ | refine v9 ?_ | refine v10 ?_ | refine v11 ?_ | refine v12 ?_ | refine v13 ?_ | refine tn0 ?_ | refine tn1 ?_ | refine tn2 ?_ | refine tn3 ?_ | refine tn4 ?_ | refine tn5 ?_ | refine tn6 ?_ | refine tn7 ?_ | refine tn8 ?_ | refine tn9 ?_ | refine tn10 ?_ | refine tn11 ?_ | refine tn12 ?_ | refine tn13 ?_ | refine ss0 ?_ | refine ss1 ?_ | refine ss2 ?_ | refine ss3 ?_ | refine ss4 ?_ | refine ss5 ?_ | refine ss6 ?_ | refine ss7 ?_ | refine ss8 ?_ | refine ss9 ?_ | refine ss10 ?_ | refine ss11 ?_ | refine ss12 ?_ | refine ss13 ?_)
  | (with_reducible first | refine r_k ?_ | refine r_bin ?_ | refine r_cons ?_ | refine r_nil ?_ | refine r_call ?_ | refine r_blt ?_ | refine r_un ?_ | refine r_ok ?_ | refine s_seq ?_ | refine s_ret ?_ | refine s_if ?_ | refine s_expr ?_ | refine s_asg ?_ | refine s_par ?_ | refine s_nil ?_ | refine s_brk ?_ | refine s_ct ?_ | refine s_for ?_ | refine bool_t ?_ | refine bool_and ?_ | refine bool_or ?_ | refine bool_not ?_ | refine bool_yes ?_ | refine r_and ?_ | refine r_or ?_ | refine r_not ?_ | refine r_ife ?_ | refine r_chain ?_ | refine r_isi ?_ | refine r_lam ?_ | refine r_back ?_ | refine r_listR1 ?_ | refine r_callK ?_ | refine r_mt ?_ | refine r_alloc ?_ | refine r_sliceA ?_ | refine r_sliceL ?_ | refine r_no ?_ | refine r_part ?_ | refine r_scope ?_ | refine t_nil ?_ | refine t_cons ?_ | refine q_seq ?_ | refine q_range ?_ | refine q_range2 ?_ | refine q_rangeD ?_ | refine q_enumA ?_ | refine nx_nx ?_ | refine nx_ret ?_ | refine nx_exc ?_ | refine nx_brk ?_ | refine nx_ct ?_ | refine bl_bl ?_ | refine cs_not ?_ | refine cs_t ?_ | refine cs_f ?_ | refine r_bind ?_ | refine r_nox ?_ | refine t_sub ?_ | refine s_retL ?_ | refine o1_sub ?_ | refine o1_add ?_ | refine o1_lt ?_ | refine o1_le ?_ | refine o1_gt ?_ | refine o1_ge ?_ | refine o1_neg ?_ | refine o1_eq ?_ | refine o1_ne ?_ | refine b1_abs ?_ | refine b1_int ?_ | refine b1_min2 ?_ | refine b1_max2 ?_ | refine o1_eqA ?_ | refine o1_neA ?_ | refine o1_eqS ?_ | refine o1_isN ?_ | refine o1_notN ?_ | refine x_bl ?_ | refine x_int ?_ | refine x_str ?_ | refine x_non ?_ | refine x_nx ?_ | refine x_tup ?_ | refine x_lst ?_ | refine sl_tup ?_ | refine sl_lst ?_ | refine sl_fz ?_ | refine sL_lst ?_ | refine sL_fz ?_)
  | (with_reducible first | refine r_tup ?_ | refine r_lst ?_ | refine o1_addT ?_ | refine o1_addL ?_ | refine b1_len ?_ | refine b1_tuple ?_ | refine b1_list ?_ | refine o1_cat ?_ | refine m1_append ?_ | refine o_pow10_1 ?_ | refine o_pow10_2 ?_ | refine o_pow10_3 ?_ | refine o_pow10_4 ?_ | refine o_pow10_5 ?_ | refine o_pow10_6 ?_ | refine o_pow10_7 ?_ | refine o_pow10_8 ?_ | refine o_pow10_9 ?_ | refine o_pow10_10 ?_ | refine o_pow10_11 ?_ | refine o_pow10_12 ?_ | refine o_pow10_13 ?_ | refine o_pow10_14 ?_ | refine o_pow10_15 ?_ | refine o_pow10_16 ?_ | refine o_pow10_17 ?_ | refine o_pow10_18 ?_ | refine o_pow10_20 ?_ | refine o_pow10_30 ?_)
  | ((with_reducible refine o1_ix ?_); refine ⟨_, _, by first | rfl | assumption, by first | rfl | exact atI_zero, ?_⟩)
  | ((with_reducible refine o1_mul ?_ ?_); first | omega | decide | fail)
  | ((with_reducible refine o1_div ?_ ?_); first | omega | decide | fail)
  | ((with_reducible refine o1_mod ?_ ?_); first | omega | decide | fail)
  | ((with_reducible refine b1_divmod ?_ ?_); first | omega | decide | fail)
  | ((with_reducible refine t_tup ?_ ?_); rfl)
  | ((with_reducible refine r_callV ?_ ?_); rfl)
  | (with_reducible refine cs_dec (fun _ => ?_) (fun _ => ?_))
  | (with_reducible refine cs_beq (fun _ => ?_) (fun _ => ?_))
  | ((with_reducible refine cs_te ?_ ?_); rfl)
  | ((with_reducible refine cs_fe ?_ ?_); rfl)
  | ((with_reducible refine put0 (by assumption) ?_ fun _ => ?_); first | rfl | fail)
  | ((with_reducible refine put1 (by assumption) ?_ fun _ => ?_); first | rfl | fail)
  | ((with_reducible refine put2 (by assumption) ?_ fun _ => ?_); first | rfl | fail)
  | ((fail_if_success (with_reducible refine pst_id ?_)); first
    | exact take_same
    | (with_reducible refine fun (_ : Nat) (_ : Store) (_ : _ = _) (_ : _ = _) (_ : _ = _) => ?_)
    | ((fail_if_success (with_reducible refine And.intro ?_ ?_)); refine ⟨_, by first | rfl | assumption, ?_⟩)
    | ((fail_if_success (with_reducible refine And.intro ?_ ?_)); refine ⟨_, _, rfl, ?_⟩)
    | ((fail_if_success (with_reducible refine And.intro ?_ ?_)); refine ⟨_, _, by first | rfl | assumption, rfl, ?_⟩)
    | ((with_reducible refine And.intro ?_ ?_); first | exact rfl | omega | (simp only [List.length_map]; omega) | exact ⟨rfl, rfl⟩ | exact Nat.le_of_ble_eq_true rfl | fail))
  | ((with_reducible refine dip_go (by assumption) ?_ ?_); (first | omega | (simp only [List.length_map]; omega) | fail); intro _ _ _ _ _ _)
  | ((with_reducible refine one_go (-1) (1) (by assumption) ?_ ?_ ?_); (exact ⟨Nat.zero_lt_succ _, Nat.le_of_ble_eq_true rfl⟩); (focus ((repeat (first | exact bnd_nil | refine bnd_cons (by omega) ?_)); (all_goals fail))); intro _ _ _ _ _ _)
  | ((with_reducible refine one_go (-1) (2) (by assumption) ?_ ?_ ?_); (exact ⟨Nat.zero_lt_succ _, Nat.le_of_ble_eq_true rfl⟩); (focus ((repeat (first | exact bnd_nil | refine bnd_cons (by omega) ?_)); (all_goals fail))); intro _ _ _ _ _ _)
  | ((with_reducible refine one_go (0) (998) (by assumption) ?_ ?_ ?_); (exact ⟨Nat.zero_lt_succ _, Nat.le_of_ble_eq_true rfl⟩); (focus ((repeat (first | exact bnd_nil | refine bnd_cons (by omega) ?_)); (all_goals fail))); intro _ _ _ _ _ _)
  | ((with_reducible refine one_go (-1) (1000) (by assumption) ?_ ?_ ?_); (exact ⟨Nat.zero_lt_succ _, Nat.le_of_ble_eq_true rfl⟩); (focus ((repeat (first | exact bnd_nil | refine bnd_cons (by omega) ?_)); (all_goals fail))); intro _ _ _ _ _ _)
  | ((fail_if_success (with_reducible refine pst_id ?_)); first | (with_reducible rfl) | assumption | contradiction))

theorem table_ok {n : Nat} {S : Store} (h : Well n S) {size wide : Int} (hs : 1 ≤ size ∧ size ≤ 24) (hw : 0 ≤ wide ∧ wide ≤ 1000000) :
    Pst (F__law_table [.loc n, .int size, .int wide] S) (fun d S' => ∃ ts, d = tI ts ∧ ts.length = size.toNat ∧ InB 0 998 ts ∧ Fr n S S') NoE := by
  have hn := len_of h
  unfold F__law_table b__law_table
  refine call_go rfl ?_
  dsimp only [startE, List.map, List.replicate, List.length, List.cons_append, List.nil_append, Nat.reduceAdd, Nat.reduceSub]
  repeat' trivial
  rename_i way S1 way0 way1 f1 w1 top S2 top0 top1 f2 w2
  refine r_comp ?_
  repeat' trivial
  refine comp_inv (fun i acc S3 => ∃ xs, acc = xs.map D.int ∧ xs.length = i ∧ InB 0 998 xs ∧ Fr n S S3) rfl ?_ rfl ?_ ⟨[], rfl, rfl, InB.nil, f1.trans f2⟩ ?_ ?_
  · rintro i acc S3 ⟨xs, rfl, hl, hb, hf⟩
    exact ⟨by rw [hf.2.1, f2.2.1, f1.2.1], rfl⟩
  · rw [ranged_len]; show _ ≤ 1000000; omega
  · rintro i d acc S3 hd ⟨xs, rfl, hl, hb, hf⟩
    obtain ⟨hi, rfl⟩ := ranged_at hd
    have w3 := hf.1.more (xs.map D.int)
    dsimp only [wipeE, List.set]
    repeat' trivial
    refine ⟨fun _ => ?_, fun hb => by cases hb⟩
    repeat' trivial
    rename_i r S4 r0 r1 f4 w4
    obtain ⟨S5, rfl, f5⟩ := Fr.back hf.1 f4
    refine ⟨S5, rfl, rfl, xs ++ [max 0 (top - r)], by rw [List.map_append]; rfl, by rw [List.length_append, hl]; rfl, hb.add (by omega), hf.trans f5⟩
  · rintro acc S3 ⟨xs, rfl, hl, hb, hf⟩
    rw [ranged_len] at hl
    refine ⟨_, rfl, pures_mapI, fun m S4 em eS h5 => ?_⟩
    have fx : FrX n S S4 := by rw [eS]; exact hf.x.trans (FrX.lay hf.1 _)
    have hm : S.length ≤ m := by rw [em, hf.2.1]; exact Nat.le_refl _
    have w5 := fx.1
    clear em eS
    repeat' trivial
    · exact ⟨pures_mapI, xs, rfl, hl, hb, fx.cut hn⟩
    · refine for_of (fun i ρ S' => ∃ ys x6, ρ = [some (.loc n), some (.int size), some (.int (min 998 wide)), some (.int way), some (.int top), some (.loc m), x6, none] ∧ S'[m]? = some (ys.map D.int) ∧ ys.length = size.toNat ∧ InB 0 998 ys ∧ FrX n S S') ⟨xs, _, rfl, h5, hl, hb, fx⟩ (fun _ _ _ _ => rfl) ?_ ?_
      · rintro i d ρ S5 hd ⟨ys, x6, rfl, h6, hl6, hb6, fx6⟩
        obtain ⟨hi, rfl⟩ := ranged_at hd
        have w6 := fx6.1
        repeat' trivial
        refine ix_int (ns := ys) h6 (by omega) ?_
        have hg := getD_in hb6 (k := 1 + (i : Int) - 1) (by omega)
        repeat' trivial
        rename_i r S6 r0 r1 f6 w7
        refine put_ints (f6.at (by omega) h6) (by omega) fun S7 e7 h7 => ?_
        refine ⟨_, _, rfl, h7, by rw [List.length_set]; exact hl6, hb6.set (by omega) _, ?_⟩
        rw [e7]
        exact Fr.putX (fx6.trans f6.x) hm hn _
      · rintro ρ S5 ⟨ys, x6, rfl, h6, hl6, hb6, fx6⟩
        repeat' trivial
        exact ⟨pures_mapI, ys, rfl, hl6, hb6, fx6.cut hn⟩
    · refine r_eq (b_sortedL h5) ?_
      repeat' trivial
      rw [← List.map_reverse]
      refine ⟨pures_mapI, ?_⟩
      refine fun m2 S6 em eS h7 => ?_
      have hl2 : (sortI xs).reverse.length = size.toNat := by rw [List.length_reverse, sortI_len]; exact hl
      have hb2 := hb.sort
      have fx2 : FrX n S S6 := by rw [eS]; exact fx.trans (FrX.lay w5 _)
      have hm2 : S.length ≤ m2 := by rw [em]; exact fx.2.1
      clear em eS h5 hm
      generalize (sortI xs).reverse = ys at *
      have w7 := fx2.1
      repeat' trivial
      · refine ix_int (ns := ys) h7 (by omega) ?_
        have hg := getD_in hb2 (k := 0) (by omega)
        obtain ⟨sz, rfl⟩ : ∃ sz : Nat, size = sz := ⟨size.toNat, by omega⟩
        repeat' trivial
        refine r_eq (o_rep1 (by omega)) ?_
        have er : List.replicate sz (D.int (ys.getD (Int.toNat 0) 0)) = (List.replicate sz (ys.getD (Int.toNat 0) 0)).map D.int := by rw [List.map_replicate]
        rw [er]
        have hl3 : (List.replicate sz (ys.getD (Int.toNat 0) 0)).length = (sz : Int).toNat := by rw [List.length_replicate]; rfl
        have hb3 : InB 0 998 (List.replicate sz (ys.getD (Int.toNat 0) 0)) := fun x hx => by rw [(List.mem_replicate.mp hx).2]; exact hg
        refine ⟨_, rfl, pures_mapI, fun m3 S7 em eS h8 => ?_⟩
        have fx3 : FrX n S S7 := by rw [eS]; exact fx2.trans (FrX.lay w7 _)
        have hm3 : S.length ≤ m3 := by rw [em]; exact fx2.2.1
        clear em eS h7 hm2 fx2 hl2 hb2 w7 hg er
        generalize List.replicate sz (ys.getD (Int.toNat 0) 0) = ys at *
        have h7 := h8
        have hm2 := hm3
        have fx2 := fx3
        have hl2 := hl3
        have hb2 := hb3
        have w7 := fx2.1
        repeat' trivial
        refine r_eq (in_ints (ns := [2, 3]) rfl) ?_
        rw [if_neg (by decide)]
        repeat' trivial
        · rename_i r1 S8 r10 r11 f8 w8
          have h8 := f8.at (by omega) h7
          refine ix_int (ns := ys) h8 (by omega) ?_
          have hg := getD_in hb2 (k := r1) (by omega)
          repeat' trivial
          rename_i r2 S9 r20 r21 f9 w9
          refine put_ints (f9.at (by omega) h8) (by omega) fun S10 e10 h10 => ?_
          have fx10 : FrX n S S10 := by rw [e10]; exact Fr.putX ((fx2.trans f8.x).trans f9.x) hm2 hn _
          repeat' trivial
          exact ⟨pures_mapI, _, rfl, by rw [List.length_set]; exact hl2, hb2.set (by omega) _, fx10.cut hn⟩
        · exact ⟨pures_mapI, ys, rfl, hl2, hb2, fx2.cut hn⟩
      · refine r_eq (in_ints (ns := [2, 3]) rfl) ?_
        rw [if_neg (by decide)]
        repeat' trivial
        · rename_i r1 S8 r10 r11 f8 w8
          have h8 := f8.at (by omega) h7
          refine ix_int (ns := ys) h8 (by omega) ?_
          have hg := getD_in hb2 (k := r1) (by omega)
          repeat' trivial
          rename_i r2 S9 r20 r21 f9 w9
          refine put_ints (f9.at (by omega) h8) (by omega) fun S10 e10 h10 => ?_
          have fx10 : FrX n S S10 := by rw [e10]; exact Fr.putX ((fx2.trans f8.x).trans f9.x) hm2 hn _
          repeat' trivial
          exact ⟨pures_mapI, _, rfl, by rw [List.length_set]; exact hl2, hb2.set (by omega) _, fx10.cut hn⟩
        · exact ⟨pures_mapI, ys, rfl, hl2, hb2, fx2.cut hn⟩
end LW
set_option Elab.async false
set_option linter.all false
set_option maxRecDepth 100000
set_option maxHeartbeats 4000000
namespace LW
open PySem L2 Evl PySem.Spec PyProof.Rows PF
local macro_rules | `(tactic| trivial) => `(tactic| first
  | (with_reducible first | refine v0 ?_ | refine v1 ?_ | refine v2 ?_ | refine v3 ?_ | refine v4 ?_ | refine v5 ?_ | refine v6 ?_ | refine v7 ?_ | refine v8 ?_ | refine v9 ?_ | refine v10 ?_ | refine v11 ?_ | refine v12 ?_ | refine v13 ?_ | refine tn0 ?_ | refine tn1 ?_ | refine tn2 ?_ | refine tn3 ?_ | refine tn4 ?_ | refine tn5 ?_ | refine tn6 ?_ | refine tn7 ?_ | refine tn8 ?_ | refine tn9 ?_ | refine tn10 ?_ | refine tn11 ?_ | refine tn12 ?_ | refine tn13 ?_ | refine ss0 ?_ | refine ss1 ?_ | refine ss2 ?_ | refine ss3 ?_ | refine ss4 ?_ | refine ss5 ?_ | refine ss6 ?_ | refine ss7 ?_ | refine ss8 ?_ | refine ss9 ?_ | refine ss10 ?_ | refine ss11 ?_ | refine ss12 ?_ | refine ss13 ?_)
  | (with_reducible first | refine r_k ?_ | refine r_bin ?_ | refine r_cons ?_ | refine r_nil ?_ | refine r_call ?_ | refine r_blt ?_ | refine r_un ?_ | refine r_ok ?_ | refine s_seq ?_ | refine s_ret ?_ | refine s_if ?_ | refine s_expr ?_ | refine s_asg ?_ | refine s_par ?_ | refine s_nil ?_ | refine s_brk ?_ | refine s_ct ?_ | refine s_for ?_ | refine bool_t ?_ | refine bool_and ?_ | refine bool_or ?_ | refine bool_not ?_ | refine bool_yes ?_ | refine r_and ?_ | refine r_or ?_ | refine r_not ?_ | refine r_ife ?_ | refine r_chain ?_ | refine r_isi ?_ | refine r_lam ?_ | refine r_back ?_ | refine r_listR1 ?_ | refine r_callK ?_ | refine r_mt ?_ | refine r_alloc ?_ | refine r_sliceA ?_ | refine r_sliceL ?_ | refine r_no ?_ | refine r_part ?_ | refine r_scope ?_ | refine t_nil ?_ | refine t_cons ?_ | refine q_seq ?_ | refine q_range ?_ | refine q_range2 ?_ | refine q_rangeD ?_ | refine q_enumA ?_ | refine nx_nx ?_ | refine nx_ret ?_ | refine nx_exc ?_ | refine nx_brk ?_ | refine nx_ct ?_ | refine bl_bl ?_ | refine cs_not ?_ | refine cs_t ?_ | refine cs_f ?_ | refine r_bind ?_ | refine r_nox ?_ | refine t_sub ?_ | refine s_retL ?_ | refine o1_sub ?_ | refine o1_add ?_ | refine o1_lt ?_ | refine o1_le ?_ | refine o1_gt ?_ | refine o1_ge ?_ | refine o1_neg ?_ | refine o1_eq ?_ | refine o1_ne ?_ | refine b1_abs ?_ | refine b1_int ?_ | refine b1_min2 ?_ | refine b1_max2 ?_ | refine o1_eqA ?_ | refine o1_neA ?_ | refine o1_eqS ?_ | refine o1_isN ?_ | refine o1_notN ?_ | refine x_bl ?_ | refine x_int ?_ | refine x_str ?_ | refine x_non ?_ | refine x_nx ?_ | refine x_tup ?_ | refine x_lst ?_ | refine sl_tup ?_ | refine sl_lst ?_ | refine sl_fz ?_ | refine sL_lst ?_ | refine sL_fz ?_)
  | (with_reducible first | refine r_tup ?_ | refine r_lst ?_ | refine o1_addT ?_ | refine o1_addL ?_ | refine b1_len ?_ | refine b1_tuple ?_ | refine b1_list ?_ | refine o1_cat ?_ | refine m1_append ?_ | refine o_pow10_1 ?_ | refine o_pow10_2 ?_ | refine o_pow10_3 ?_ | refine o_pow10_4 ?_ | refine o_pow10_5 ?_ | refine o_pow10_6 ?_ | refine o_pow10_7 ?_ | refine o_pow10_8 ?_ | refine o_pow10_9 ?_ | refine o_pow10_10 ?_ | refine o_pow10_11 ?_ | refine o_pow10_12 ?_ | refine o_pow10_13 ?_ | refine o_pow10_14 ?_ | refine o_pow10_15 ?_ | refine o_pow10_16 ?_ | refine o_pow10_17 ?_ | refine o_pow10_18 ?_ | refine o_pow10_20 ?_ | refine o_pow10_30 ?_)
  | ((with_reducible refine o1_ix ?_); refine ⟨_, _, by first | rfl | assumption, by first | rfl | exact atI_zero, ?_⟩)
  | ((with_reducible refine o1_mul ?_ ?_); first | omega | decide | fail)
  | ((with_reducible refine o1_div ?_ ?_); first | omega | decide | fail)
  | ((with_reducible refine o1_mod ?_ ?_); first | omega | decide | fail)
  | ((with_reducible refine b1_divmod ?_ ?_); first | omega | decide | fail)
  | ((with_reducible refine t_tup ?_ ?_); rfl)
  | ((with_reducible refine r_callV ?_ ?_); rfl)
  | (with_reducible refine cs_dec (fun _ => ?_) (fun _ => ?_))
  | (with_reducible refine cs_beq (fun _ => ?_) (fun _ => ?_))
  | ((with_reducible refine cs_te ?_ ?_); rfl)
  | ((with_reducible refine cs_fe ?_ ?_); rfl)
  | ((with_reducible refine put0 (by assumption) ?_ fun _ => ?_); first | rfl | fail)
  | ((with_reducible refine put1 (by assumption) ?_ fun _ => ?_); first | rfl | fail)
  | ((with_reducible refine put2 (by assumption) ?_ fun _ => ?_); first | rfl | fail)
  | ((fail_if_success (with_reducible refine pst_id ?_)); first
    | exact take_same
    | (with_reducible refine fun (_ : Nat) (_ : Store) (_ : _ = _) (_ : _ = _) (_ : _ = _) => ?_)
    | ((fail_if_success (with_reducible refine And.intro ?_ ?_)); refine ⟨_, by first | rfl | assumption, ?_⟩)
    | ((fail_if_success (with_reducible refine And.intro ?_ ?_)); refine ⟨_, _, rfl, ?_⟩)
    | ((fail_if_success (with_reducible refine And.intro ?_ ?_)); refine ⟨_, _, by first | rfl | assumption, rfl, ?_⟩)
    | ((with_reducible refine And.intro ?_ ?_); first | exact rfl | omega | (simp only [List.length_map]; omega) | exact ⟨rfl, rfl⟩ | exact Nat.le_of_ble_eq_true rfl | fail))
  | ((with_reducible refine dip_go (by assumption) ?_ ?_); (first | omega | (simp only [List.length_map]; omega) | fail); intro _ _ _ _ _ _)
  | ((with_reducible refine one_go (-1) (1000) (by assumption) ?_ ?_ ?_); (exact ⟨Nat.zero_lt_succ _, Nat.le_of_ble_eq_true rfl⟩); (focus ((repeat (first | exact bnd_nil | refine bnd_cons (by omega) ?_)); (all_goals fail))); intro _ _ _ _ _ _))
local macro_rules | `(tactic| done) => `(tactic| first
  | (with_reducible first | refine v0 ?_ | refine v1 ?_ | refine v2 ?_ | refine v3 ?_ | refine v4 ?_ | refine v5 ?_ | refine v6 ?_ | refine v7 ?_ | refine v8 ?_ | refine v9 ?_ | refine v10 ?_ | refine v11 ?_ | refine v12 ?_ | refine v13 ?_ | refine tn0 ?_ | refine tn1 ?_ | refine tn2 ?_ | refine tn3 ?_ | refine tn4 ?_ | refine tn5 ?_ | refine tn6 ?_ | refine tn7 ?_ | refine tn8 ?_ | refine tn9 ?_ | refine tn10 ?_ | refine tn11 ?_ | refine tn12 ?_ | refine tn13 ?_ | refine ss0 ?_ | refine ss1 ?_ | refine ss2 ?_ | refine ss3 ?_ | refine ss4 ?_ | refine ss5 ?_ | refine ss6 ?_ | refine ss7 ?_ | refine ss8 ?_ | refine ss9 ?_ | refine ss10 ?_ | refine ss11 ?_ | refine ss12 ?_ | refine ss13 ?_)
  | (with_reducible first | refine r_k ?_ | refine r_bin ?_ | refine r_cons ?_ | refine r_nil ?_ | refine r_call ?_ | refine r_blt ?_ | refine r_un ?_ | refine r_ok ?_ | refine s_seq ?_ | refine s_ret ?_ | refine s_if ?_ | refine s_expr ?_ | refine s_asg ?_ | refine s_par ?_ | refine s_nil ?_ | refine s_brk ?_ | refine s_ct ?_ | refine s_for ?_ | refine bool_t ?_ | refine bool_and ?_ | refine bool_or ?_ | refine bool_not ?_ | refine bool_yes ?_ | refine r_and ?_ | refine r_or ?_ | refine r_not ?_ | refine r_ife ?_ | refine r_chain ?_ | refine r_isi ?_ | refine r_lam ?_ | refine r_back ?_ | refine r_listR1 ?_ | refine r_callK ?_ | refine r_mt ?_ | refine r_alloc ?_ | refine r_sliceA ?_ | refine r_sliceL ?_ | refine r_no ?_ | refine r_part ?_ | refine r_scope ?_ | refine t_nil ?_ | refine t_cons ?_ | refine q_seq ?_ | refine q_range ?_ | refine q_range2 ?_ | refine q_rangeD ?_ | refine q_enumA ?_ | refine nx_nx ?_ | refine nx_ret ?_ | refine nx_exc ?_ | refine nx_brk ?_ | refine nx_ct ?_ | refine bl_bl ?_ | refine cs_not ?_ | refine cs_t ?_ | refine cs_f ?_ | refine r_bind ?_ | refine r_nox ?_ | refine t_sub ?_ | refine s_retL ?_ | refine o1_sub ?_ | refine o1_add ?_ | refine o1_lt ?_ | refine o1_le ?_ | refine o1_gt ?_ | refine o1_ge ?_ | refine o1_neg ?_ | refine o1_eq ?_ | refine o1_ne ?_ | refine b1_abs ?_ | refine b1_int ?_ | refine b1_min2 ?_ | refine b1_max2 ?_ | refine o1_eqA ?_ | refine o1_neA ?_ | refine o1_eqS ?_ | refine o1_isN ?_ | refine o1_notN ?_ | refine x_bl ?_ | refine x_int ?_ | refine x_str ?_ | refine x_non ?_ | refine x_nx ?_ | refine x_tup ?_ | refine x_lst ?_ | refine sl_tup ?_ | refine sl_lst ?_ | refine sl_fz ?_ | refine sL_lst ?_ | refine sL_fz ?_)
  | (with_reducible first | refine r_tup ?_ | refine r_lst ?_ | refine o1_addT ?_ | refine o1_addL ?_ | refine b1_len ?_ | refine b1_tuple ?_ | refine b1_list ?_ | refine o1_cat ?_ | refine m1_append ?_ | refine o_pow10_1 ?_ | refine o_pow10_2 ?_ | refine o_pow10_3 ?_ | refine o_pow10_4 ?_ | refine o_pow10_5 ?_ | refine o_pow10_6 ?_ | refine o_pow10_7 ?_ | refine o_pow10_8 ?_ | refine o_pow10_9 ?_ | refine o_pow10_10 ?_ | refine o_pow10_11 ?_ | refine o_pow10_12 ?_ | refine o_pow10_13 ?_ | refine o_pow10_14 ?_ | refine o_pow10_15 ?_ | refine o_pow10_16 ?_ | refine o_pow10_17 ?_ | refine o_pow10_18 ?_ | refine o_pow10_20 ?_ | refine o_pow10_30 ?_)
  | ((with_reducible refine o1_ix ?_); refine ⟨_, _, by first | rfl | assumption, by first | rfl | exact atI_zero, ?_⟩)
  | ((with_reducible refine o1_mul ?_ ?_); first | omega | decide | fail)
  | ((with_reducible refine o1_div ?_ ?_); first | omega | decide | fail)
  | ((with_reducible refine o1_mod ?_ ?_); first | omega | decide | fail)
  | ((with_reducible refine b1_divmod ?_ ?_); first | omega | decide | fail)
  | ((with_reducible refine t_tup ?_ ?_); rfl)
  | ((with_reducible refine r_callV ?_ ?_); rfl)
  | (with_reducible refine cs_dec (fun _ => ?_) (fun _ => ?_))
  | (with_reducible refine cs_beq (fun _ => ?_) (fun _ => ?_))
  | ((with_reducible refine cs_te ?_ ?_); rfl)
  | ((with_reducible refine cs_fe ?_ ?_); rfl)
  | ((with_reducible refine put0 (by assumption) ?_ fun _ => ?_); first | rfl | fail)
  | ((with_reducible refine put1 (by assumption) ?_ fun _ => ?_); first | rfl | fail)
  | ((with_reducible refine put2 (by assumption) ?_ fun _ => ?_); first | rfl | fail)
  | ((fail_if_success (with_reducible refine pst_id ?_)); first
    | exact take_same
    | (with_reducible refine fun (_ : Nat) (_ : Store) (_ : _ = _) (_ : _ = _) (_ : _ = _) => ?_)
    | ((fail_if_success (with_reducible refine And.intro ?_ ?_)); refine ⟨_, by first | rfl | assumption, ?_⟩)
    | ((fail_if_success (with_reducible refine And.intro ?_ ?_)); refine ⟨_, _, rfl, ?_⟩)
    | ((fail_if_success (with_reducible refine And.intro ?_ ?_)); refine ⟨_, _, by first | rfl | assumption, rfl, ?_⟩)
    | ((with_reducible refine And.intro ?_ ?_); first | exact rfl | omega | (simp only [List.length_map]; omega) | exact ⟨rfl, rfl⟩ | exact Nat.le_of_ble_eq_true rfl | fail))
  | ((with_reducible refine dip_go (by assumption) ?_ ?_); (first | omega | (simp only [List.length_map]; omega) | fail); intro _ _ _ _ _ _)
  | ((with_reducible refine one_go (-1) (1000) (by assumption) ?_ ?_ ?_); (exact ⟨Nat.zero_lt_succ _, Nat.le_of_ble_eq_true rfl⟩); (focus ((repeat (first | exact bnd_nil | refine bnd_cons (by omega) ?_)); (all_goals fail))); intro _ _ _ _ _ _)
  | ((fail_if_success (with_reducible refine pst_id ?_)); first | (with_reducible rfl) | assumption | contradiction))

theorem well_ok {ns : List Int} (hl : ns.length ≤ 63) {k : Int} (h0 : 0 ≤ k) {S : Store} : Pst (F__law_well [.fz (ns.map D.int), .int k] S) (fun d S' => (∃ g a b, d = .lst [.int g, .int a, .int b]) ∧ S' = S) NoE := by
  unfold F__law_well b__law_well
  refine call_go rfl ?_
  dsimp only [startE, List.map, List.replicate, List.length, List.cons_append, List.nil_append, Nat.reduceAdd, Nat.reduceSub]
  repeat' trivial
  · rename_i hlt
    rw [List.length_map] at hlt
    refine ix_int (ns := ns) rfl ⟨h0, hlt⟩ ?_
    repeat' trivial
    generalize ns.getD k.toNat 0 = cell
    have hcut := cut_len (ns.map D.int) none (some 7)
    rw [List.length_map] at hcut
    refine ⟨by show _ + 1 ≤ 1000000; omega, ?_⟩
    repeat' trivial
    refine for_of (fun i ρ S' => ∃ st x4, ρ = [some (.fz (ns.map D.int)), some (.int k), some (.int cell), some (.int st), x4] ∧ S' = S) ⟨_, _, rfl, rfl⟩ (fun _ _ _ _ => rfl) ?_ ?_
    · rintro i d ρ S' hd ⟨st, x4, rfl, rfl⟩
      have hv : ∃ v, d = .int v := by
        rcases List.mem_append.mp (List.mem_of_getElem? hd) with h | h
        · obtain ⟨v, _, rfl⟩ := List.mem_map.mp (cut_mem h)
          exact ⟨v, rfl⟩
        · rw [List.mem_singleton] at h
          exact ⟨_, h⟩
      obtain ⟨v, rfl⟩ := hv
      repeat' trivial
    · rintro ρ S' ⟨st, x4, rfl, rfl⟩
      repeat' trivial
      all_goals exact ⟨⟨_, _, _, rfl⟩, take_same⟩
  · generalize 6007 * k + 211 = cell
    have hcut := cut_len (ns.map D.int) none (some 7)
    rw [List.length_map] at hcut
    refine ⟨by show _ + 1 ≤ 1000000; omega, ?_⟩
    repeat' trivial
    refine for_of (fun i ρ S' => ∃ st x4, ρ = [some (.fz (ns.map D.int)), some (.int k), some (.int cell), some (.int st), x4] ∧ S' = S) ⟨_, _, rfl, rfl⟩ (fun _ _ _ _ => rfl) ?_ ?_
    · rintro i d ρ S' hd ⟨st, x4, rfl, rfl⟩
      have hv : ∃ v, d = .int v := by
        rcases List.mem_append.mp (List.mem_of_getElem? hd) with h | h
        · obtain ⟨v, _, rfl⟩ := List.mem_map.mp (cut_mem h)
          exact ⟨v, rfl⟩
        · rw [List.mem_singleton] at h
          exact ⟨_, h⟩
      obtain ⟨v, rfl⟩ := hv
      repeat' trivial
    · rintro ρ S' ⟨st, x4, rfl, rfl⟩
      repeat' trivial
      all_goals exact ⟨⟨_, _, _, rfl⟩, take_same⟩
end LW
set_option Elab.async false
set_option linter.all false
set_option maxRecDepth 100000
set_option maxHeartbeats 4000000
namespace LW
open PySem L2 Evl PySem.Spec PyProof.Rows PF
local macro_rules | `(tactic| trivial) => `(tactic| first
  | (with_reducible first | refine v0 ?_ | refine v1 ?_ | refine v2 ?_ | refine v3 ?_ | refine v4 ?_ | refine v5 ?_ | refine v6 ?_ | refine v7 ?_ | refine v8 ?_ | refine v9 ?_ | refine v10 ?_ | refine v11 ?_ | refine v12 ?_ | refine v13 ?_ | refine tn0 ?_ | refine tn1 ?_ | refine tn2 ?_ | refine tn3 ?_ | refine tn4 ?_ | refine tn5 ?_ | refine tn6 ?_ | refine tn7 ?_ | refine tn8 ?_ | refine tn9 ?_ | refine tn10 ?_ | refine tn11 ?_ | refine tn12 ?_ | refine tn13 ?_ | refine ss0 ?_ | refine ss1 ?_ | refine ss2 ?_ | refine ss3 ?_ | refine ss4 ?_ | refine ss5 ?_ | refine ss6 ?_ | refine ss7 ?_ | refine ss8 ?_ | refine ss9 ?_ | refine ss10 ?_ | refine ss11 ?_ | refine ss12 ?_ | refine ss13 ?_)
  | (with_reducible first | refine r_k ?_ | refine r_bin ?_ | refine r_cons ?_ | refine r_nil ?_ | refine r_call ?_ | refine r_blt ?_ | refine r_un ?_ | refine r_ok ?_ | refine s_seq ?_ | refine s_ret ?_ | refine s_if ?_ | refine s_expr ?_ | refine s_asg ?_ | refine s_par ?_ | refine s_nil ?_ | refine s_brk ?_ | refine s_ct ?_ | refine s_for ?_ | refine bool_t ?_ | refine bool_and ?_ | refine bool_or ?_ | refine bool_not ?_ | refine bool_yes ?_ | refine r_and ?_ | refine r_or ?_ | refine r_not ?_ | refine r_ife ?_ | refine r_chain ?_ | refine r_isi ?_ | refine r_lam ?_ | refine r_back ?_ | refine r_listR1 ?_ | refine r_callK ?_ | refine r_mt ?_ | refine r_alloc ?_ | refine r_sliceA ?_ | refine r_sliceL ?_ | refine r_no ?_ | refine r_part ?_ | refine r_scope ?_ | refine t_nil ?_ | refine t_cons ?_ | refine q_seq ?_ | refine q_range ?_ | refine q_range2 ?_ | refine q_rangeD ?_ | refine q_enumA ?_ | refine nx_nx ?_ | refine nx_ret ?_ | refine nx_exc ?_ | refine nx_brk ?_ | refine nx_ct ?_ | refine bl_bl ?_ | refine cs_not ?_ | refine cs_t ?_ | refine cs_f ?_ | refine r_bind ?_ | refine r_nox ?_ | refine t_sub ?_ | refine s_retL ?_ | refine o1_sub ?_ | refine o1_add ?_ | refine o1_lt ?_ | refine o1_le ?_ | refine o1_gt ?_ | refine o1_ge ?_ | refine o1_neg ?_ | refine o1_eq ?_ | refine o1_ne ?_ | refine b1_abs ?_ | refine b1_int ?_ | refine b1_min2 ?_ | refine b1_max2 ?_ | refine o1_eqA ?_ | refine o1_neA ?_ | refine o1_eqS ?_ | refine o1_isN ?_ | refine o1_notN ?_ | refine x_bl ?_ | refine x_int ?_ | refine x_str ?_ | refine x_non ?_ | refine x_nx ?_ | refine x_tup ?_ | refine x_lst ?_ | refine sl_tup ?_ | refine sl_lst ?_ | refine sl_fz ?_ | refine sL_lst ?_ | refine sL_fz ?_)
  | (with_reducible first | refine r_tup ?_ | refine r_lst ?_ | refine o1_addT ?_ | refine o1_addL ?_ | refine b1_len ?_ | refine b1_tuple ?_ | refine b1_list ?_ | refine o1_cat ?_ | refine m1_append ?_ | refine o_pow10_1 ?_ | refine o_pow10_2 ?_ | refine o_pow10_3 ?_ | refine o_pow10_4 ?_ | refine o_pow10_5 ?_ | refine o_pow10_6 ?_ | refine o_pow10_7 ?_ | refine o_pow10_8 ?_ | refine o_pow10_9 ?_ | refine o_pow10_10 ?_ | refine o_pow10_11 ?_ | refine o_pow10_12 ?_ | refine o_pow10_13 ?_ | refine o_pow10_14 ?_ | refine o_pow10_15 ?_ | refine o_pow10_16 ?_ | refine o_pow10_17 ?_ | refine o_pow10_18 ?_ | refine o_pow10_20 ?_ | refine o_pow10_30 ?_)
  | ((with_reducible refine o1_ix ?_); refine ⟨_, _, by first | rfl | assumption, by first | rfl | exact atI_zero, ?_⟩)
  | ((with_reducible refine o1_mul ?_ ?_); first | omega | decide | fail)
  | ((with_reducible refine o1_div ?_ ?_); first | omega | decide | fail)
  | ((with_reducible refine o1_mod ?_ ?_); first | omega | decide | fail)
  | ((with_reducible refine b1_divmod ?_ ?_); first | omega | decide | fail)
  | ((with_reducible refine t_tup ?_ ?_); rfl)
  | ((with_reducible refine r_callV ?_ ?_); rfl)
  | (with_reducible refine cs_dec (fun _ => ?_) (fun _ => ?_))
  | (with_reducible refine cs_beq (fun _ => ?_) (fun _ => ?_))
  | ((with_reducible refine cs_te ?_ ?_); rfl)
  | ((with_reducible refine cs_fe ?_ ?_); rfl)
  | ((with_reducible refine put0 (by assumption) ?_ fun _ => ?_); first | rfl | fail)
  | ((with_reducible refine put1 (by assumption) ?_ fun _ => ?_); first | rfl | fail)
  | ((with_reducible refine put2 (by assumption) ?_ fun _ => ?_); first | rfl | fail)
  | ((fail_if_success (with_reducible refine pst_id ?_)); first
    | exact take_same
    | (with_reducible refine fun (_ : Nat) (_ : Store) (_ : _ = _) (_ : _ = _) (_ : _ = _) => ?_)
    | ((fail_if_success (with_reducible refine And.intro ?_ ?_)); refine ⟨_, by first | rfl | assumption, ?_⟩)
    | ((fail_if_success (with_reducible refine And.intro ?_ ?_)); refine ⟨_, _, rfl, ?_⟩)
    | ((fail_if_success (with_reducible refine And.intro ?_ ?_)); refine ⟨_, _, by first | rfl | assumption, rfl, ?_⟩)
    | ((with_reducible refine And.intro ?_ ?_); first | exact rfl | omega | (simp only [List.length_map]; omega) | exact ⟨rfl, rfl⟩ | exact Nat.le_of_ble_eq_true rfl | fail))
  | ((with_reducible refine dip_go (by assumption) ?_ ?_); (first | omega | (simp only [List.length_map]; omega) | fail); intro _ _ _ _ _ _)
  | ((with_reducible refine one_go (-1) (1000) (by assumption) ?_ ?_ ?_); (exact ⟨Nat.zero_lt_succ _, Nat.le_of_ble_eq_true rfl⟩); (focus ((repeat (first | exact bnd_nil | refine bnd_cons (by omega) ?_)); (all_goals fail))); intro _ _ _ _ _ _))
local macro_rules | `(tactic| done) => `(tactic| first
  | (with_reducible first | refine v0 ?_ | refine v1 ?_ | refine v2 ?_ | refine v3 ?_ | refine v4 ?_ | refine v5 ?_ | refine v6 ?_ | refine v7 ?_ | refine v8 ?_ | refine v9 ?_ | refine v10 ?_ | refine v11 ?_ | refine v12 ?_ | refine v13 ?_ | refine tn0 ?_ | refine tn1 ?_ | refine tn2 ?_ | refine tn3 ?_ | refine tn4 ?_ | refine tn5 ?_ | refine tn6 ?_ | refine tn7 ?_ | refine tn8 ?_ | refine tn9 ?_ | refine tn10 ?_ | refine tn11 ?_ | refine tn12 ?_ | refine tn13 ?_ | refine ss0 ?_ | refine ss1 ?_ | refine ss2 ?_ | refine ss3 ?_ | refine ss4 ?_ | refine ss5 ?_ | refine ss6 ?_ | refine ss7 ?_ | refine ss8 ?_ | refine ss9 ?_ | refine ss10 ?_ | refine ss11 ?_ | refine ss12 ?_ | refine ss13 ?_)
  | (with_reducible first | refine r_k ?_ | refine r_bin ?_ | refine r_cons ?_ | refine r_nil ?_ | refine r_call ?_ | refine r_blt ?_ | refine r_un ?_ | refine r_ok ?_ | refine s_seq ?_ | refine s_ret ?_ | refine s_if ?_ | refine s_expr ?_ | refine s_asg ?_ | refine s_par ?_ | refine s_nil ?_ | refine s_brk ?_ | refine s_ct ?_ | refine s_for ?_ | refine bool_t ?_ | refine bool_and ?_ | refine bool_or ?_ | refine bool_not ?_ | refine bool_yes ?_ | refine r_and ?_ | refine r_or ?_ | refine r_not ?_ | refine r_ife ?_ | refine r_chain ?_ | refine r_isi ?_ | refine r_lam ?_ | refine r_back ?_ | refine r_listR1 ?_ | refine r_callK ?_ | refine r_mt ?_ | refine r_alloc ?_ | refine r_sliceA ?_ | refine r_sliceL ?_ | refine r_no ?_ | refine r_part ?_ | refine r_scope ?_ | refine t_nil ?_ | refine t_cons ?_ | refine q_seq ?_ | refine q_range ?_ | refine q_range2 ?_ | refine q_rangeD ?_ | refine q_enumA ?_ | refine nx_nx ?_ | refine nx_ret ?_ | refine nx_exc ?_ | refine nx_brk ?_ | refine nx_ct ?_ | refine bl_bl ?_ | refine cs_not ?_ | refine cs_t ?_ | refine cs_f ?_ | refine r_bind ?_ | refine r_nox ?_ | refine t_sub ?_ | refine s_retL ?_ | refine o1_sub ?_ | refine o1_add ?_ | refine o1_lt ?_ | refine o1_le ?_ | refine o1_gt ?_ | refine o1_ge ?_ | refine o1_neg ?_ | refine o1_eq ?_ | refine o1_ne ?_ | refine b1_abs ?_ | refine b1_int ?_ | refine b1_min2 ?_ | refine b1_max2 ?_ | refine o1_eqA ?_ | refine o1_neA ?_ | refine o1_eqS ?_ | refine o1_isN ?_ | refine o1_notN ?_ | refine x_bl ?_ | refine x_int ?_ | refine x_str ?_ | refine x_non ?_ | refine x_nx ?_ | refine x_tup ?_ | refine x_lst ?_ | refine sl_tup ?_ | refine sl_lst ?_ | refine sl_fz ?_ | refine sL_lst ?_ | refine sL_fz ?_)
  | (with_reducible first | refine r_tup ?_ | refine r_lst ?_ | refine o1_addT ?_ | refine o1_addL ?_ | refine b1_len ?_ | refine b1_tuple ?_ | refine b1_list ?_ | refine o1_cat ?_ | refine m1_append ?_ | refine o_pow10_1 ?_ | refine o_pow10_2 ?_ | refine o_pow10_3 ?_ | refine o_pow10_4 ?_ | refine o_pow10_5 ?_ | refine o_pow10_6 ?_ | refine o_pow10_7 ?_ | refine o_pow10_8 ?_ | refine o_pow10_9 ?_ | refine o_pow10_10 ?_ | refine o_pow10_11 ?_ | refine o_pow10_12 ?_ | refine o_pow10_13 ?_ | refine o_pow10_14 ?_ | refine o_pow10_15 ?_ | refine o_pow10_16 ?_ | refine o_pow10_17 ?_ | refine o_pow10_18 ?_ | refine o_pow10_20 ?_ | refine o_pow10_30 ?_)
  | ((with_reducible refine o1_ix ?_); refine ⟨_, _, by first | rfl | assumption, by first | rfl | exact atI_zero, ?_⟩)
  | ((with_reducible refine o1_mul ?_ ?_); first | omega | decide | fail)
  | ((with_reducible refine o1_div ?_ ?_); first | omega | decide | fail)
  | ((with_reducible refine o1_mod ?_ ?_); first | omega | decide | fail)
  | ((with_reducible refine b1_divmod ?_ ?_); first | omega | decide | fail)
  | ((with_reducible refine t_tup ?_ ?_); rfl)
  | ((with_reducible refine r_callV ?_ ?_); rfl)
  | (with_reducible refine cs_dec (fun _ => ?_) (fun _ => ?_))
  | (with_reducible refine cs_beq (fun _ => ?_) (fun _ => ?_))
  | ((with_reducible refine cs_te ?_ ?_); rfl)
  | ((with_reducible refine cs_fe ?_ ?_); rfl)
  | ((with_reducible refine put0 (by assumption) ?_ fun _ => ?_); first | rfl | fail)
  | ((with_reducible refine put1 (by assumption) ?_ fun _ => ?_); first | rfl | fail)
  | ((with_reducible refine put2 (by assumption) ?_ fun _ => ?_); first | rfl | fail)
  | ((fail_if_success (with_reducible refine pst_id ?_)); first
    | exact take_same
    | (with_reducible refine fun (_ : Nat) (_ : Store) (_ : _ = _) (_ : _ = _) (_ : _ = _) => ?_)
    | ((fail_if_success (with_reducible refine And.intro ?_ ?_)); refine ⟨_, by first | rfl | assumption, ?_⟩)
    | ((fail_if_success (with_reducible refine And.intro ?_ ?_)); refine ⟨_, _, rfl, ?_⟩)
    | ((fail_if_success (with_reducible refine And.intro ?_ ?_)); refine ⟨_, _, by first | rfl | assumption, rfl, ?_⟩)
    | ((with_reducible refine And.intro ?_ ?_); first | exact rfl | omega | (simp only [List.length_map]; omega) | exact ⟨rfl, rfl⟩ | exact Nat.le_of_ble_eq_true rfl | fail))
  | ((with_reducible refine dip_go (by assumption) ?_ ?_); (first | omega | (simp only [List.length_map]; omega) | fail); intro _ _ _ _ _ _)
  | ((with_reducible refine one_go (-1) (1000) (by assumption) ?_ ?_ ?_); (exact ⟨Nat.zero_lt_succ _, Nat.le_of_ble_eq_true rfl⟩); (focus ((repeat (first | exact bnd_nil | refine bnd_cons (by omega) ?_)); (all_goals fail))); intro _ _ _ _ _ _)
  | ((fail_if_success (with_reducible refine pst_id ?_)); first | (with_reducible rfl) | assumption | contradiction))

theorem near_go {n : Nat} {S : Store} {Q : D → Store → Prop} {E : XV → Store → Prop} (h : Well n S) {ns : List Int} (h0 : 0 < ns.length ∧ ns.length < 1000000) (hb : InB 0 999 ns) (k : ∀ v S', 0 ≤ v → v ≤ 999 → Fr n S S' → Well n S' → Q (.int v) S') :
    Pst (F__law_near [.loc n, tI ns] S) Q E := by
  unfold F__law_near b__law_near
  refine call_go rfl ?_
  dsimp only [startE, List.map, List.replicate, List.length, List.cons_append, List.nil_append, Nat.reduceAdd, Nat.reduceSub]
  repeat' trivial
  refine one_mem ns h (fun _ => rfl) h0 fun base S1 hm f1 w1 => ?_
  have hbb := hb base hm
  repeat' trivial
  rename_i r S2 r0 r1 f2 w2 v S3 v0 v1 f3 w3
  have f : Fr n S S3 := (f1.trans f2).trans f3
  rw [f.take]
  exact k _ _ (by omega) (by omega) f w3
theorem near_ok {n : Nat} {S : Store} (h : Well n S) {ns : List Int} (h0 : 0 < ns.length ∧ ns.length < 1000000) (hb : InB 0 999 ns) :
    Pst (F__law_near [.loc n, tI ns] S) (fun d S' => ∃ v, d = .int v ∧ 0 ≤ v ∧ v ≤ 999 ∧ Fr n S S') NoE := near_go h h0 hb fun v S' h1 h2 f w => ⟨v, rfl, h1, h2, f⟩
theorem ceilings_ok {n : Nat} {S : Store} (h : Well n S) {ns : List Int} (h0 : 0 < ns.length ∧ ns.length < 1000000) (hb : InB 0 999 ns) {most : Int} (hm : 1 ≤ most ∧ most ≤ 1000) :
    Pst (F__law_ceilings [.loc n, tI ns, .int most] S) (fun d S' => ∃ cs, d = tI cs ∧ 1 ≤ cs.length ∧ (cs.length : Int) ≤ most ∧ InB 0 999 cs ∧ Fr n S S') NoE := by
  unfold F__law_ceilings b__law_ceilings
  refine call_go rfl ?_
  dsimp only [startE, List.map, List.replicate, List.length, List.cons_append, List.nil_append, Nat.reduceAdd, Nat.reduceSub]
  repeat' trivial
  refine r_comp ?_
  repeat' trivial
  rename_i r S1 r0 r1 f1 w1
  rw [show Int.toNat (1 + r) = (1 + r).toNat from rfl]
  refine comp_inv (fun i acc S3 => ∃ xs, acc = xs.map D.int ∧ xs.length = i ∧ InB 0 999 xs ∧ Fr n S S3) rfl ?_ rfl ?_ ⟨[], rfl, rfl, InB.nil, f1⟩ ?_ ?_
  · rintro i acc S3 ⟨xs, rfl, hl, hb, hf⟩
    exact ⟨by rw [hf.2.1, f1.2.1], rfl⟩
  · rw [ranged_len]; show _ ≤ 1000000; omega
  · rintro i d acc S3 hd ⟨xs, rfl, hl, hbx, hf⟩
    obtain ⟨hi, rfl⟩ := ranged_at hd
    have w3 := hf.1.more (xs.map D.int)
    dsimp only [wipeE, List.set]
    repeat' trivial
    refine ⟨fun _ => ?_, fun hb => by cases hb⟩
    repeat' trivial
    refine Pst.imp (near_ok w3 h0 hb) ?_
    rintro _ S4 ⟨v, rfl, v0, v1, f4⟩
    obtain ⟨S5, rfl, f5⟩ := Fr.back hf.1 f4
    exact ⟨S5, rfl, rfl, xs ++ [v], by rw [List.map_append]; rfl, by rw [List.length_append, hl]; rfl, hbx.add (by omega), hf.trans f5⟩
  · rintro acc S3 ⟨xs, rfl, hl, hbx, hf⟩
    rw [ranged_len] at hl
    repeat' trivial
    refine ⟨pures_mapI, xs, rfl, by omega, by omega, hbx, ?_⟩
    rw [hf.take]
    exact hf
end LW
set_option Elab.async false
set_option linter.all false
set_option maxRecDepth 100000
set_option maxHeartbeats 4000000
namespace LW
open PySem L2 Evl PySem.Spec PyProof.Rows PF
local macro_rules | `(tactic| trivial) => `(tactic| first
  | (with_reducible first | refine v0 ?_ | refine v1 ?_ | refine v2 ?_ | refine v3 ?_ | refine v4 ?_ | refine v5 ?_ | refine v6 ?_ | refine v7 ?_ | refine v8 ?_ | refine v9 ?_ | refine v10 ?_ | refine v11 ?_ | refine v12 ?_ | refine v13 ?_ | refine tn0 ?_ | refine tn1 ?_ | refine tn2 ?_ | refine tn3 ?_ | refine tn4 ?_ | refine tn5 ?_ | refine tn6 ?_ | refine tn7 ?_ | refine tn8 ?_ | refine tn9 ?_ | refine tn10 ?_ | refine tn11 ?_ | refine tn12 ?_ | refine tn13 ?_ | refine ss0 ?_ | refine ss1 ?_ | refine ss2 ?_ | refine ss3 ?_ | refine ss4 ?_ | refine ss5 ?_ | refine ss6 ?_ | refine ss7 ?_ | refine ss8 ?_ | refine ss9 ?_ | refine ss10 ?_ | refine ss11 ?_ | refine ss12 ?_ | refine ss13 ?_)
  | (with_reducible first | refine r_k ?_ | refine r_bin ?_ | refine r_cons ?_ | refine r_nil ?_ | refine r_call ?_ | refine r_blt ?_ | refine r_un ?_ | refine r_ok ?_ | refine s_seq ?_ | refine s_ret ?_ | refine s_if ?_ | refine s_expr ?_ | refine s_asg ?_ | refine s_par ?_ | refine s_nil ?_ | refine s_brk ?_ | refine s_ct ?_ | refine s_for ?_ | refine bool_t ?_ | refine bool_and ?_ | refine bool_or ?_ | refine bool_not ?_ | refine bool_yes ?_ | refine r_and ?_ | refine r_or ?_ | refine r_not ?_ | refine r_ife ?_ | refine r_chain ?_ | refine r_isi ?_ | refine r_lam ?_ | refine r_back ?_ | refine r_listR1 ?_ | refine r_callK ?_ | refine r_mt ?_ | refine r_alloc ?_ | refine r_sliceA ?_ | refine r_sliceL ?_ | refine r_no ?_ | refine r_part ?_ | refine r_scope ?_ | refine t_nil ?_ | refine t_cons ?_ | refine q_seq ?_ | refine q_range ?_ | refine q_range2 ?_ | refine q_rangeD ?_ | refine q_enumA ?_ | refine nx_nx ?_ | refine nx_ret ?_ | refine nx_exc ?_ | refine nx_brk ?_ | refine nx_ct ?_ | refine bl_bl ?_ | refine cs_not ?_ | refine cs_t ?_ | refine cs_f ?_ | refine r_bind ?_ | refine r_nox ?_ | refine t_sub ?_ | refine s_retL ?_ | refine o1_sub ?_ | refine o1_add ?_ | refine o1_lt ?_ | refine o1_le ?_ | refine o1_gt ?_ | refine o1_ge ?_ | refine o1_neg ?_ | refine o1_eq ?_ | refine o1_ne ?_ | refine b1_abs ?_ | refine b1_int ?_ | refine b1_min2 ?_ | refine b1_max2 ?_ | refine o1_eqA ?_ | refine o1_neA ?_ | refine o1_eqS ?_ | refine o1_isN ?_ | refine o1_notN ?_ | refine x_bl ?_ | refine x_int ?_ | refine x_str ?_ | refine x_non ?_ | refine x_nx ?_ | refine x_tup ?_ | refine x_lst ?_ | refine sl_tup ?_ | refine sl_lst ?_ | refine sl_fz ?_ | refine sL_lst ?_ | refine sL_fz ?_)
  | (with_reducible first | refine r_tup ?_ | refine r_lst ?_ | refine o1_addT ?_ | refine o1_addL ?_ | refine b1_len ?_ | refine b1_tuple ?_ | refine b1_list ?_ | refine o1_cat ?_ | refine m1_append ?_ | refine o_pow10_1 ?_ | refine o_pow10_2 ?_ | refine o_pow10_3 ?_ | refine o_pow10_4 ?_ | refine o_pow10_5 ?_ | refine o_pow10_6 ?_ | refine o_pow10_7 ?_ | refine o_pow10_8 ?_ | refine o_pow10_9 ?_ | refine o_pow10_10 ?_ | refine o_pow10_11 ?_ | refine o_pow10_12 ?_ | refine o_pow10_13 ?_ | refine o_pow10_14 ?_ | refine o_pow10_15 ?_ | refine o_pow10_16 ?_ | refine o_pow10_17 ?_ | refine o_pow10_18 ?_ | refine o_pow10_20 ?_ | refine o_pow10_30 ?_)
  | ((with_reducible refine o1_ix ?_); refine ⟨_, _, by first | rfl | assumption, by first | rfl | exact atI_zero, ?_⟩)
  | ((with_reducible refine o1_mul ?_ ?_); first | omega | decide | fail)
  | ((with_reducible refine o1_div ?_ ?_); first | omega | decide | fail)
  | ((with_reducible refine o1_mod ?_ ?_); first | omega | decide | fail)
  | ((with_reducible refine b1_divmod ?_ ?_); first | omega | decide | fail)
  | ((with_reducible refine t_tup ?_ ?_); rfl)
  | ((with_reducible refine r_callV ?_ ?_); rfl)
  | (with_reducible refine cs_dec (fun _ => ?_) (fun _ => ?_))
  | (with_reducible refine cs_beq (fun _ => ?_) (fun _ => ?_))
  | ((with_reducible refine cs_te ?_ ?_); rfl)
  | ((with_reducible refine cs_fe ?_ ?_); rfl)
  | ((with_reducible refine put0 (by assumption) ?_ fun _ => ?_); first | rfl | fail)
  | ((with_reducible refine put1 (by assumption) ?_ fun _ => ?_); first | rfl | fail)
  | ((with_reducible refine put2 (by assumption) ?_ fun _ => ?_); first | rfl | fail)
  | ((fail_if_success (with_reducible refine pst_id ?_)); first
    | exact take_same
    | (with_reducible refine fun (_ : Nat) (_ : Store) (_ : _ = _) (_ : _ = _) (_ : _ = _) => ?_)
    | ((fail_if_success (with_reducible refine And.intro ?_ ?_)); refine ⟨_, by first | rfl | assumption, ?_⟩)
    | ((fail_if_success (with_reducible refine And.intro ?_ ?_)); refine ⟨_, _, rfl, ?_⟩)
    | ((fail_if_success (with_reducible refine And.intro ?_ ?_)); refine ⟨_, _, by first | rfl | assumption, rfl, ?_⟩)
    | ((with_reducible refine And.intro ?_ ?_); first | exact rfl | omega | (simp only [List.length_map]; omega) | exact ⟨rfl, rfl⟩ | exact Nat.le_of_ble_eq_true rfl | fail)))
local macro_rules | `(tactic| done) => `(tactic| first
  | (with_reducible first | refine v0 ?_ | refine v1 ?_ | refine v2 ?_ | refine v3 ?_ | refine v4 ?_ | refine v5 ?_ | refine v6 ?_ | refine v7 ?_ | refine v8 ?_ | refine v9 ?_ | refine v10 ?_ | refine v11 ?_ | refine v12 ?_ | refine v13 ?_ | refine tn0 ?_ | refine tn1 ?_ | refine tn2 ?_ | refine tn3 ?_ | refine tn4 ?_ | refine tn5 ?_ | refine tn6 ?_ | refine tn7 ?_ | refine tn8 ?_ | refine tn9 ?_ | refine tn10 ?_ | refine tn11 ?_ | refine tn12 ?_ | refine tn13 ?_ | refine ss0 ?_ | refine ss1 ?_ | refine ss2 ?_ | refine ss3 ?_ | refine ss4 ?_ | refine ss5 ?_ | refine ss6 ?_ | refine ss7 ?_ | refine ss8 ?_ | refine ss9 ?_ | refine ss10 ?_ | refine ss11 ?_ | refine ss12 ?_ | refine ss13 ?_)
  | (with_reducible first | refine r_k ?_ | refine r_bin ?_ | refine r_cons ?_ | refine r_nil ?_ | refine r_call ?_ | refine r_blt ?_ | refine r_un ?_ | refine r_ok ?_ | refine s_seq ?_ | refine s_ret ?_ | refine s_if ?_ | refine s_expr ?_ | refine s_asg ?_ | refine s_par ?_ | refine s_nil ?_ | refine s_brk ?_ | refine s_ct ?_ | refine s_for ?_ | refine bool_t ?_ | refine bool_and ?_ | refine bool_or ?_ | refine bool_not ?_ | refine bool_yes ?_ | refine r_and ?_ | refine r_or ?_ | refine r_not ?_ | refine r_ife ?_ | refine r_chain ?_ | refine r_isi ?_ | refine r_lam ?_ | refine r_back ?_ | refine r_listR1 ?_ | refine r_callK ?_ | refine r_mt ?_ | refine r_alloc ?_ | refine r_sliceA ?_ | refine r_sliceL ?_ | refine r_no ?_ | refine r_part ?_ | refine r_scope ?_ | refine t_nil ?_ | refine t_cons ?_ | refine q_seq ?_ | refine q_range ?_ | refine q_range2 ?_ | refine q_rangeD ?_ | refine q_enumA ?_ | refine nx_nx ?_ | refine nx_ret ?_ | refine nx_exc ?_ | refine nx_brk ?_ | refine nx_ct ?_ | refine bl_bl ?_ | refine cs_not ?_ | refine cs_t ?_ | refine cs_f ?_ | refine r_bind ?_ | refine r_nox ?_ | refine t_sub ?_ | refine s_retL ?_ | refine o1_sub ?_ | refine o1_add ?_ | refine o1_lt ?_ | refine o1_le ?_ | refine o1_gt ?_ | refine o1_ge ?_ | refine o1_neg ?_ | refine o1_eq ?_ | refine o1_ne ?_ | refine b1_abs ?_ | refine b1_int ?_ | refine b1_min2 ?_ | refine b1_max2 ?_ | refine o1_eqA ?_ | refine o1_neA ?_ | refine o1_eqS ?_ | refine o1_isN ?_ | refine o1_notN ?_ | refine x_bl ?_ | refine x_int ?_ | refine x_str ?_ | refine x_non ?_ | refine x_nx ?_ | refine x_tup ?_ | refine x_lst ?_ | refine sl_tup ?_ | refine sl_lst ?_ | refine sl_fz ?_ | refine sL_lst ?_ | refine sL_fz ?_)
  | (with_reducible first | refine r_tup ?_ | refine r_lst ?_ | refine o1_addT ?_ | refine o1_addL ?_ | refine b1_len ?_ | refine b1_tuple ?_ | refine b1_list ?_ | refine o1_cat ?_ | refine m1_append ?_ | refine o_pow10_1 ?_ | refine o_pow10_2 ?_ | refine o_pow10_3 ?_ | refine o_pow10_4 ?_ | refine o_pow10_5 ?_ | refine o_pow10_6 ?_ | refine o_pow10_7 ?_ | refine o_pow10_8 ?_ | refine o_pow10_9 ?_ | refine o_pow10_10 ?_ | refine o_pow10_11 ?_ | refine o_pow10_12 ?_ | refine o_pow10_13 ?_ | refine o_pow10_14 ?_ | refine o_pow10_15 ?_ | refine o_pow10_16 ?_ | refine o_pow10_17 ?_ | refine o_pow10_18 ?_ | refine o_pow10_20 ?_ | refine o_pow10_30 ?_)
  | ((with_reducible refine o1_ix ?_); refine ⟨_, _, by first | rfl | assumption, by first | rfl | exact atI_zero, ?_⟩)
  | ((with_reducible refine o1_mul ?_ ?_); first | omega | decide | fail)
  | ((with_reducible refine o1_div ?_ ?_); first | omega | decide | fail)
  | ((with_reducible refine o1_mod ?_ ?_); first | omega | decide | fail)
  | ((with_reducible refine b1_divmod ?_ ?_); first | omega | decide | fail)
  | ((with_reducible refine t_tup ?_ ?_); rfl)
  | ((with_reducible refine r_callV ?_ ?_); rfl)
  | (with_reducible refine cs_dec (fun _ => ?_) (fun _ => ?_))
  | (with_reducible refine cs_beq (fun _ => ?_) (fun _ => ?_))
  | ((with_reducible refine cs_te ?_ ?_); rfl)
  | ((with_reducible refine cs_fe ?_ ?_); rfl)
  | ((with_reducible refine put0 (by assumption) ?_ fun _ => ?_); first | rfl | fail)
  | ((with_reducible refine put1 (by assumption) ?_ fun _ => ?_); first | rfl | fail)
  | ((with_reducible refine put2 (by assumption) ?_ fun _ => ?_); first | rfl | fail)
  | ((fail_if_success (with_reducible refine pst_id ?_)); first
    | exact take_same
    | (with_reducible refine fun (_ : Nat) (_ : Store) (_ : _ = _) (_ : _ = _) (_ : _ = _) => ?_)
    | ((fail_if_success (with_reducible refine And.intro ?_ ?_)); refine ⟨_, by first | rfl | assumption, ?_⟩)
    | ((fail_if_success (with_reducible refine And.intro ?_ ?_)); refine ⟨_, _, rfl, ?_⟩)
    | ((fail_if_success (with_reducible refine And.intro ?_ ?_)); refine ⟨_, _, by first | rfl | assumption, rfl, ?_⟩)
    | ((with_reducible refine And.intro ?_ ?_); first | exact rfl | omega | (simp only [List.length_map]; omega) | exact ⟨rfl, rfl⟩ | exact Nat.le_of_ble_eq_true rfl | fail))
  | ((fail_if_success (with_reducible refine pst_id ?_)); first | (with_reducible rfl) | assumption | contradiction))

/-! falling tables: as many are left as can be -/
def geL (b : Int) (cs : List Int) : List Nat := (List.range cs.length).filter (okL b cs)
def Falls (t : List Int) : Prop := ∀ i j, i ≤ j → j < t.length → t.getD j 0 ≤ t.getD i 0
theorem okL_iff {b : Int} {cs : List Int} {k : Nat} : okL b cs k = true ↔ b ≤ cs.getD k 0 := by unfold okL; exact decide_eq_true_iff
theorem geL_mem {b : Int} {cs : List Int} {k : Nat} : k ∈ geL b cs ↔ k < cs.length ∧ b ≤ cs.getD k 0 := by
  unfold geL
  rw [List.mem_filter, List.mem_range, okL_iff]
theorem geL_len (b : Int) (cs : List Int) : (geL b cs).length ≤ cs.length := by
  have := List.length_filter_le (okL b cs) (List.range cs.length)
  rw [List.length_range] at this; exact this
theorem filter_le {p q : Nat → Bool} : ∀ (l : List Nat), (∀ k ∈ l, p k = true → q k = true) → (l.filter p).length ≤ (l.filter q).length
  | [], _ => Nat.le_refl _
  | a :: l, h => by
    have ih := filter_le l fun k hk => h k (List.mem_cons_of_mem _ hk)
    by_cases hp : p a = true
    · rw [List.filter_cons_of_pos hp, List.filter_cons_of_pos (h a (List.mem_cons_self ..) hp)]
      simp only [List.length_cons]; omega
    · rw [List.filter_cons_of_neg hp]
      by_cases hq : q a = true
      · rw [List.filter_cons_of_pos hq]; simp only [List.length_cons]; omega
      · rw [List.filter_cons_of_neg hq]; exact ih
theorem geL_mono {b c : Int} {cs ds : List Int} (hl : cs.length = ds.length) (h : ∀ k, k < cs.length → b ≤ cs.getD k 0 → c ≤ ds.getD k 0) : (geL b cs).length ≤ (geL c ds).length := by
  unfold geL
  rw [← hl]
  exact filter_le _ fun k hk hp => okL_iff.mpr (h k (List.mem_range.mp hk) (okL_iff.mp hp))
theorem geL_anti {b c : Int} {cs : List Int} (h : c ≤ b) : (geL b cs).length ≤ (geL c cs).length := geL_mono rfl fun _ _ hk => Int.le_trans h hk
theorem geL_congr {b c : Int} {cs : List Int} (h : ∀ k, k < cs.length → (b ≤ cs.getD k 0 ↔ c ≤ cs.getD k 0)) : geL b cs = geL c cs := by
  unfold geL
  refine List.filter_congr fun k hk => ?_
  unfold okL
  exact decide_eq_decide.mpr (h k (List.mem_range.mp hk))
def Good (t cs : List Int) (m : Nat) : Prop := 1 ≤ m ∧ m ≤ cs.length ∧ m ≤ (geL (t.getD (m - 1) 0) cs).length
/-- what the turns keep -/
def Kept (t cs : List Int) (l : List Nat) : Prop := ∃ b, l = geL b cs ∧ ∀ m, Good t cs m → b ≤ t.getD (m - 1) 0
theorem kept_len {t cs : List Int} {b : Int} (h : ∀ m, Good t cs m → b ≤ t.getD (m - 1) 0) {m : Nat} (hm : Good t cs m) : m ≤ (geL b cs).length := Nat.le_trans hm.2.2 (geL_anti (h m hm))
theorem kept_step {t cs : List Int} (hf : Falls t) (hc : cs.length ≤ t.length) {l : List Nat} (h : Kept t cs l) : Kept t cs (stepL t cs l) := by
  obtain ⟨b, rfl, hb⟩ := h
  refine ⟨max b (t.getD ((geL b cs).length - 1) 0), ?_, fun m hm => ?_⟩
  · unfold stepL
    generalize t.getD ((geL b cs).length - 1) 0 = c
    unfold geL
    rw [List.filter_filter]
    refine List.filter_congr fun k hk => ?_
    unfold okL
    rw [← Bool.decide_and]
    refine decide_eq_decide.mpr ?_
    omega
  · have h1 := kept_len hb hm
    have h2 := geL_len b cs
    have h3 := hf (m - 1) ((geL b cs).length - 1) (by omega) (by have := hm.1; omega)
    have h4 := hb m hm
    omega
theorem left_kept {t cs : List Int} (hf : Falls t) (hc : cs.length ≤ t.length) (ht : ∀ x ∈ t, 0 ≤ x) (hcs : ∀ x ∈ cs, 0 ≤ x) : Kept t cs (leftL t cs) := by
  refine turns_inv (P := Kept t cs) (fun l hl => kept_step hf hc hl) _ _ ⟨0, ?_, fun m hm => ?_⟩
  · unfold geL
    refine (List.filter_eq_self.mpr fun k hk => okL_iff.mpr ?_).symm
    have hk := List.mem_range.mp hk
    rw [List.getD_eq_getElem?_getD, List.getElem?_eq_getElem hk]
    exact hcs _ (List.getElem_mem hk)
  · have h1 : m - 1 < t.length := by have := hm.1; have := hm.2.1; omega
    rw [List.getD_eq_getElem?_getD, List.getElem?_eq_getElem h1]
    exact ht _ (List.getElem_mem h1)
structure Most (t cs : List Int) (m : Nat) : Prop where
  good : Good t cs m
  left : leftL t cs = geL (t.getD (m - 1) 0) cs
  len : (leftL t cs).length = m
  most : ∀ k, Good t cs k → k ≤ m
theorem left_most {t cs : List Int} (hf : Falls t) (hc : cs.length ≤ t.length) (ht : ∀ x ∈ t, 0 ≤ x) (hcs : ∀ x ∈ cs, 0 ≤ x) : (leftL t cs = [] ∧ ∀ m, ¬ Good t cs m) ∨ ∃ m, Most t cs m := by
  obtain ⟨b, hl, hb⟩ := left_kept hf hc ht hcs
  have hend : stepL t cs (leftL t cs) = leftL t cs := turns_end t cs _ _ (by rw [List.length_range]; exact Nat.le_refl _)
  by_cases h0 : leftL t cs = []
  · refine .inl ⟨h0, fun m hm => ?_⟩
    have h1 := kept_len hb hm
    rw [← hl, h0] at h1
    have := hm.1
    simp at h1
    omega
  · refine .inr ⟨(leftL t cs).length, ?_⟩
    have hpos : 1 ≤ (leftL t cs).length := List.length_pos_iff.mpr h0
    have hle := leftL_len t cs
    have hall : ∀ k ∈ leftL t cs, t.getD ((leftL t cs).length - 1) 0 ≤ cs.getD k 0 := fun k hk => by
      rw [← hend] at hk
      exact okL_iff.mp (List.mem_filter.mp hk).2
    have hg : Good t cs (leftL t cs).length := by
      refine ⟨hpos, hle, ?_⟩
      have e : (leftL t cs).length = (geL b cs).length := by rw [← hl]
      conv => lhs; rw [e]
      refine geL_mono rfl fun k hk hbk => hall k ?_
      rw [hl]
      exact geL_mem.mpr ⟨hk, hbk⟩
    have hbt := hb _ hg
    refine ⟨hg, ?_, rfl, fun k hk => ?_⟩
    · conv => lhs; rw [hl]
      refine geL_congr fun k hk => ⟨fun h => hall k ?_, fun h => Int.le_trans hbt h⟩
      rw [hl]
      exact geL_mem.mpr ⟨hk, h⟩
    · have := kept_len hb hk
      rw [← hl] at this
      exact this
theorem share_non {t cs : List Int} (h : leftL t cs = []) : shareD t cs = .tup [.tup [], .non] := by
  unfold shareD priceD
  rw [h]
  rfl
theorem share_most {t cs : List Int} {m : Nat} (h : Most t cs m) : shareD t cs = .tup [.tup ((geL (t.getD (m - 1) 0) cs).map nD), .int (t.getD (m - 1) 0)] := by
  have h1 := h.len
  have h2 := h.good.1
  unfold shareD priceD
  rw [if_neg (fun e => by rw [e] at h1; simp at h1; omega), h1, h.left]
theorem most_one {t cs : List Int} {m k : Nat} (h : Most t cs m) (hk : Good t cs k) (hm : ∀ j, Good t cs j → j ≤ k) : m = k := by
  have h1 := h.most k hk
  have h2 := hm m h.good
  omega
/-! one more person who can pay nothing -/
theorem geL_more {b : Int} {cs : List Int} (hb : 0 < b) : geL b (cs ++ [0]) = geL b cs := by
  unfold geL
  rw [List.length_append, List.length_singleton, List.range_succ, List.filter_append]
  have e1 : okL b (cs ++ [0]) cs.length = false := by
    unfold okL
    refine decide_eq_false ?_
    rw [List.getD_eq_getElem?_getD, List.getElem?_append_right (Nat.le_refl _), Nat.sub_self]
    show ¬ b ≤ 0
    omega
  rw [List.filter_cons_of_neg (by rw [e1]; decide), List.filter_nil, List.append_nil]
  refine List.filter_congr fun k hk => ?_
  have hk := List.mem_range.mp hk
  unfold okL
  rw [List.getD_eq_getElem?_getD, List.getD_eq_getElem?_getD, List.getElem?_append_left hk]
theorem share_more {t cs : List Int} (hf : Falls t) (hc : cs.length + 1 ≤ t.length) (ht : ∀ x ∈ t, 0 < x) (hcs : ∀ x ∈ cs, 0 ≤ x) : shareD t (cs ++ [0]) = shareD t cs := by
  have ht0 : ∀ x ∈ t, 0 ≤ x := fun x hx => Int.le_of_lt (ht x hx)
  have hcs0 : ∀ x ∈ cs ++ [0], 0 ≤ x := fun x hx => by
    rcases List.mem_append.mp hx with h | h
    · exact hcs x h
    · rw [List.mem_singleton] at h; omega
  have hpos : ∀ m, m < t.length → 0 < t.getD m 0 := fun m hm => by
    rw [List.getD_eq_getElem?_getD, List.getElem?_eq_getElem hm]
    exact ht _ (List.getElem_mem hm)
  have hgood : ∀ m, Good t (cs ++ [0]) m ↔ Good t cs m := fun m => by
    unfold Good
    rw [List.length_append, List.length_singleton]
    constructor
    · rintro ⟨h1, h2, h3⟩
      rw [geL_more (hpos _ (by omega))] at h3
      have := geL_len (t.getD (m - 1) 0) cs
      exact ⟨h1, by omega, h3⟩
    · rintro ⟨h1, h2, h3⟩
      rw [geL_more (hpos _ (by omega))]
      exact ⟨h1, by omega, h3⟩
  rcases left_most hf (by rw [List.length_append, List.length_singleton]; exact hc) ht0 hcs0 with ⟨h1, h2⟩ | ⟨m, hm⟩
  · rcases left_most hf (by omega) ht0 hcs with ⟨h3, _⟩ | ⟨k, hk⟩
    · rw [share_non h1, share_non h3]
    · exact absurd ((hgood k).mpr hk.good) (h2 k)
  · rcases left_most hf (by omega) ht0 hcs with ⟨_, h4⟩ | ⟨k, hk⟩
    · exact absurd ((hgood m).mp hm.good) (h4 m)
    · have e : m = k := most_one hm ((hgood k).mpr hk.good) fun j hj => hk.most j ((hgood j).mp hj)
      subst e
      rw [share_most hm, share_most hk, geL_more (hpos _ (by have := hk.good.1; have := hk.good.2.1; omega))]
/-! better terms -/
structure Eased (t cs u ds : List Int) : Prop where
  lt : u.length = t.length
  lc : ds.length = cs.length
  tab : ∀ i, i < t.length → u.getD i 0 ≤ t.getD i 0
  ceil : ∀ k, k < cs.length → cs.getD k 0 ≤ ds.getD k 0
theorem eased {t cs u ds : List Int} (hf : Falls u) (hc : cs.length ≤ t.length) (h : Eased t cs u ds) (hu : ∀ x ∈ u, 0 ≤ x) (hds : ∀ x ∈ ds, 0 ≤ x) {m : Nat} (hm : Most t cs m) :
    ∃ k, Most u ds k ∧ u.getD (k - 1) 0 ≤ t.getD (m - 1) 0 ∧ ∀ i ∈ geL (t.getD (m - 1) 0) cs, i ∈ geL (u.getD (k - 1) 0) ds := by
  obtain ⟨m1, m2, m3⟩ := hm.good
  have ht := h.tab (m - 1) (by omega)
  have hg : Good u ds m := by
    refine ⟨m1, by rw [h.lc]; exact m2, Nat.le_trans m3 (geL_mono h.lc.symm fun k hk hb => ?_)⟩
    have := h.ceil k hk
    omega
  rcases left_most hf (by rw [h.lt, h.lc]; exact hc) hu hds with ⟨_, h2⟩ | ⟨k, hk⟩
  · exact absurd hg (h2 m)
  · have hmk := hk.most m hg
    have k2 := hk.good.2.1
    rw [h.lc] at k2
    have h3 := hf (m - 1) (k - 1) (by omega) (by rw [h.lt]; omega)
    refine ⟨k, hk, by omega, fun i hi => ?_⟩
    obtain ⟨i1, i2⟩ := geL_mem.mp hi
    have := h.ceil i i1
    exact geL_mem.mpr ⟨by rw [h.lc]; exact i1, by omega⟩
end LW
set_option Elab.async false
set_option linter.all false
set_option maxRecDepth 100000
set_option maxHeartbeats 4000000
namespace LW
open PySem L2 Evl PySem.Spec PyProof.Rows PF
local macro_rules | `(tactic| trivial) => `(tactic| first
  | (with_reducible first | refine v0 ?_ | refine v1 ?_ | refine v2 ?_ | refine v3 ?_ | refine v4 ?_ | refine v5 ?_ | refine v6 ?_ | refine v7 ?_ | refine v8 ?_ | refine v9 ?_ | refine v10 ?_ | refine v11 ?_ | refine v12 ?_ | refine v13 ?_ | refine tn0 ?_ | refine tn1 ?_ | refine tn2 ?_ | refine tn3 ?_ | refine tn4 ?_ | refine tn5 ?_ | refine tn6 ?_ | refine tn7 ?_ | refine tn8 ?_ | refine tn9 ?_ | refine tn10 ?_ | refine tn11 ?_ | refine tn12 ?_ | refine tn13 ?_ | refine ss0 ?_ | refine ss1 ?_ | refine ss2 ?_ | refine ss3 ?_ | refine ss4 ?_ | refine ss5 ?_ | refine ss6 ?_ | refine ss7 ?_ | refine ss8 ?_ | refine ss9 ?_ | refine ss10 ?_ | refine ss11 ?_ | refine ss12 ?_ | refine ss13 ?_)
  | (with_reducible first | refine r_k ?_ | refine r_bin ?_ | refine r_cons ?_ | refine r_nil ?_ | refine r_call ?_ | refine r_blt ?_ | refine r_un ?_ | refine r_ok ?_ | refine s_seq ?_ | refine s_ret ?_ | refine s_if ?_ | refine s_expr ?_ | refine s_asg ?_ | refine s_par ?_ | refine s_nil ?_ | refine s_brk ?_ | refine s_ct ?_ | refine s_for ?_ | refine bool_t ?_ | refine bool_and ?_ | refine bool_or ?_ | refine bool_not ?_ | refine bool_yes ?_ | refine r_and ?_ | refine r_or ?_ | refine r_not ?_ | refine r_ife ?_ | refine r_chain ?_ | refine r_isi ?_ | refine r_lam ?_ | refine r_back ?_ | refine r_listR1 ?_ | refine r_callK ?_ | refine r_mt ?_ | refine r_alloc ?_ | refine r_sliceA ?_ | refine r_sliceL ?_ | refine r_no ?_ | refine r_part ?_ | refine r_scope ?_ | refine t_nil ?_ | refine t_cons ?_ | refine q_seq ?_ | refine q_range ?_ | refine q_range2 ?_ | refine q_rangeD ?_ | refine q_enumA ?_ | refine nx_nx ?_ | refine nx_ret ?_ | refine nx_exc ?_ | refine nx_brk ?_ | refine nx_ct ?_ | refine bl_bl ?_ | refine cs_not ?_ | refine cs_t ?_ | refine cs_f ?_ | refine r_bind ?_ | refine r_nox ?_ | refine t_sub ?_ | refine s_retL ?_ | refine o1_sub ?_ | refine o1_add ?_ | refine o1_lt ?_ | refine o1_le ?_ | refine o1_gt ?_ | refine o1_ge ?_ | refine o1_neg ?_ | refine o1_eq ?_ | refine o1_ne ?_ | refine b1_abs ?_ | refine b1_int ?_ | refine b1_min2 ?_ | refine b1_max2 ?_ | refine o1_eqA ?_ | refine o1_neA ?_ | refine o1_eqS ?_ | refine o1_isN ?_ | refine o1_notN ?_ | refine x_bl ?_ | refine x_int ?_ | refine x_str ?_ | refine x_non ?_ | refine x_nx ?_ | refine x_tup ?_ | refine x_lst ?_ | refine sl_tup ?_ | refine sl_lst ?_ | refine sl_fz ?_ | refine sL_lst ?_ | refine sL_fz ?_)
  | (with_reducible first | refine r_tup ?_ | refine r_lst ?_ | refine o1_addT ?_ | refine o1_addL ?_ | refine b1_len ?_ | refine b1_tuple ?_ | refine b1_list ?_ | refine o1_cat ?_ | refine m1_append ?_ | refine o_pow10_1 ?_ | refine o_pow10_2 ?_ | refine o_pow10_3 ?_ | refine o_pow10_4 ?_ | refine o_pow10_5 ?_ | refine o_pow10_6 ?_ | refine o_pow10_7 ?_ | refine o_pow10_8 ?_ | refine o_pow10_9 ?_ | refine o_pow10_10 ?_ | refine o_pow10_11 ?_ | refine o_pow10_12 ?_ | refine o_pow10_13 ?_ | refine o_pow10_14 ?_ | refine o_pow10_15 ?_ | refine o_pow10_16 ?_ | refine o_pow10_17 ?_ | refine o_pow10_18 ?_ | refine o_pow10_20 ?_ | refine o_pow10_30 ?_)
  | ((with_reducible refine o1_ix ?_); refine ⟨_, _, by first | rfl | assumption, by first | rfl | exact atI_zero, ?_⟩)
  | ((with_reducible refine o1_mul ?_ ?_); first | omega | decide | fail)
  | ((with_reducible refine o1_div ?_ ?_); first | omega | decide | fail)
  | ((with_reducible refine o1_mod ?_ ?_); first | omega | decide | fail)
  | ((with_reducible refine b1_divmod ?_ ?_); first | omega | decide | fail)
  | ((with_reducible refine t_tup ?_ ?_); rfl)
  | ((with_reducible refine r_callV ?_ ?_); rfl)
  | (with_reducible refine cs_dec (fun _ => ?_) (fun _ => ?_))
  | (with_reducible refine cs_beq (fun _ => ?_) (fun _ => ?_))
  | ((with_reducible refine cs_te ?_ ?_); rfl)
  | ((with_reducible refine cs_fe ?_ ?_); rfl)
  | ((with_reducible refine put0 (by assumption) ?_ fun _ => ?_); first | rfl | fail)
  | ((with_reducible refine put1 (by assumption) ?_ fun _ => ?_); first | rfl | fail)
  | ((with_reducible refine put2 (by assumption) ?_ fun _ => ?_); first | rfl | fail)
  | ((fail_if_success (with_reducible refine pst_id ?_)); first
    | exact take_same
    | (with_reducible refine fun (_ : Nat) (_ : Store) (_ : _ = _) (_ : _ = _) (_ : _ = _) => ?_)
    | ((fail_if_success (with_reducible refine And.intro ?_ ?_)); refine ⟨_, by first | rfl | assumption, ?_⟩)
    | ((fail_if_success (with_reducible refine And.intro ?_ ?_)); refine ⟨_, _, rfl, ?_⟩)
    | ((fail_if_success (with_reducible refine And.intro ?_ ?_)); refine ⟨_, _, by first | rfl | assumption, rfl, ?_⟩)
    | ((with_reducible refine And.intro ?_ ?_); first | exact rfl | omega | (simp only [List.length_map]; omega) | exact ⟨rfl, rfl⟩ | exact Nat.le_of_ble_eq_true rfl | fail)))
local macro_rules | `(tactic| done) => `(tactic| first
  | (with_reducible first | refine v0 ?_ | refine v1 ?_ | refine v2 ?_ | refine v3 ?_ | refine v4 ?_ | refine v5 ?_ | refine v6 ?_ | refine v7 ?_ | refine v8 ?_ | refine v9 ?_ | refine v10 ?_ | refine v11 ?_ | refine v12 ?_ | refine v13 ?_ | refine tn0 ?_ | refine tn1 ?_ | refine tn2 ?_ | refine tn3 ?_ | refine tn4 ?_ | refine tn5 ?_ | refine tn6 ?_ | refine tn7 ?_ | refine tn8 ?_ | refine tn9 ?_ | refine tn10 ?_ | refine tn11 ?_ | refine tn12 ?_ | refine tn13 ?_ | refine ss0 ?_ | refine ss1 ?_ | refine ss2 ?_ | refine ss3 ?_ | refine ss4 ?_ | refine ss5 ?_ | refine ss6 ?_ | refine ss7 ?_ | refine ss8 ?_ | refine ss9 ?_ | refine ss10 ?_ | refine ss11 ?_ | refine ss12 ?_ | refine ss13 ?_)
  | (with_reducible first | refine r_k ?_ | refine r_bin ?_ | refine r_cons ?_ | refine r_nil ?_ | refine r_call ?_ | refine r_blt ?_ | refine r_un ?_ | refine r_ok ?_ | refine s_seq ?_ | refine s_ret ?_ | refine s_if ?_ | refine s_expr ?_ | refine s_asg ?_ | refine s_par ?_ | refine s_nil ?_ | refine s_brk ?_ | refine s_ct ?_ | refine s_for ?_ | refine bool_t ?_ | refine bool_and ?_ | refine bool_or ?_ | refine bool_not ?_ | refine bool_yes ?_ | refine r_and ?_ | refine r_or ?_ | refine r_not ?_ | refine r_ife ?_ | refine r_chain ?_ | refine r_isi ?_ | refine r_lam ?_ | refine r_back ?_ | refine r_listR1 ?_ | refine r_callK ?_ | refine r_mt ?_ | refine r_alloc ?_ | refine r_sliceA ?_ | refine r_sliceL ?_ | refine r_no ?_ | refine r_part ?_ | refine r_scope ?_ | refine t_nil ?_ | refine t_cons ?_ | refine q_seq ?_ | refine q_range ?_ | refine q_range2 ?_ | refine q_rangeD ?_ | refine q_enumA ?_ | refine nx_nx ?_ | refine nx_ret ?_ | refine nx_exc ?_ | refine nx_brk ?_ | refine nx_ct ?_ | refine bl_bl ?_ | refine cs_not ?_ | refine cs_t ?_ | refine cs_f ?_ | refine r_bind ?_ | refine r_nox ?_ | refine t_sub ?_ | refine s_retL ?_ | refine o1_sub ?_ | refine o1_add ?_ | refine o1_lt ?_ | refine o1_le ?_ | refine o1_gt ?_ | refine o1_ge ?_ | refine o1_neg ?_ | refine o1_eq ?_ | refine o1_ne ?_ | refine b1_abs ?_ | refine b1_int ?_ | refine b1_min2 ?_ | refine b1_max2 ?_ | refine o1_eqA ?_ | refine o1_neA ?_ | refine o1_eqS ?_ | refine o1_isN ?_ | refine o1_notN ?_ | refine x_bl ?_ | refine x_int ?_ | refine x_str ?_ | refine x_non ?_ | refine x_nx ?_ | refine x_tup ?_ | refine x_lst ?_ | refine sl_tup ?_ | refine sl_lst ?_ | refine sl_fz ?_ | refine sL_lst ?_ | refine sL_fz ?_)
  | (with_reducible first | refine r_tup ?_ | refine r_lst ?_ | refine o1_addT ?_ | refine o1_addL ?_ | refine b1_len ?_ | refine b1_tuple ?_ | refine b1_list ?_ | refine o1_cat ?_ | refine m1_append ?_ | refine o_pow10_1 ?_ | refine o_pow10_2 ?_ | refine o_pow10_3 ?_ | refine o_pow10_4 ?_ | refine o_pow10_5 ?_ | refine o_pow10_6 ?_ | refine o_pow10_7 ?_ | refine o_pow10_8 ?_ | refine o_pow10_9 ?_ | refine o_pow10_10 ?_ | refine o_pow10_11 ?_ | refine o_pow10_12 ?_ | refine o_pow10_13 ?_ | refine o_pow10_14 ?_ | refine o_pow10_15 ?_ | refine o_pow10_16 ?_ | refine o_pow10_17 ?_ | refine o_pow10_18 ?_ | refine o_pow10_20 ?_ | refine o_pow10_30 ?_)
  | ((with_reducible refine o1_ix ?_); refine ⟨_, _, by first | rfl | assumption, by first | rfl | exact atI_zero, ?_⟩)
  | ((with_reducible refine o1_mul ?_ ?_); first | omega | decide | fail)
  | ((with_reducible refine o1_div ?_ ?_); first | omega | decide | fail)
  | ((with_reducible refine o1_mod ?_ ?_); first | omega | decide | fail)
  | ((with_reducible refine b1_divmod ?_ ?_); first | omega | decide | fail)
  | ((with_reducible refine t_tup ?_ ?_); rfl)
  | ((with_reducible refine r_callV ?_ ?_); rfl)
  | (with_reducible refine cs_dec (fun _ => ?_) (fun _ => ?_))
  | (with_reducible refine cs_beq (fun _ => ?_) (fun _ => ?_))
  | ((with_reducible refine cs_te ?_ ?_); rfl)
  | ((with_reducible refine cs_fe ?_ ?_); rfl)
  | ((with_reducible refine put0 (by assumption) ?_ fun _ => ?_); first | rfl | fail)
  | ((with_reducible refine put1 (by assumption) ?_ fun _ => ?_); first | rfl | fail)
  | ((with_reducible refine put2 (by assumption) ?_ fun _ => ?_); first | rfl | fail)
  | ((fail_if_success (with_reducible refine pst_id ?_)); first
    | exact take_same
    | (with_reducible refine fun (_ : Nat) (_ : Store) (_ : _ = _) (_ : _ = _) (_ : _ = _) => ?_)
    | ((fail_if_success (with_reducible refine And.intro ?_ ?_)); refine ⟨_, by first | rfl | assumption, ?_⟩)
    | ((fail_if_success (with_reducible refine And.intro ?_ ?_)); refine ⟨_, _, rfl, ?_⟩)
    | ((fail_if_success (with_reducible refine And.intro ?_ ?_)); refine ⟨_, _, by first | rfl | assumption, rfl, ?_⟩)
    | ((with_reducible refine And.intro ?_ ?_); first | exact rfl | omega | (simp only [List.length_map]; omega) | exact ⟨rfl, rfl⟩ | exact Nat.le_of_ble_eq_true rfl | fail))
  | ((fail_if_success (with_reducible refine pst_id ?_)); first | (with_reducible rfl) | assumption | contradiction))

def gainI (t cs : List Int) (k : Nat) (w : Int) : Int := if k ∈ leftL t cs then w - t.getD ((leftL t cs).length - 1) 0 else 0
theorem left_pays {t cs : List Int} {k : Nat} (h : k ∈ leftL t cs) : t.getD ((leftL t cs).length - 1) 0 ≤ cs.getD k 0 := by
  have hend : stepL t cs (leftL t cs) = leftL t cs := turns_end t cs _ _ (by rw [List.length_range]; exact Nat.le_refl _)
  rw [← hend] at h
  exact okL_iff.mp (List.mem_filter.mp h).2
theorem gain_own {t cs : List Int} {k : Nat} : 0 ≤ gainI t cs k (cs.getD k 0) := by
  unfold gainI
  split
  · rename_i h
    have := left_pays h
    omega
  · exact Int.le_refl _
theorem gain_b {t cs : List Int} (ht : TabOk t) {k : Nat} {w : Int} (hw : 0 ≤ w ∧ w ≤ 999) : -998 ≤ gainI t cs k w ∧ gainI t cs k w ≤ 999 := by
  unfold gainI
  split
  · have h2 : 0 ≤ t.getD ((leftL t cs).length - 1) 0 ∧ t.getD ((leftL t cs).length - 1) 0 ≤ 998 := by
      rw [List.getD_eq_getElem?_getD]
      cases e : t[(leftL t cs).length - 1]? with
      | none => decide
      | some x => exact ht.ok x (List.mem_of_getElem? e)
    omega
  · omega
theorem in_natsI {neg : Bool} {l : List Nat} {v : Nat} {x : D} {S : Store} (hx : asS x S = some (l.map nD)) : oInA neg (.int (v : Int)) x S = some (.ok (.bl (if neg then !decide (v ∈ l) else decide (v ∈ l))), S) := in_nats hx
end LW
set_option Elab.async false
set_option linter.all false
set_option maxRecDepth 100000
set_option maxHeartbeats 4000000
namespace LW
open PySem L2 Evl PySem.Spec PyProof.Rows PF
local macro_rules | `(tactic| trivial) => `(tactic| first
  | (with_reducible first | refine v0 ?_ | refine v1 ?_ | refine v2 ?_ | refine v3 ?_ | refine v4 ?_ | refine v5 ?_ | refine v6 ?_ | refine v7 ?_ | refine v8 ?_ | refine v9 ?_ | refine v10 ?_ | refine v11 ?_ | refine v12 ?_ | refine v13 ?_ | refine tn0 ?_ | refine tn1 ?_ | refine tn2 ?_ | refine tn3 ?_ | refine tn4 ?_ | refine tn5 ?_ | refine tn6 ?_ | refine tn7 ?_ | refine tn8 ?_ | refine tn9 ?_ | refine tn10 ?_ | refine tn11 ?_ | refine tn12 ?_ | refine tn13 ?_ | refine ss0 ?_ | refine ss1 ?_ | refine ss2 ?_ | refine ss3 ?_ | refine ss4 ?_ | refine ss5 ?_ | refine ss6 ?_ | refine ss7 ?_ | refine ss8 ?_ | refine ss9 ?_ | refine ss10 ?_ | refine ss11 ?_ | refine ss12 ?_ | refine ss13 ?_)
  | (with_reducible first | refine r_k ?_ | refine r_bin ?_ | refine r_cons ?_ | refine r_nil ?_ | refine r_call ?_ | refine r_blt ?_ | refine r_un ?_ | refine r_ok ?_ | refine s_seq ?_ | refine s_ret ?_ | refine s_if ?_ | refine s_expr ?_ | refine s_asg ?_ | refine s_par ?_ | refine s_nil ?_ | refine s_brk ?_ | refine s_ct ?_ | refine s_for ?_ | refine bool_t ?_ | refine bool_and ?_ | refine bool_or ?_ | refine bool_not ?_ | refine bool_yes ?_ | refine r_and ?_ | refine r_or ?_ | refine r_not ?_ | refine r_ife ?_ | refine r_chain ?_ | refine r_isi ?_ | refine r_lam ?_ | refine r_back ?_ | refine r_listR1 ?_ | refine r_callK ?_ | refine r_mt ?_ | refine r_alloc ?_ | refine r_sliceA ?_ | refine r_sliceL ?_ | refine r_no ?_ | refine r_part ?_ | refine r_scope ?_ | refine t_nil ?_ | refine t_cons ?_ | refine q_seq ?_ | refine q_range ?_ | refine q_range2 ?_ | refine q_rangeD ?_ | refine q_enumA ?_ | refine nx_nx ?_ | refine nx_ret ?_ | refine nx_exc ?_ | refine nx_brk ?_ | refine nx_ct ?_ | refine bl_bl ?_ | refine cs_not ?_ | refine cs_t ?_ | refine cs_f ?_ | refine r_bind ?_ | refine r_nox ?_ | refine t_sub ?_ | refine s_retL ?_ | refine o1_sub ?_ | refine o1_add ?_ | refine o1_lt ?_ | refine o1_le ?_ | refine o1_gt ?_ | refine o1_ge ?_ | refine o1_neg ?_ | refine o1_eq ?_ | refine o1_ne ?_ | refine b1_abs ?_ | refine b1_int ?_ | refine b1_min2 ?_ | refine b1_max2 ?_ | refine o1_eqA ?_ | refine o1_neA ?_ | refine o1_eqS ?_ | refine o1_isN ?_ | refine o1_notN ?_ | refine x_bl ?_ | refine x_int ?_ | refine x_str ?_ | refine x_non ?_ | refine x_nx ?_ | refine x_tup ?_ | refine x_lst ?_ | refine sl_tup ?_ | refine sl_lst ?_ | refine sl_fz ?_ | refine sL_lst ?_ | refine sL_fz ?_)
  | (with_reducible first | refine r_tup ?_ | refine r_lst ?_ | refine o1_addT ?_ | refine o1_addL ?_ | refine b1_len ?_ | refine b1_tuple ?_ | refine b1_list ?_ | refine o1_cat ?_ | refine m1_append ?_ | refine o_pow10_1 ?_ | refine o_pow10_2 ?_ | refine o_pow10_3 ?_ | refine o_pow10_4 ?_ | refine o_pow10_5 ?_ | refine o_pow10_6 ?_ | refine o_pow10_7 ?_ | refine o_pow10_8 ?_ | refine o_pow10_9 ?_ | refine o_pow10_10 ?_ | refine o_pow10_11 ?_ | refine o_pow10_12 ?_ | refine o_pow10_13 ?_ | refine o_pow10_14 ?_ | refine o_pow10_15 ?_ | refine o_pow10_16 ?_ | refine o_pow10_17 ?_ | refine o_pow10_18 ?_ | refine o_pow10_20 ?_ | refine o_pow10_30 ?_)
  | ((with_reducible refine o1_ix ?_); refine ⟨_, _, by first | rfl | assumption, by first | rfl | exact atI_zero, ?_⟩)
  | ((with_reducible refine o1_mul ?_ ?_); first | omega | decide | fail)
  | ((with_reducible refine o1_div ?_ ?_); first | omega | decide | fail)
  | ((with_reducible refine o1_mod ?_ ?_); first | omega | decide | fail)
  | ((with_reducible refine b1_divmod ?_ ?_); first | omega | decide | fail)
  | ((with_reducible refine t_tup ?_ ?_); rfl)
  | ((with_reducible refine r_callV ?_ ?_); rfl)
  | (with_reducible refine cs_dec (fun _ => ?_) (fun _ => ?_))
  | (with_reducible refine cs_beq (fun _ => ?_) (fun _ => ?_))
  | ((with_reducible refine cs_te ?_ ?_); rfl)
  | ((with_reducible refine cs_fe ?_ ?_); rfl)
  | ((with_reducible refine put0 (by assumption) ?_ fun _ => ?_); first | rfl | fail)
  | ((with_reducible refine put1 (by assumption) ?_ fun _ => ?_); first | rfl | fail)
  | ((with_reducible refine put2 (by assumption) ?_ fun _ => ?_); first | rfl | fail)
  | ((fail_if_success (with_reducible refine pst_id ?_)); first
    | exact take_same
    | (with_reducible refine fun (_ : Nat) (_ : Store) (_ : _ = _) (_ : _ = _) (_ : _ = _) => ?_)
    | ((fail_if_success (with_reducible refine And.intro ?_ ?_)); refine ⟨_, by first | rfl | assumption, ?_⟩)
    | ((fail_if_success (with_reducible refine And.intro ?_ ?_)); refine ⟨_, _, rfl, ?_⟩)
    | ((fail_if_success (with_reducible refine And.intro ?_ ?_)); refine ⟨_, _, by first | rfl | assumption, rfl, ?_⟩)
    | ((with_reducible refine And.intro ?_ ?_); first | exact rfl | omega | (simp only [List.length_map]; omega) | exact ⟨rfl, rfl⟩ | exact Nat.le_of_ble_eq_true rfl | fail)))
local macro_rules | `(tactic| done) => `(tactic| first
  | (with_reducible first | refine v0 ?_ | refine v1 ?_ | refine v2 ?_ | refine v3 ?_ | refine v4 ?_ | refine v5 ?_ | refine v6 ?_ | refine v7 ?_ | refine v8 ?_ | refine v9 ?_ | refine v10 ?_ | refine v11 ?_ | refine v12 ?_ | refine v13 ?_ | refine tn0 ?_ | refine tn1 ?_ | refine tn2 ?_ | refine tn3 ?_ | refine tn4 ?_ | refine tn5 ?_ | refine tn6 ?_ | refine tn7 ?_ | refine tn8 ?_ | refine tn9 ?_ | refine tn10 ?_ | refine tn11 ?_ | refine tn12 ?_ | refine tn13 ?_ | refine ss0 ?_ | refine ss1 ?_ | refine ss2 ?_ | refine ss3 ?_ | refine ss4 ?_ | refine ss5 ?_ | refine ss6 ?_ | refine ss7 ?_ | refine ss8 ?_ | refine ss9 ?_ | refine ss10 ?_ | refine ss11 ?_ | refine ss12 ?_ | refine ss13 ?_)
  | (with_reducible first | refine r_k ?_ | refine r_bin ?_ | refine r_cons ?_ | refine r_nil ?_ | refine r_call ?_ | refine r_blt ?_ | refine r_un ?_ | refine r_ok ?_ | refine s_seq ?_ | refine s_ret ?_ | refine s_if ?_ | refine s_expr ?_ | refine s_asg ?_ | refine s_par ?_ | refine s_nil ?_ | refine s_brk ?_ | refine s_ct ?_ | refine s_for ?_ | refine bool_t ?_ | refine bool_and ?_ | refine bool_or ?_ | refine bool_not ?_ | refine bool_yes ?_ | refine r_and ?_ | refine r_or ?_ | refine r_not ?_ | refine r_ife ?_ | refine r_chain ?_ | refine r_isi ?_ | refine r_lam ?_ | refine r_back ?_ | refine r_listR1 ?_ | refine r_callK ?_ | refine r_mt ?_ | refine r_alloc ?_ | refine r_sliceA ?_ | refine r_sliceL ?_ | refine r_no ?_ | refine r_part ?_ | refine r_scope ?_ | refine t_nil ?_ | refine t_cons ?_ | refine q_seq ?_ | refine q_range ?_ | refine q_range2 ?_ | refine q_rangeD ?_ | refine q_enumA ?_ | refine nx_nx ?_ | refine nx_ret ?_ | refine nx_exc ?_ | refine nx_brk ?_ | refine nx_ct ?_ | refine bl_bl ?_ | refine cs_not ?_ | refine cs_t ?_ | refine cs_f ?_ | refine r_bind ?_ | refine r_nox ?_ | refine t_sub ?_ | refine s_retL ?_ | refine o1_sub ?_ | refine o1_add ?_ | refine o1_lt ?_ | refine o1_le ?_ | refine o1_gt ?_ | refine o1_ge ?_ | refine o1_neg ?_ | refine o1_eq ?_ | refine o1_ne ?_ | refine b1_abs ?_ | refine b1_int ?_ | refine b1_min2 ?_ | refine b1_max2 ?_ | refine o1_eqA ?_ | refine o1_neA ?_ | refine o1_eqS ?_ | refine o1_isN ?_ | refine o1_notN ?_ | refine x_bl ?_ | refine x_int ?_ | refine x_str ?_ | refine x_non ?_ | refine x_nx ?_ | refine x_tup ?_ | refine x_lst ?_ | refine sl_tup ?_ | refine sl_lst ?_ | refine sl_fz ?_ | refine sL_lst ?_ | refine sL_fz ?_)
  | (with_reducible first | refine r_tup ?_ | refine r_lst ?_ | refine o1_addT ?_ | refine o1_addL ?_ | refine b1_len ?_ | refine b1_tuple ?_ | refine b1_list ?_ | refine o1_cat ?_ | refine m1_append ?_ | refine o_pow10_1 ?_ | refine o_pow10_2 ?_ | refine o_pow10_3 ?_ | refine o_pow10_4 ?_ | refine o_pow10_5 ?_ | refine o_pow10_6 ?_ | refine o_pow10_7 ?_ | refine o_pow10_8 ?_ | refine o_pow10_9 ?_ | refine o_pow10_10 ?_ | refine o_pow10_11 ?_ | refine o_pow10_12 ?_ | refine o_pow10_13 ?_ | refine o_pow10_14 ?_ | refine o_pow10_15 ?_ | refine o_pow10_16 ?_ | refine o_pow10_17 ?_ | refine o_pow10_18 ?_ | refine o_pow10_20 ?_ | refine o_pow10_30 ?_)
  | ((with_reducible refine o1_ix ?_); refine ⟨_, _, by first | rfl | assumption, by first | rfl | exact atI_zero, ?_⟩)
  | ((with_reducible refine o1_mul ?_ ?_); first | omega | decide | fail)
  | ((with_reducible refine o1_div ?_ ?_); first | omega | decide | fail)
  | ((with_reducible refine o1_mod ?_ ?_); first | omega | decide | fail)
  | ((with_reducible refine b1_divmod ?_ ?_); first | omega | decide | fail)
  | ((with_reducible refine t_tup ?_ ?_); rfl)
  | ((with_reducible refine r_callV ?_ ?_); rfl)
  | (with_reducible refine cs_dec (fun _ => ?_) (fun _ => ?_))
  | (with_reducible refine cs_beq (fun _ => ?_) (fun _ => ?_))
  | ((with_reducible refine cs_te ?_ ?_); rfl)
  | ((with_reducible refine cs_fe ?_ ?_); rfl)
  | ((with_reducible refine put0 (by assumption) ?_ fun _ => ?_); first | rfl | fail)
  | ((with_reducible refine put1 (by assumption) ?_ fun _ => ?_); first | rfl | fail)
  | ((with_reducible refine put2 (by assumption) ?_ fun _ => ?_); first | rfl | fail)
  | ((fail_if_success (with_reducible refine pst_id ?_)); first
    | exact take_same
    | (with_reducible refine fun (_ : Nat) (_ : Store) (_ : _ = _) (_ : _ = _) (_ : _ = _) => ?_)
    | ((fail_if_success (with_reducible refine And.intro ?_ ?_)); refine ⟨_, by first | rfl | assumption, ?_⟩)
    | ((fail_if_success (with_reducible refine And.intro ?_ ?_)); refine ⟨_, _, rfl, ?_⟩)
    | ((fail_if_success (with_reducible refine And.intro ?_ ?_)); refine ⟨_, _, by first | rfl | assumption, rfl, ?_⟩)
    | ((with_reducible refine And.intro ?_ ?_); first | exact rfl | omega | (simp only [List.length_map]; omega) | exact ⟨rfl, rfl⟩ | exact Nat.le_of_ble_eq_true rfl | fail))
  | ((fail_if_success (with_reducible refine pst_id ?_)); first | (with_reducible rfl) | assumption | contradiction))

/-! a ceiling raised by one who stays -/
theorem set_get2 {cs : List Int} {a k : Nat} {v : Int} (h : a ≠ k) : (cs.set a v).getD k 0 = cs.getD k 0 := by
  rw [List.getD_eq_getElem?_getD, List.getD_eq_getElem?_getD, List.getElem?_set_ne h]
theorem set_get1 {cs : List Int} {a : Nat} {v : Int} (h : a < cs.length) : (cs.set a v).getD a 0 = v := by
  rw [List.getD_eq_getElem?_getD, List.getElem?_set_self h]; rfl
theorem step_raise {t cs : List Int} {a : Nat} {v : Int} (ha : a < cs.length) (hv : cs.getD a 0 ≤ v) {l : List Nat} (h : a ∈ stepL t cs l) : stepL t (cs.set a v) l = stepL t cs l := by
  unfold stepL at h ⊢
  refine List.filter_congr fun k hk => ?_
  have h2 := okL_iff.mp (List.mem_filter.mp h).2
  unfold okL
  by_cases e : a = k
  · subst e
    rw [set_get1 ha]
    exact decide_eq_decide.mpr ⟨fun _ => h2, fun _ => Int.le_trans h2 hv⟩
  · rw [set_get2 e]
theorem turns_raise {t cs : List Int} {a : Nat} {v : Int} (ha : a < cs.length) (hv : cs.getD a 0 ≤ v) : ∀ (f : Nat) (l : List Nat), a ∈ turnsL t cs f l → turnsL t (cs.set a v) f l = turnsL t cs f l
  | 0, l, _ => rfl
  | f + 1, l, h => by
    unfold turnsL at h ⊢
    by_cases hc : (stepL t cs l).length < l.length
    · rw [if_pos hc] at h ⊢
      have hm : a ∈ stepL t cs l := (turns_sub t cs f _).subset h
      rw [step_raise ha hv hm, if_pos hc]
      exact turns_raise ha hv f _ h
    · rw [if_neg hc] at h ⊢
      have e : stepL t cs l = l := List.filter_sublist.eq_of_length (by have := stepL_len t cs l; unfold stepL at hc this; omega)
      rw [step_raise ha hv (by rw [e]; exact h), if_neg hc]
theorem left_raise {t cs : List Int} {a : Nat} {v : Int} (hv : cs.getD a 0 ≤ v) (h : a ∈ leftL t cs) : a ∈ leftL t (cs.set a v) := by
  have ha := leftL_lt h
  unfold leftL at h ⊢
  rw [List.length_set, turns_raise ha hv _ _ h]
  exact h
end LW
set_option Elab.async false
set_option linter.all false
set_option maxRecDepth 100000
set_option maxHeartbeats 4000000
namespace LW
open PySem L2 Evl PySem.Spec PyProof.Rows PF
local macro_rules | `(tactic| trivial) => `(tactic| first
  | (with_reducible first | refine v0 ?_ | refine v1 ?_ | refine v2 ?_ | refine v3 ?_ | refine v4 ?_ | refine v5 ?_ | refine v6 ?_ | refine v7 ?_ | refine v8 ?_ | refine v9 ?_ | refine v10 ?_ | refine v11 ?_ | refine v12 ?_ | refine v13 ?_ | refine tn0 ?_ | refine tn1 ?_ | refine tn2 ?_ | refine tn3 ?_ | refine tn4 ?_ | refine tn5 ?_ | refine tn6 ?_ | refine tn7 ?_ | refine tn8 ?_ | refine tn9 ?_ | refine tn10 ?_ | refine tn11 ?_ | refine tn12 ?_ | refine tn13 ?_ | refine ss0 ?_ | refine ss1 ?_ | refine ss2 ?_ | refine ss3 ?_ | refine ss4 ?_ | refine ss5 ?_ | refine ss6 ?_ | refine ss7 ?_ | refine ss8 ?_ | refine ss9 ?_ | refine ss10 ?_ | refine ss11 ?_ | refine ss12 ?_ | refine ss13 ?_)
  | (with_reducible first | refine r_k ?_ | refine r_bin ?_ | refine r_cons ?_ | refine r_nil ?_ | refine r_call ?_ | refine r_blt ?_ | refine r_un ?_ | refine r_ok ?_ | refine s_seq ?_ | refine s_ret ?_ | refine s_if ?_ | refine s_expr ?_ | refine s_asg ?_ | refine s_par ?_ | refine s_nil ?_ | refine s_brk ?_ | refine s_ct ?_ | refine s_for ?_ | refine bool_t ?_ | refine bool_and ?_ | refine bool_or ?_ | refine bool_not ?_ | refine bool_yes ?_ | refine r_and ?_ | refine r_or ?_ | refine r_not ?_ | refine r_ife ?_ | refine r_chain ?_ | refine r_isi ?_ | refine r_lam ?_ | refine r_back ?_ | refine r_listR1 ?_ | refine r_callK ?_ | refine r_mt ?_ | refine r_alloc ?_ | refine r_sliceA ?_ | refine r_sliceL ?_ | refine r_no ?_ | refine r_part ?_ | refine r_scope ?_ | refine t_nil ?_ | refine t_cons ?_ | refine q_seq ?_ | refine q_range ?_ | refine q_range2 ?_ | refine q_rangeD ?_ | refine q_enumA ?_ | refine nx_nx ?_ | refine nx_ret ?_ | refine nx_exc ?_ | refine nx_brk ?_ | refine nx_ct ?_ | refine bl_bl ?_ | refine cs_not ?_ | refine cs_t ?_ | refine cs_f ?_ | refine r_bind ?_ | refine r_nox ?_ | refine t_sub ?_ | refine s_retL ?_ | refine o1_sub ?_ | refine o1_add ?_ | refine o1_lt ?_ | refine o1_le ?_ | refine o1_gt ?_ | refine o1_ge ?_ | refine o1_neg ?_ | refine o1_eq ?_ | refine o1_ne ?_ | refine b1_abs ?_ | refine b1_int ?_ | refine b1_min2 ?_ | refine b1_max2 ?_ | refine o1_eqA ?_ | refine o1_neA ?_ | refine o1_eqS ?_ | refine o1_isN ?_ | refine o1_notN ?_ | refine x_bl ?_ | refine x_int ?_ | refine x_str ?_ | refine x_non ?_ | refine x_nx ?_ | refine x_tup ?_ | refine x_lst ?_ | refine sl_tup ?_ | refine sl_lst ?_ | refine sl_fz ?_ | refine sL_lst ?_ | refine sL_fz ?_)
  | (with_reducible first | refine r_tup ?_ | refine r_lst ?_ | refine o1_addT ?_ | refine o1_addL ?_ | refine b1_len ?_ | refine b1_tuple ?_ | refine b1_list ?_ | refine o1_cat ?_ | refine m1_append ?_ | refine o_pow10_1 ?_ | refine o_pow10_2 ?_ | refine o_pow10_3 ?_ | refine o_pow10_4 ?_ | refine o_pow10_5 ?_ | refine o_pow10_6 ?_ | refine o_pow10_7 ?_ | refine o_pow10_8 ?_ | refine o_pow10_9 ?_ | refine o_pow10_10 ?_ | refine o_pow10_11 ?_ | refine o_pow10_12 ?_ | refine o_pow10_13 ?_ | refine o_pow10_14 ?_ | refine o_pow10_15 ?_ | refine o_pow10_16 ?_ | refine o_pow10_17 ?_ | refine o_pow10_18 ?_ | refine o_pow10_20 ?_ | refine o_pow10_30 ?_)
  | ((with_reducible refine o1_ix ?_); refine ⟨_, _, by first | rfl | assumption, by first | rfl | exact atI_zero, ?_⟩)
  | ((with_reducible refine o1_mul ?_ ?_); first | omega | decide | fail)
  | ((with_reducible refine o1_div ?_ ?_); first | omega | decide | fail)
  | ((with_reducible refine o1_mod ?_ ?_); first | omega | decide | fail)
  | ((with_reducible refine b1_divmod ?_ ?_); first | omega | decide | fail)
  | ((with_reducible refine t_tup ?_ ?_); rfl)
  | ((with_reducible refine r_callV ?_ ?_); rfl)
  | (with_reducible refine cs_dec (fun _ => ?_) (fun _ => ?_))
  | (with_reducible refine cs_beq (fun _ => ?_) (fun _ => ?_))
  | ((with_reducible refine cs_te ?_ ?_); rfl)
  | ((with_reducible refine cs_fe ?_ ?_); rfl)
  | ((with_reducible refine put0 (by assumption) ?_ fun _ => ?_); first | rfl | fail)
  | ((with_reducible refine put1 (by assumption) ?_ fun _ => ?_); first | rfl | fail)
  | ((with_reducible refine put2 (by assumption) ?_ fun _ => ?_); first | rfl | fail)
  | ((fail_if_success (with_reducible refine pst_id ?_)); first
    | exact take_same
    | (with_reducible refine fun (_ : Nat) (_ : Store) (_ : _ = _) (_ : _ = _) (_ : _ = _) => ?_)
    | ((fail_if_success (with_reducible refine And.intro ?_ ?_)); refine ⟨_, by first | rfl | assumption, ?_⟩)
    | ((fail_if_success (with_reducible refine And.intro ?_ ?_)); refine ⟨_, _, rfl, ?_⟩)
    | ((fail_if_success (with_reducible refine And.intro ?_ ?_)); refine ⟨_, _, by first | rfl | assumption, rfl, ?_⟩)
    | ((with_reducible refine And.intro ?_ ?_); first | exact rfl | omega | (simp only [List.length_map]; omega) | exact ⟨rfl, rfl⟩ | exact Nat.le_of_ble_eq_true rfl | fail)))
local macro_rules | `(tactic| done) => `(tactic| first
  | (with_reducible first | refine v0 ?_ | refine v1 ?_ | refine v2 ?_ | refine v3 ?_ | refine v4 ?_ | refine v5 ?_ | refine v6 ?_ | refine v7 ?_ | refine v8 ?_ | refine v9 ?_ | refine v10 ?_ | refine v11 ?_ | refine v12 ?_ | refine v13 ?_ | refine tn0 ?_ | refine tn1 ?_ | refine tn2 ?_ | refine tn3 ?_ | refine tn4 ?_ | refine tn5 ?_ | refine tn6 ?_ | refine tn7 ?_ | refine tn8 ?_ | refine tn9 ?_ | refine tn10 ?_ | refine tn11 ?_ | refine tn12 ?_ | refine tn13 ?_ | refine ss0 ?_ | refine ss1 ?_ | refine ss2 ?_ | refine ss3 ?_ | refine ss4 ?_ | refine ss5 ?_ | refine ss6 ?_ | refine ss7 ?_ | refine ss8 ?_ | refine ss9 ?_ | refine ss10 ?_ | refine ss11 ?_ | refine ss12 ?_ | refine ss13 ?_)
  | (with_reducible first | refine r_k ?_ | refine r_bin ?_ | refine r_cons ?_ | refine r_nil ?_ | refine r_call ?_ | refine r_blt ?_ | refine r_un ?_ | refine r_ok ?_ | refine s_seq ?_ | refine s_ret ?_ | refine s_if ?_ | refine s_expr ?_ | refine s_asg ?_ | refine s_par ?_ | refine s_nil ?_ | refine s_brk ?_ | refine s_ct ?_ | refine s_for ?_ | refine bool_t ?_ | refine bool_and ?_ | refine bool_or ?_ | refine bool_not ?_ | refine bool_yes ?_ | refine r_and ?_ | refine r_or ?_ | refine r_not ?_ | refine r_ife ?_ | refine r_chain ?_ | refine r_isi ?_ | refine r_lam ?_ | refine r_back ?_ | refine r_listR1 ?_ | refine r_callK ?_ | refine r_mt ?_ | refine r_alloc ?_ | refine r_sliceA ?_ | refine r_sliceL ?_ | refine r_no ?_ | refine r_part ?_ | refine r_scope ?_ | refine t_nil ?_ | refine t_cons ?_ | refine q_seq ?_ | refine q_range ?_ | refine q_range2 ?_ | refine q_rangeD ?_ | refine q_enumA ?_ | refine nx_nx ?_ | refine nx_ret ?_ | refine nx_exc ?_ | refine nx_brk ?_ | refine nx_ct ?_ | refine bl_bl ?_ | refine cs_not ?_ | refine cs_t ?_ | refine cs_f ?_ | refine r_bind ?_ | refine r_nox ?_ | refine t_sub ?_ | refine s_retL ?_ | refine o1_sub ?_ | refine o1_add ?_ | refine o1_lt ?_ | refine o1_le ?_ | refine o1_gt ?_ | refine o1_ge ?_ | refine o1_neg ?_ | refine o1_eq ?_ | refine o1_ne ?_ | refine b1_abs ?_ | refine b1_int ?_ | refine b1_min2 ?_ | refine b1_max2 ?_ | refine o1_eqA ?_ | refine o1_neA ?_ | refine o1_eqS ?_ | refine o1_isN ?_ | refine o1_notN ?_ | refine x_bl ?_ | refine x_int ?_ | refine x_str ?_ | refine x_non ?_ | refine x_nx ?_ | refine x_tup ?_ | refine x_lst ?_ | refine sl_tup ?_ | refine sl_lst ?_ | refine sl_fz ?_ | refine sL_lst ?_ | refine sL_fz ?_)
  | (with_reducible first | refine r_tup ?_ | refine r_lst ?_ | refine o1_addT ?_ | refine o1_addL ?_ | refine b1_len ?_ | refine b1_tuple ?_ | refine b1_list ?_ | refine o1_cat ?_ | refine m1_append ?_ | refine o_pow10_1 ?_ | refine o_pow10_2 ?_ | refine o_pow10_3 ?_ | refine o_pow10_4 ?_ | refine o_pow10_5 ?_ | refine o_pow10_6 ?_ | refine o_pow10_7 ?_ | refine o_pow10_8 ?_ | refine o_pow10_9 ?_ | refine o_pow10_10 ?_ | refine o_pow10_11 ?_ | refine o_pow10_12 ?_ | refine o_pow10_13 ?_ | refine o_pow10_14 ?_ | refine o_pow10_15 ?_ | refine o_pow10_16 ?_ | refine o_pow10_17 ?_ | refine o_pow10_18 ?_ | refine o_pow10_20 ?_ | refine o_pow10_30 ?_)
  | ((with_reducible refine o1_ix ?_); refine ⟨_, _, by first | rfl | assumption, by first | rfl | exact atI_zero, ?_⟩)
  | ((with_reducible refine o1_mul ?_ ?_); first | omega | decide | fail)
  | ((with_reducible refine o1_div ?_ ?_); first | omega | decide | fail)
  | ((with_reducible refine o1_mod ?_ ?_); first | omega | decide | fail)
  | ((with_reducible refine b1_divmod ?_ ?_); first | omega | decide | fail)
  | ((with_reducible refine t_tup ?_ ?_); rfl)
  | ((with_reducible refine r_callV ?_ ?_); rfl)
  | (with_reducible refine cs_dec (fun _ => ?_) (fun _ => ?_))
  | (with_reducible refine cs_beq (fun _ => ?_) (fun _ => ?_))
  | ((with_reducible refine cs_te ?_ ?_); rfl)
  | ((with_reducible refine cs_fe ?_ ?_); rfl)
  | ((with_reducible refine put0 (by assumption) ?_ fun _ => ?_); first | rfl | fail)
  | ((with_reducible refine put1 (by assumption) ?_ fun _ => ?_); first | rfl | fail)
  | ((with_reducible refine put2 (by assumption) ?_ fun _ => ?_); first | rfl | fail)
  | ((fail_if_success (with_reducible refine pst_id ?_)); first
    | exact take_same
    | (with_reducible refine fun (_ : Nat) (_ : Store) (_ : _ = _) (_ : _ = _) (_ : _ = _) => ?_)
    | ((fail_if_success (with_reducible refine And.intro ?_ ?_)); refine ⟨_, by first | rfl | assumption, ?_⟩)
    | ((fail_if_success (with_reducible refine And.intro ?_ ?_)); refine ⟨_, _, rfl, ?_⟩)
    | ((fail_if_success (with_reducible refine And.intro ?_ ?_)); refine ⟨_, _, by first | rfl | assumption, rfl, ?_⟩)
    | ((with_reducible refine And.intro ?_ ?_); first | exact rfl | omega | (simp only [List.length_map]; omega) | exact ⟨rfl, rfl⟩ | exact Nat.le_of_ble_eq_true rfl | fail))
  | ((fail_if_success (with_reducible refine pst_id ?_)); first | (with_reducible rfl) | assumption | contradiction))

/-! firm tables -/
def Firm (t : List Int) : Prop := ∀ i j, i < j → j < t.length → t.getD j 0 ≤ t.getD i 0 + 1
theorem lie_bound {t cs : List Int} {a : Nat} {v : Int} (hf : Firm t) (ha : a < cs.length) (hv : cs.getD a 0 ≤ v) : ∀ (f : Nat) (l : List Nat), a ∈ l → l.length ≤ t.length → a ∈ turnsL t (cs.set a v) f l → a ∉ turnsL t cs f l →
    cs.getD a 0 ≤ t.getD ((turnsL t (cs.set a v) f l).length - 1) 0
  | 0, l, h1, _, _, h3 => absurd h1 h3
  | f + 1, l, h1, h2, h3, h4 => by
    by_cases hs : a ∈ stepL t cs l
    · have e := step_raise (v := v) ha hv hs
      have hle := stepL_len t cs l
      by_cases hc : (stepL t cs l).length < l.length
      · have e1 : turnsL t (cs.set a v) (f + 1) l = turnsL t (cs.set a v) f (stepL t cs l) := by
          conv => lhs; unfold turnsL
          rw [e, if_pos hc]
        have e2 : turnsL t cs (f + 1) l = turnsL t cs f (stepL t cs l) := by
          conv => lhs; unfold turnsL
          rw [if_pos hc]
        rw [e1] at h3 ⊢
        rw [e2] at h4
        exact lie_bound hf ha hv f _ hs (by omega) h3 h4
      · have e2 : turnsL t cs (f + 1) l = l := by
          conv => lhs; unfold turnsL
          rw [if_neg hc]
        rw [e2] at h4
        exact absurd h1 h4
    · have hlt : cs.getD a 0 < t.getD (l.length - 1) 0 := by
        rcases Int.lt_or_le (cs.getD a 0) (t.getD (l.length - 1) 0) with h | h
        · exact h
        · exact absurd (List.mem_filter.mpr ⟨h1, okL_iff.mpr h⟩) hs
      have hr := (turns_sub t (cs.set a v) (f + 1) l).length_le
      have hp : 1 ≤ (turnsL t (cs.set a v) (f + 1) l).length := List.length_pos_of_mem h3
      by_cases e : (turnsL t (cs.set a v) (f + 1) l).length = l.length
      · rw [e]; omega
      · have := hf ((turnsL t (cs.set a v) (f + 1) l).length - 1) (l.length - 1) (by omega) (by omega)
        omega
theorem set_back {cs : List Int} {a : Nat} {v : Int} : (cs.set a v).set a (cs.getD a 0) = cs := by
  rw [List.set_set]
  by_cases h : a < cs.length
  · rw [List.getD_eq_getElem?_getD, List.getElem?_eq_getElem h]
    exact List.set_getElem_self h
  · exact List.set_eq_of_length_le (by omega)
theorem left_same {t cs : List Int} {a : Nat} {v : Int} (hv : cs.getD a 0 ≤ v) (h : a ∈ leftL t cs) : leftL t (cs.set a v) = leftL t cs := by
  have ha := leftL_lt h
  unfold leftL at h ⊢
  rw [List.length_set, turns_raise ha hv _ _ h]
theorem firm_true {t cs : List Int} {a : Nat} {v : Int} (hf : Firm t) (ha : a < cs.length) (hc : cs.length ≤ t.length) : gainI t (cs.set a v) a (cs.getD a 0) ≤ gainI t cs a (cs.getD a 0) := by
  by_cases h' : a ∈ leftL t (cs.set a v)
  · by_cases h : a ∈ leftL t cs
    · rcases Int.le_total (cs.getD a 0) v with hv | hv
      · unfold gainI
        rw [left_same hv h]
        exact Int.le_refl _
      · have e := left_same (cs := cs.set a v) (v := cs.getD a 0) (by rw [set_get1 ha]; exact hv) h'
        rw [set_back] at e
        unfold gainI
        rw [e]
        exact Int.le_refl _
    · have hv : cs.getD a 0 ≤ v := by
        rcases Int.le_total (cs.getD a 0) v with hv | hv
        · exact hv
        · have e := left_same (cs := cs.set a v) (v := cs.getD a 0) (by rw [set_get1 ha]; exact hv) h'
          rw [set_back] at e
          rw [← e] at h'
          exact absurd h' h
      have hb : cs.getD a 0 ≤ t.getD ((leftL t (cs.set a v)).length - 1) 0 := by
        unfold leftL at h' h ⊢
        rw [List.length_set] at h' ⊢
        exact lie_bound hf ha hv _ _ (List.mem_range.mpr ha) (by rw [List.length_range]; exact hc) h' h
      unfold gainI
      rw [if_pos h', if_neg h]
      omega
  · have := gain_own (t := t) (cs := cs) (k := a)
    unfold gainI at this ⊢
    rw [if_neg h']
    exact this
/-! a lie that gains -/
def lieL (t : List Int) (few many : Nat) : List Int := (t.getD (many - 1) 0 - 1) :: (List.replicate (few - 1) 999 ++ List.replicate (many - few) 0)
structure Lies (t : List Int) (few many : Nat) : Prop where
  f1 : 1 ≤ few
  fm : few < many
  ml : many ≤ t.length
  gap : t.getD (few - 1) 0 + 1 < t.getD (many - 1) 0
theorem lie_len {t : List Int} {few many : Nat} (h : Lies t few many) : (lieL t few many).length = many := by
  have := h.f1
  have := h.fm
  unfold lieL
  simp only [List.length_cons, List.length_append, List.length_replicate]
  omega
theorem lie_told {t : List Int} {few many : Nat} (h : Lies t few many) : (lieL t few many).set 0 999 = List.replicate few 999 ++ List.replicate (many - few) 0 := by
  obtain ⟨k, hk⟩ : ∃ k, few = k + 1 := ⟨few - 1, by have := h.f1; omega⟩
  unfold lieL
  rw [hk, List.set_cons_zero, Nat.add_sub_cancel, List.replicate_succ, List.cons_append]
theorem lie_true {t : List Int} {few many : Nat} (ht : TabOk t) (h : Lies t few many) : 0 ∉ leftL t (lieL t few many) := by
  have hl := lie_len h
  have f1 := h.f1
  have fm := h.fm
  have hg := getN_in (lo := 0) (hi := 998) ht.ok (k := few - 1) (by have := h.ml; omega)
  have hgap := h.gap
  unfold leftL
  rw [hl]
  intro hm
  have hs : 0 ∉ stepL t (lieL t few many) (List.range many) := fun h0 => by
    have := okL_iff.mp (List.mem_filter.mp h0).2
    rw [List.length_range] at this
    have e : (lieL t few many).getD 0 0 = t.getD (many - 1) 0 - 1 := rfl
    omega
  obtain ⟨f, hf⟩ : ∃ f, many = f + 1 := ⟨many - 1, by omega⟩
  have hlt : (stepL t (lieL t few many) (List.range many)).length < (List.range many).length := by
    rcases Nat.lt_or_ge (stepL t (lieL t few many) (List.range many)).length (List.range many).length with h1 | h1
    · exact h1
    · have e : stepL t (lieL t few many) (List.range many) = List.range many := List.filter_sublist.eq_of_length (by have := stepL_len t (lieL t few many) (List.range many); unfold stepL at h1 this; omega)
      exact absurd (by rw [e]; exact List.mem_range.mpr (by omega)) hs
  have e : turnsL t (lieL t few many) many (List.range many) = turnsL t (lieL t few many) f (stepL t (lieL t few many) (List.range many)) := by
    conv => lhs; rw [hf]; unfold turnsL
    rw [← hf, if_pos hlt]
  rw [e] at hm
  exact hs ((turns_sub t _ f _).subset hm)
theorem told_left {t : List Int} {few many : Nat} (ht : TabOk t) (h : Lies t few many) : leftL t ((lieL t few many).set 0 999) = List.range few := by
  have hl := lie_len h
  have f1 := h.f1
  have fm := h.fm
  have ml := h.ml
  have hg := getN_in (lo := 0) (hi := 998) ht.ok (k := few - 1) (by omega)
  have hg2 := getN_in (lo := 0) (hi := 998) ht.ok (k := many - 1) (by omega)
  have hgap := h.gap
  have hget : ∀ k, k < many → ((lieL t few many).set 0 999).getD k 0 = if k < few then 999 else 0 := fun k hk => by
    rw [lie_told h, List.getD_eq_getElem?_getD]
    by_cases hc : k < few
    · rw [if_pos hc, List.getElem?_append_left (by simpa using hc), List.getElem?_replicate_of_lt hc]; rfl
    · rw [if_neg hc, List.getElem?_append_right (by simpa using Nat.le_of_not_lt hc), List.length_replicate, List.getElem?_replicate_of_lt (by omega)]; rfl
  have hfil : ∀ b : Int, 0 < b → b ≤ 999 → ∀ m, m ≤ many → (List.range m).filter (okL b ((lieL t few many).set 0 999)) = List.range (min m few) := fun b b0 b1 m hm => by
    induction m with
    | zero => simp
    | succ m ih =>
      rw [List.range_succ, List.filter_append, ih (by omega)]
      have hk := hget m (by omega)
      by_cases hc : m < few
      · have : okL b ((lieL t few many).set 0 999) m = true := okL_iff.mpr (by rw [hk, if_pos hc]; exact b1)
        rw [List.filter_cons_of_pos this, List.filter_nil, show min (m + 1) few = m + 1 by omega, show min m few = m by omega, List.range_succ]
      · have : ¬ okL b ((lieL t few many).set 0 999) m = true := fun z => by
          have := okL_iff.mp z
          rw [hk, if_neg hc] at this
          omega
        rw [List.filter_cons_of_neg this, List.filter_nil, List.append_nil, show min (m + 1) few = min m few by omega]
  obtain ⟨f, hf⟩ : ∃ f, many = f + 2 := ⟨many - 2, by omega⟩
  have s1 : stepL t ((lieL t few many).set 0 999) (List.range many) = List.range few := by
    unfold stepL
    rw [List.length_range, hfil _ (by omega) (by omega) many (Nat.le_refl _), show min many few = few by omega]
  have s2 : stepL t ((lieL t few many).set 0 999) (List.range few) = List.range few := by
    unfold stepL
    rw [List.length_range]
    by_cases hz : 0 < t.getD (few - 1) 0
    · rw [hfil _ hz (by omega) few (by omega), Nat.min_self]
    · refine List.filter_eq_self.mpr fun k hk => okL_iff.mpr ?_
      have hk := List.mem_range.mp hk
      rw [hget k (by omega), if_pos hk]
      omega
  unfold leftL
  rw [List.length_set, hl]
  have e : turnsL t ((lieL t few many).set 0 999) many (List.range many) = turnsL t ((lieL t few many).set 0 999) (f + 1) (List.range few) := by
    conv => lhs; rw [hf]; unfold turnsL
    rw [← hf, s1, if_pos (by rw [List.length_range, List.length_range]; exact fm)]
  rw [e]
  unfold turnsL
  rw [s2, if_neg (by omega)]
theorem lie_gains {t : List Int} {few many : Nat} (ht : TabOk t) (h : Lies t few many) : gainI t (lieL t few many) 0 ((lieL t few many).getD 0 0) < gainI t ((lieL t few many).set 0 999) 0 ((lieL t few many).getD 0 0) := by
  have e1 : gainI t (lieL t few many) 0 ((lieL t few many).getD 0 0) = 0 := if_neg (lie_true ht h)
  rw [e1]
  unfold gainI
  rw [told_left ht h, if_pos (List.mem_range.mpr h.f1), List.length_range]
  have e : (lieL t few many).getD 0 0 = t.getD (many - 1) 0 - 1 := rfl
  have hgap := h.gap
  omega
theorem lie_ok {t : List Int} {few many : Nat} (ht : TabOk t) (h : Lies t few many) : CeilOk t.length (lieL t few many) := by
  have hl := lie_len h
  have f1 := h.f1
  have fm := h.fm
  have ml := h.ml
  have hg := getN_in (lo := 0) (hi := 998) ht.ok (k := few - 1) (by omega)
  have hg2 := getN_in (lo := 0) (hi := 998) ht.ok (k := many - 1) (by omega)
  have hgap := h.gap
  refine ⟨by omega, by omega, fun x hx => ?_⟩
  unfold lieL at hx
  rcases List.mem_cons.mp hx with rfl | hx
  · omega
  · rcases List.mem_append.mp hx with hx | hx
    · rw [(List.mem_replicate.mp hx).2]; decide
    · rw [(List.mem_replicate.mp hx).2]; decide
end LW
set_option Elab.async false
set_option linter.all false
set_option maxRecDepth 100000
set_option maxHeartbeats 4000000
namespace LW
open PySem L2 Evl PySem.Spec PyProof.Rows PF
local macro_rules | `(tactic| trivial) => `(tactic| first
  | (with_reducible first | refine v0 ?_ | refine v1 ?_ | refine v2 ?_ | refine v3 ?_ | refine v4 ?_ | refine v5 ?_ | refine v6 ?_ | refine v7 ?_ | refine v8 ?_ | refine v9 ?_ | refine v10 ?_ | refine v11 ?_ | refine v12 ?_ | refine v13 ?_ | refine tn0 ?_ | refine tn1 ?_ | refine tn2 ?_ | refine tn3 ?_ | refine tn4 ?_ | refine tn5 ?_ | refine tn6 ?_ | refine tn7 ?_ | refine tn8 ?_ | refine tn9 ?_ | refine tn10 ?_ | refine tn11 ?_ | refine tn12 ?_ | refine tn13 ?_ | refine ss0 ?_ | refine ss1 ?_ | refine ss2 ?_ | refine ss3 ?_ | refine ss4 ?_ | refine ss5 ?_ | refine ss6 ?_ | refine ss7 ?_ | refine ss8 ?_ | refine ss9 ?_ | refine ss10 ?_ | refine ss11 ?_ | refine ss12 ?_ | refine ss13 ?_)
  | (with_reducible first | refine r_k ?_ | refine r_bin ?_ | refine r_cons ?_ | refine r_nil ?_ | refine r_call ?_ | refine r_blt ?_ | refine r_un ?_ | refine r_ok ?_ | refine s_seq ?_ | refine s_ret ?_ | refine s_if ?_ | refine s_expr ?_ | refine s_asg ?_ | refine s_par ?_ | refine s_nil ?_ | refine s_brk ?_ | refine s_ct ?_ | refine s_for ?_ | refine bool_t ?_ | refine bool_and ?_ | refine bool_or ?_ | refine bool_not ?_ | refine bool_yes ?_ | refine r_and ?_ | refine r_or ?_ | refine r_not ?_ | refine r_ife ?_ | refine r_chain ?_ | refine r_isi ?_ | refine r_lam ?_ | refine r_back ?_ | refine r_listR1 ?_ | refine r_callK ?_ | refine r_mt ?_ | refine r_alloc ?_ | refine r_sliceA ?_ | refine r_sliceL ?_ | refine r_no ?_ | refine r_part ?_ | refine r_scope ?_ | refine t_nil ?_ | refine t_cons ?_ | refine q_seq ?_ | refine q_range ?_ | refine q_range2 ?_ | refine q_rangeD ?_ | refine q_enumA ?_ | refine nx_nx ?_ | refine nx_ret ?_ | refine nx_exc ?_ | refine nx_brk ?_ | refine nx_ct ?_ | refine bl_bl ?_ | refine cs_not ?_ | refine cs_t ?_ | refine cs_f ?_ | refine r_bind ?_ | refine r_nox ?_ | refine t_sub ?_ | refine s_retL ?_ | refine o1_sub ?_ | refine o1_add ?_ | refine o1_lt ?_ | refine o1_le ?_ | refine o1_gt ?_ | refine o1_ge ?_ | refine o1_neg ?_ | refine o1_eq ?_ | refine o1_ne ?_ | refine b1_abs ?_ | refine b1_int ?_ | refine b1_min2 ?_ | refine b1_max2 ?_ | refine o1_eqA ?_ | refine o1_neA ?_ | refine o1_eqS ?_ | refine o1_isN ?_ | refine o1_notN ?_ | refine x_bl ?_ | refine x_int ?_ | refine x_str ?_ | refine x_non ?_ | refine x_nx ?_ | refine x_tup ?_ | refine x_lst ?_ | refine sl_tup ?_ | refine sl_lst ?_ | refine sl_fz ?_ | refine sL_lst ?_ | refine sL_fz ?_)
  | (with_reducible first | refine r_tup ?_ | refine r_lst ?_ | refine o1_addT ?_ | refine o1_addL ?_ | refine b1_len ?_ | refine b1_tuple ?_ | refine b1_list ?_ | refine o1_cat ?_ | refine m1_append ?_ | refine o_pow10_1 ?_ | refine o_pow10_2 ?_ | refine o_pow10_3 ?_ | refine o_pow10_4 ?_ | refine o_pow10_5 ?_ | refine o_pow10_6 ?_ | refine o_pow10_7 ?_ | refine o_pow10_8 ?_ | refine o_pow10_9 ?_ | refine o_pow10_10 ?_ | refine o_pow10_11 ?_ | refine o_pow10_12 ?_ | refine o_pow10_13 ?_ | refine o_pow10_14 ?_ | refine o_pow10_15 ?_ | refine o_pow10_16 ?_ | refine o_pow10_17 ?_ | refine o_pow10_18 ?_ | refine o_pow10_20 ?_ | refine o_pow10_30 ?_)
  | ((with_reducible refine o1_ix ?_); refine ⟨_, _, by first | rfl | assumption, by first | rfl | exact atI_zero, ?_⟩)
  | ((with_reducible refine o1_mul ?_ ?_); first | omega | decide | fail)
  | ((with_reducible refine o1_div ?_ ?_); first | omega | decide | fail)
  | ((with_reducible refine o1_mod ?_ ?_); first | omega | decide | fail)
  | ((with_reducible refine b1_divmod ?_ ?_); first | omega | decide | fail)
  | ((with_reducible refine t_tup ?_ ?_); rfl)
  | ((with_reducible refine r_callV ?_ ?_); rfl)
  | (with_reducible refine cs_dec (fun _ => ?_) (fun _ => ?_))
  | (with_reducible refine cs_beq (fun _ => ?_) (fun _ => ?_))
  | ((with_reducible refine cs_te ?_ ?_); rfl)
  | ((with_reducible refine cs_fe ?_ ?_); rfl)
  | ((with_reducible refine put0 (by assumption) ?_ fun _ => ?_); first | rfl | fail)
  | ((with_reducible refine put1 (by assumption) ?_ fun _ => ?_); first | rfl | fail)
  | ((with_reducible refine put2 (by assumption) ?_ fun _ => ?_); first | rfl | fail)
  | ((fail_if_success (with_reducible refine pst_id ?_)); first
    | exact take_same
    | (with_reducible refine fun (_ : Nat) (_ : Store) (_ : _ = _) (_ : _ = _) (_ : _ = _) => ?_)
    | ((fail_if_success (with_reducible refine And.intro ?_ ?_)); refine ⟨_, by first | rfl | assumption, ?_⟩)
    | ((fail_if_success (with_reducible refine And.intro ?_ ?_)); refine ⟨_, _, rfl, ?_⟩)
    | ((fail_if_success (with_reducible refine And.intro ?_ ?_)); refine ⟨_, _, by first | rfl | assumption, rfl, ?_⟩)
    | ((with_reducible refine And.intro ?_ ?_); first | exact rfl | omega | (simp only [List.length_map]; omega) | exact ⟨rfl, rfl⟩ | exact Nat.le_of_ble_eq_true rfl | fail)))
local macro_rules | `(tactic| done) => `(tactic| first
  | (with_reducible first | refine v0 ?_ | refine v1 ?_ | refine v2 ?_ | refine v3 ?_ | refine v4 ?_ | refine v5 ?_ | refine v6 ?_ | refine v7 ?_ | refine v8 ?_ | refine v9 ?_ | refine v10 ?_ | refine v11 ?_ | refine v12 ?_ | refine v13 ?_ | refine tn0 ?_ | refine tn1 ?_ | refine tn2 ?_ | refine tn3 ?_ | refine tn4 ?_ | refine tn5 ?_ | refine tn6 ?_ | refine tn7 ?_ | refine tn8 ?_ | refine tn9 ?_ | refine tn10 ?_ | refine tn11 ?_ | refine tn12 ?_ | refine tn13 ?_ | refine ss0 ?_ | refine ss1 ?_ | refine ss2 ?_ | refine ss3 ?_ | refine ss4 ?_ | refine ss5 ?_ | refine ss6 ?_ | refine ss7 ?_ | refine ss8 ?_ | refine ss9 ?_ | refine ss10 ?_ | refine ss11 ?_ | refine ss12 ?_ | refine ss13 ?_)
  | (with_reducible first | refine r_k ?_ | refine r_bin ?_ | refine r_cons ?_ | refine r_nil ?_ | refine r_call ?_ | refine r_blt ?_ | refine r_un ?_ | refine r_ok ?_ | refine s_seq ?_ | refine s_ret ?_ | refine s_if ?_ | refine s_expr ?_ | refine s_asg ?_ | refine s_par ?_ | refine s_nil ?_ | refine s_brk ?_ | refine s_ct ?_ | refine s_for ?_ | refine bool_t ?_ | refine bool_and ?_ | refine bool_or ?_ | refine bool_not ?_ | refine bool_yes ?_ | refine r_and ?_ | refine r_or ?_ | refine r_not ?_ | refine r_ife ?_ | refine r_chain ?_ | refine r_isi ?_ | refine r_lam ?_ | refine r_back ?_ | refine r_listR1 ?_ | refine r_callK ?_ | refine r_mt ?_ | refine r_alloc ?_ | refine r_sliceA ?_ | refine r_sliceL ?_ | refine r_no ?_ | refine r_part ?_ | refine r_scope ?_ | refine t_nil ?_ | refine t_cons ?_ | refine q_seq ?_ | refine q_range ?_ | refine q_range2 ?_ | refine q_rangeD ?_ | refine q_enumA ?_ | refine nx_nx ?_ | refine nx_ret ?_ | refine nx_exc ?_ | refine nx_brk ?_ | refine nx_ct ?_ | refine bl_bl ?_ | refine cs_not ?_ | refine cs_t ?_ | refine cs_f ?_ | refine r_bind ?_ | refine r_nox ?_ | refine t_sub ?_ | refine s_retL ?_ | refine o1_sub ?_ | refine o1_add ?_ | refine o1_lt ?_ | refine o1_le ?_ | refine o1_gt ?_ | refine o1_ge ?_ | refine o1_neg ?_ | refine o1_eq ?_ | refine o1_ne ?_ | refine b1_abs ?_ | refine b1_int ?_ | refine b1_min2 ?_ | refine b1_max2 ?_ | refine o1_eqA ?_ | refine o1_neA ?_ | refine o1_eqS ?_ | refine o1_isN ?_ | refine o1_notN ?_ | refine x_bl ?_ | refine x_int ?_ | refine x_str ?_ | refine x_non ?_ | refine x_nx ?_ | refine x_tup ?_ | refine x_lst ?_ | refine sl_tup ?_ | refine sl_lst ?_ | refine sl_fz ?_ | refine sL_lst ?_ | refine sL_fz ?_)
  | (with_reducible first | refine r_tup ?_ | refine r_lst ?_ | refine o1_addT ?_ | refine o1_addL ?_ | refine b1_len ?_ | refine b1_tuple ?_ | refine b1_list ?_ | refine o1_cat ?_ | refine m1_append ?_ | refine o_pow10_1 ?_ | refine o_pow10_2 ?_ | refine o_pow10_3 ?_ | refine o_pow10_4 ?_ | refine o_pow10_5 ?_ | refine o_pow10_6 ?_ | refine o_pow10_7 ?_ | refine o_pow10_8 ?_ | refine o_pow10_9 ?_ | refine o_pow10_10 ?_ | refine o_pow10_11 ?_ | refine o_pow10_12 ?_ | refine o_pow10_13 ?_ | refine o_pow10_14 ?_ | refine o_pow10_15 ?_ | refine o_pow10_16 ?_ | refine o_pow10_17 ?_ | refine o_pow10_18 ?_ | refine o_pow10_20 ?_ | refine o_pow10_30 ?_)
  | ((with_reducible refine o1_ix ?_); refine ⟨_, _, by first | rfl | assumption, by first | rfl | exact atI_zero, ?_⟩)
  | ((with_reducible refine o1_mul ?_ ?_); first | omega | decide | fail)
  | ((with_reducible refine o1_div ?_ ?_); first | omega | decide | fail)
  | ((with_reducible refine o1_mod ?_ ?_); first | omega | decide | fail)
  | ((with_reducible refine b1_divmod ?_ ?_); first | omega | decide | fail)
  | ((with_reducible refine t_tup ?_ ?_); rfl)
  | ((with_reducible refine r_callV ?_ ?_); rfl)
  | (with_reducible refine cs_dec (fun _ => ?_) (fun _ => ?_))
  | (with_reducible refine cs_beq (fun _ => ?_) (fun _ => ?_))
  | ((with_reducible refine cs_te ?_ ?_); rfl)
  | ((with_reducible refine cs_fe ?_ ?_); rfl)
  | ((with_reducible refine put0 (by assumption) ?_ fun _ => ?_); first | rfl | fail)
  | ((with_reducible refine put1 (by assumption) ?_ fun _ => ?_); first | rfl | fail)
  | ((with_reducible refine put2 (by assumption) ?_ fun _ => ?_); first | rfl | fail)
  | ((fail_if_success (with_reducible refine pst_id ?_)); first
    | exact take_same
    | (with_reducible refine fun (_ : Nat) (_ : Store) (_ : _ = _) (_ : _ = _) (_ : _ = _) => ?_)
    | ((fail_if_success (with_reducible refine And.intro ?_ ?_)); refine ⟨_, by first | rfl | assumption, ?_⟩)
    | ((fail_if_success (with_reducible refine And.intro ?_ ?_)); refine ⟨_, _, rfl, ?_⟩)
    | ((fail_if_success (with_reducible refine And.intro ?_ ?_)); refine ⟨_, _, by first | rfl | assumption, rfl, ?_⟩)
    | ((with_reducible refine And.intro ?_ ?_); first | exact rfl | omega | (simp only [List.length_map]; omega) | exact ⟨rfl, rfl⟩ | exact Nat.le_of_ble_eq_true rfl | fail))
  | ((fail_if_success (with_reducible refine pst_id ?_)); first | (with_reducible rfl) | assumption | contradiction))

/-! sharing by the table of each one's class -/
def rowAt (R : List (List Int)) (k : Nat) : List Int := R.getD k []
def okR (R : List (List Int)) (cs : List Int) (m k : Nat) : Bool := decide ((rowAt R k).getD (m - 1) 0 ≤ cs.getD k 0)
def stepR (R : List (List Int)) (cs : List Int) (l : List Nat) : List Nat := l.filter (okR R cs l.length)
theorem stepR_len (R : List (List Int)) (cs : List Int) (l : List Nat) : (stepR R cs l).length ≤ l.length := List.length_filter_le ..
def turnsR (R : List (List Int)) (cs : List Int) : Nat → List Nat → List Nat
  | 0, l => l
  | f + 1, l => if (stepR R cs l).length < l.length then turnsR R cs f (stepR R cs l) else l
def leftR (R : List (List Int)) (cs : List Int) : List Nat := turnsR R cs cs.length (List.range cs.length)
theorem turnsR_sub (R : List (List Int)) (cs : List Int) : ∀ (f : Nat) (l : List Nat), List.Sublist (turnsR R cs f l) l
  | 0, l => List.Sublist.refl _
  | f + 1, l => by
    unfold turnsR
    split
    · exact List.Sublist.trans (turnsR_sub R cs f _) List.filter_sublist
    · exact List.Sublist.refl _
theorem leftR_lt {R : List (List Int)} {cs : List Int} {k : Nat} (h : k ∈ leftR R cs) : k < cs.length := List.mem_range.mp ((turnsR_sub R cs _ _).subset h)
theorem leftR_len (R : List (List Int)) (cs : List Int) : (leftR R cs).length ≤ cs.length := by
  have := (turnsR_sub R cs cs.length (List.range cs.length)).length_le
  rw [List.length_range] at this
  exact this
theorem turnsR_end (R : List (List Int)) (cs : List Int) : ∀ (f : Nat) (l : List Nat), l.length ≤ f → stepR R cs (turnsR R cs f l) = turnsR R cs f l
  | 0, l, h => by
    have : l = [] := List.length_eq_zero_iff.mp (by omega)
    subst this
    rfl
  | f + 1, l, h => by
    unfold turnsR
    split
    · rename_i hc
      exact turnsR_end R cs f _ (by omega)
    · rename_i hc
      exact List.filter_sublist.eq_of_length (by unfold stepR at hc; have := List.length_filter_le (okR R cs l.length) l; omega)
def gainR (R : List (List Int)) (cs : List Int) (k : Nat) (w : Int) : Int := if k ∈ leftR R cs then w - (rowAt R k).getD ((leftR R cs).length - 1) 0 else 0
theorem leftR_pays {R : List (List Int)} {cs : List Int} {k : Nat} (h : k ∈ leftR R cs) : (rowAt R k).getD ((leftR R cs).length - 1) 0 ≤ cs.getD k 0 := by
  have hend : stepR R cs (leftR R cs) = leftR R cs := turnsR_end R cs _ _ (by rw [List.length_range]; exact Nat.le_refl _)
  rw [← hend] at h
  exact of_decide_eq_true (List.mem_filter.mp h).2
theorem gainR_own {R : List (List Int)} {cs : List Int} {k : Nat} : 0 ≤ gainR R cs k (cs.getD k 0) := by
  unfold gainR
  split
  · rename_i h
    have := leftR_pays h
    omega
  · exact Int.le_refl _
/-! one table for all -/
theorem turnsR_same {R : List (List Int)} {cs t : List Int} (h : ∀ k, k < cs.length → rowAt R k = t) : ∀ (f : Nat) (l : List Nat), (∀ k ∈ l, k < cs.length) → turnsR R cs f l = turnsL t cs f l
  | 0, l, _ => rfl
  | f + 1, l, hl => by
    have e : stepR R cs l = stepL t cs l := by
      unfold stepR stepL
      refine List.filter_congr fun k hk => ?_
      unfold okR okL
      rw [h k (hl k hk)]
    unfold turnsR turnsL
    rw [e, turnsR_same h f (stepL t cs l) fun k hk => hl k (List.mem_filter.mp hk).1]
theorem leftR_same {R : List (List Int)} {cs t : List Int} (h : ∀ k, k < cs.length → rowAt R k = t) : leftR R cs = leftL t cs := turnsR_same h _ _ fun k hk => List.mem_range.mp hk
theorem gainR_same {R : List (List Int)} {cs t : List Int} (h : ∀ k, k < cs.length → rowAt R k = t) {k : Nat} {w : Int} : gainR R cs k w = gainI t cs k w := by
  unfold gainR gainI
  rw [leftR_same h]
  by_cases hk : k ∈ leftL t cs
  · rw [if_pos hk, if_pos hk, h k (leftL_lt hk)]
  · rw [if_neg hk, if_neg hk]
/-! prompt tables -/
def Broken (one two : List Int) (few many : Nat) : Prop := if few = many then two.getD (few - 1) 0 < one.getD (many - 1) 0 else two.getD (few - 1) 0 < one.getD (many - 1) 0 - 1
structure Wrong (T : List (List Int)) (n d e few many : Nat) : Prop where
  de : d ≤ e
  el : e < T.length
  f1 : 1 ≤ few
  fm : few ≤ many
  ml : many ≤ n
  br : Broken (rowAt T d) (rowAt T e) few many
def Prompt (T : List (List Int)) (n : Nat) : Prop := ∀ d e few many, ¬ Wrong T n d e few many
theorem prompt_le {T : List (List Int)} {n d e few many : Nat} (h : Prompt T n) (de : d ≤ e) (el : e < T.length) (f1 : 1 ≤ few) (fm : few ≤ many) (ml : many ≤ n) :
    (few = many → (rowAt T d).getD (many - 1) 0 ≤ (rowAt T e).getD (few - 1) 0) ∧ (rowAt T d).getD (many - 1) 0 - 1 ≤ (rowAt T e).getD (few - 1) 0 := by
  have hn := h d e few many
  have hb : ¬ Broken (rowAt T d) (rowAt T e) few many := fun hb => hn ⟨de, el, f1, fm, ml, hb⟩
  unfold Broken at hb
  by_cases hc : few = many
  · rw [if_pos hc] at hb
    exact ⟨fun _ => by omega, by omega⟩
  · rw [if_neg hc] at hb
    exact ⟨fun e => absurd e hc, by omega⟩
theorem wait_turns {T R R' : List (List Int)} {cs cs' : List Int} {n a d e : Nat} (hp : Prompt T n) (de : d ≤ e) (el : e < T.length) (ra : rowAt R a = rowAt T d) (ra' : rowAt R' a = rowAt T e)
    (hr : ∀ k, k ≠ a → rowAt R' k = rowAt R k) (hc : ∀ k, k ≠ a → cs'.getD k 0 = cs.getD k 0) : ∀ (f : Nat) (l : List Nat), a ∈ l → l.length ≤ n → a ∈ turnsR R' cs' f l →
    (a ∈ turnsR R cs f l ∧ (rowAt T d).getD ((turnsR R cs f l).length - 1) 0 ≤ (rowAt T e).getD ((turnsR R' cs' f l).length - 1) 0) ∨
    (a ∉ turnsR R cs f l ∧ cs.getD a 0 ≤ (rowAt T e).getD ((turnsR R' cs' f l).length - 1) 0)
  | 0, l, h1, h2, h3 => .inl ⟨h1, (prompt_le hp de el (few := l.length) (many := l.length) (List.length_pos_of_mem h1) (Nat.le_refl _) h2).1 rfl⟩
  | f + 1, l, h1, h2, h3 => by
    have hpos := List.length_pos_of_mem h1
    by_cases hs : a ∈ stepR R cs l
    · have hstep : a ∈ stepR R' cs' l → stepR R' cs' l = stepR R cs l := fun hs' => by
        unfold stepR
        refine List.filter_congr fun k hk => ?_
        by_cases e : k = a
        · subst e
          rw [(List.mem_filter.mp hs).2, (List.mem_filter.mp hs').2]
        · unfold okR
          rw [hr k e, hc k e]
      have hs' : a ∈ stepR R' cs' l := by
        unfold turnsR at h3
        split at h3
        · exact (turnsR_sub R' cs' f _).subset h3
        · rename_i hn
          have e : stepR R' cs' l = l := List.filter_sublist.eq_of_length (by have := stepR_len R' cs' l; unfold stepR at hn this; omega)
          rw [e]; exact h1
      have e := hstep hs'
      unfold turnsR at h3 ⊢
      rw [e] at h3 ⊢
      have hle := stepR_len R cs l
      split
      · rename_i hlt
        rw [if_pos hlt] at h3
        exact wait_turns hp de el ra ra' hr hc f _ hs (by omega) h3
      · exact .inl ⟨h1, (prompt_le hp de el (few := l.length) (many := l.length) hpos (Nat.le_refl _) h2).1 rfl⟩
    · right
      have hlt : cs.getD a 0 < (rowAt T d).getD (l.length - 1) 0 := by
        rcases Int.lt_or_le (cs.getD a 0) ((rowAt T d).getD (l.length - 1) 0) with h | h
        · exact h
        · exact absurd (List.mem_filter.mpr ⟨h1, by unfold okR; rw [ra]; exact decide_eq_true h⟩) hs
      have hle := stepR_len R cs l
      have hl : (stepR R cs l).length < l.length := by
        rcases Nat.lt_or_ge (stepR R cs l).length l.length with h | h
        · exact h
        · have e : stepR R cs l = l := List.filter_sublist.eq_of_length (by unfold stepR at h hle; omega)
          rw [e] at hs
          exact absurd h1 hs
      have hout : a ∉ turnsR R cs (f + 1) l := fun h => by
        unfold turnsR at h
        rw [if_pos hl] at h
        exact hs ((turnsR_sub R cs f _).subset h)
      refine ⟨hout, ?_⟩
      have hm := (turnsR_sub R' cs' (f + 1) l).length_le
      have hm1 := List.length_pos_of_mem h3
      have := (prompt_le hp de el (few := (turnsR R' cs' (f + 1) l).length) (many := l.length) hm1 hm h2).2
      omega
/-- by prompt tables nobody gains by waiting -/
theorem prompt_true {T R R' : List (List Int)} {cs cs' : List Int} {n a d e : Nat} (hp : Prompt T n) (de : d ≤ e) (el : e < T.length) (ra : rowAt R a = rowAt T d) (ra' : rowAt R' a = rowAt T e)
    (hr : ∀ k, k ≠ a → rowAt R' k = rowAt R k) (hc : ∀ k, k ≠ a → cs'.getD k 0 = cs.getD k 0) (hl : cs'.length = cs.length) (ha : a < cs.length) (hn : cs.length ≤ n) :
    gainR R' cs' a (cs.getD a 0) ≤ gainR R cs a (cs.getD a 0) := by
  have own := gainR_own (R := R) (cs := cs) (k := a)
  by_cases h' : a ∈ leftR R' cs'
  · have h3 := h'
    unfold leftR at h3
    rw [hl] at h3
    have := wait_turns hp de el ra ra' hr hc cs.length (List.range cs.length) (List.mem_range.mpr ha) (by rw [List.length_range]; exact hn) h3
    have eL : turnsR R' cs' cs.length (List.range cs.length) = leftR R' cs' := by unfold leftR; rw [hl]
    rw [eL] at this
    rcases this with ⟨h1, h2⟩ | ⟨h1, h2⟩
    · have h1 : a ∈ leftR R cs := h1
      unfold gainR
      rw [if_pos h', if_pos h1, ra, ra']
      have h2 : (rowAt T d).getD ((leftR R cs).length - 1) 0 ≤ (rowAt T e).getD ((leftR R' cs').length - 1) 0 := h2
      omega
    · have eg : gainR R' cs' a (cs.getD a 0) = cs.getD a 0 - (rowAt T e).getD ((leftR R' cs').length - 1) 0 := by
        unfold gainR
        rw [if_pos h', ra']
      omega
  · unfold gainR at own ⊢
    rw [if_neg h']
    exact own
theorem prompt_one {t : List Int} : Prompt [t] t.length ↔ Firm t := by
  constructor
  · intro h i j hij hj
    have := (prompt_le h (d := 0) (e := 0) (few := i + 1) (many := j + 1) (Nat.le_refl _) (by simp) (by omega) (by omega) (by omega)).2
    have e : rowAt [t] 0 = t := rfl
    rw [e] at this
    simp only [Nat.add_sub_cancel] at this
    omega
  · intro h d e few many hw
    have hd : d = 0 := by have := hw.de; have := hw.el; simp at this; omega
    have he : e = 0 := by have := hw.el; simp at this; omega
    subst hd he
    have hb := hw.br
    have er : rowAt [t] 0 = t := rfl
    unfold Broken at hb
    rw [er] at hb
    have f1 := hw.f1
    have fm := hw.fm
    have ml := hw.ml
    by_cases hc : few = many
    · rw [if_pos hc, hc] at hb; omega
    · rw [if_neg hc] at hb
      have := h (few - 1) (many - 1) (by omega) (by omega)
      omega
end LW
set_option Elab.async false
set_option linter.all false
set_option maxRecDepth 100000
set_option maxHeartbeats 4000000
namespace LW
open PySem L2 Evl PySem.Spec PyProof.Rows PF
local macro_rules | `(tactic| trivial) => `(tactic| first
  | (with_reducible first | refine v0 ?_ | refine v1 ?_ | refine v2 ?_ | refine v3 ?_ | refine v4 ?_ | refine v5 ?_ | refine v6 ?_ | refine v7 ?_ | refine v8 ?_ | refine v9 ?_ | refine v10 ?_ | refine v11 ?_ | refine v12 ?_ | refine v13 ?_ | refine tn0 ?_ | refine tn1 ?_ | refine tn2 ?_ | refine tn3 ?_ | refine tn4 ?_ | refine tn5 ?_ | refine tn6 ?_ | refine tn7 ?_ | refine tn8 ?_ | refine tn9 ?_ | refine tn10 ?_ | refine tn11 ?_ | refine tn12 ?_ | refine tn13 ?_ | refine ss0 ?_ | refine ss1 ?_ | refine ss2 ?_ | refine ss3 ?_ | refine ss4 ?_ | refine ss5 ?_ | refine ss6 ?_ | refine ss7 ?_ | refine ss8 ?_ | refine ss9 ?_ | refine ss10 ?_ | refine ss11 ?_ | refine ss12 ?_ | refine ss13 ?_)
  | (with_reducible first | refine r_k ?_ | refine r_bin ?_ | refine r_cons ?_ | refine r_nil ?_ | refine r_call ?_ | refine r_blt ?_ | refine r_un ?_ | refine r_ok ?_ | refine s_seq ?_ | refine s_ret ?_ | refine s_if ?_ | refine s_expr ?_ | refine s_asg ?_ | refine s_par ?_ | refine s_nil ?_ | refine s_brk ?_ | refine s_ct ?_ | refine s_for ?_ | refine bool_t ?_ | refine bool_and ?_ | refine bool_or ?_ | refine bool_not ?_ | refine bool_yes ?_ | refine r_and ?_ | refine r_or ?_ | refine r_not ?_ | refine r_ife ?_ | refine r_chain ?_ | refine r_isi ?_ | refine r_lam ?_ | refine r_back ?_ | refine r_listR1 ?_ | refine r_callK ?_ | refine r_mt ?_ | refine r_alloc ?_ | refine r_sliceA ?_ | refine r_sliceL ?_ | refine r_no ?_ | refine r_part ?_ | refine r_scope ?_ | refine t_nil ?_ | refine t_cons ?_ | refine q_seq ?_ | refine q_range ?_ | refine q_range2 ?_ | refine q_rangeD ?_ | refine q_enumA ?_ | refine nx_nx ?_ | refine nx_ret ?_ | refine nx_exc ?_ | refine nx_brk ?_ | refine nx_ct ?_ | refine bl_bl ?_ | refine cs_not ?_ | refine cs_t ?_ | refine cs_f ?_ | refine r_bind ?_ | refine r_nox ?_ | refine t_sub ?_ | refine s_retL ?_ | refine o1_sub ?_ | refine o1_add ?_ | refine o1_lt ?_ | refine o1_le ?_ | refine o1_gt ?_ | refine o1_ge ?_ | refine o1_neg ?_ | refine o1_eq ?_ | refine o1_ne ?_ | refine b1_abs ?_ | refine b1_int ?_ | refine b1_min2 ?_ | refine b1_max2 ?_ | refine o1_eqA ?_ | refine o1_neA ?_ | refine o1_eqS ?_ | refine o1_isN ?_ | refine o1_notN ?_ | refine x_bl ?_ | refine x_int ?_ | refine x_str ?_ | refine x_non ?_ | refine x_nx ?_ | refine x_tup ?_ | refine x_lst ?_ | refine sl_tup ?_ | refine sl_lst ?_ | refine sl_fz ?_ | refine sL_lst ?_ | refine sL_fz ?_)
  | (with_reducible first | refine r_tup ?_ | refine r_lst ?_ | refine o1_addT ?_ | refine o1_addL ?_ | refine b1_len ?_ | refine b1_tuple ?_ | refine b1_list ?_ | refine o1_cat ?_ | refine m1_append ?_ | refine o_pow10_1 ?_ | refine o_pow10_2 ?_ | refine o_pow10_3 ?_ | refine o_pow10_4 ?_ | refine o_pow10_5 ?_ | refine o_pow10_6 ?_ | refine o_pow10_7 ?_ | refine o_pow10_8 ?_ | refine o_pow10_9 ?_ | refine o_pow10_10 ?_ | refine o_pow10_11 ?_ | refine o_pow10_12 ?_ | refine o_pow10_13 ?_ | refine o_pow10_14 ?_ | refine o_pow10_15 ?_ | refine o_pow10_16 ?_ | refine o_pow10_17 ?_ | refine o_pow10_18 ?_ | refine o_pow10_20 ?_ | refine o_pow10_30 ?_)
  | ((with_reducible refine o1_ix ?_); refine ⟨_, _, by first | rfl | assumption, by first | rfl | exact atI_zero, ?_⟩)
  | ((with_reducible refine o1_mul ?_ ?_); first | omega | decide | fail)
  | ((with_reducible refine o1_div ?_ ?_); first | omega | decide | fail)
  | ((with_reducible refine o1_mod ?_ ?_); first | omega | decide | fail)
  | ((with_reducible refine b1_divmod ?_ ?_); first | omega | decide | fail)
  | ((with_reducible refine t_tup ?_ ?_); rfl)
  | ((with_reducible refine r_callV ?_ ?_); rfl)
  | (with_reducible refine cs_dec (fun _ => ?_) (fun _ => ?_))
  | (with_reducible refine cs_beq (fun _ => ?_) (fun _ => ?_))
  | ((with_reducible refine cs_te ?_ ?_); rfl)
  | ((with_reducible refine cs_fe ?_ ?_); rfl)
  | ((with_reducible refine put0 (by assumption) ?_ fun _ => ?_); first | rfl | fail)
  | ((with_reducible refine put1 (by assumption) ?_ fun _ => ?_); first | rfl | fail)
  | ((with_reducible refine put2 (by assumption) ?_ fun _ => ?_); first | rfl | fail)
  | ((fail_if_success (with_reducible refine pst_id ?_)); first
    | exact take_same
    | (with_reducible refine fun (_ : Nat) (_ : Store) (_ : _ = _) (_ : _ = _) (_ : _ = _) => ?_)
    | ((fail_if_success (with_reducible refine And.intro ?_ ?_)); refine ⟨_, by first | rfl | assumption, ?_⟩)
    | ((fail_if_success (with_reducible refine And.intro ?_ ?_)); refine ⟨_, _, rfl, ?_⟩)
    | ((fail_if_success (with_reducible refine And.intro ?_ ?_)); refine ⟨_, _, by first | rfl | assumption, rfl, ?_⟩)
    | ((with_reducible refine And.intro ?_ ?_); first | exact rfl | omega | (simp only [List.length_map]; omega) | exact ⟨rfl, rfl⟩ | exact Nat.le_of_ble_eq_true rfl | fail))
  | ((with_reducible refine dip_go (by assumption) ?_ ?_); (first | omega | (simp only [List.length_map]; omega) | fail); intro _ _ _ _ _ _)
  | ((with_reducible refine one_go (0) (1) (by assumption) ?_ ?_ ?_); (exact ⟨Nat.zero_lt_succ _, Nat.le_of_ble_eq_true rfl⟩); (focus ((repeat (first | exact bnd_nil | refine bnd_cons (by omega) ?_)); (all_goals fail))); intro _ _ _ _ _ _))
local macro_rules | `(tactic| done) => `(tactic| first
  | (with_reducible first | refine v0 ?_ | refine v1 ?_ | refine v2 ?_ | refine v3 ?_ | refine v4 ?_ | refine v5 ?_ | refine v6 ?_ | refine v7 ?_ | refine v8 ?_ | refine v9 ?_ | refine v10 ?_ | refine v11 ?_ | refine v12 ?_ | refine v13 ?_ | refine tn0 ?_ | refine tn1 ?_ | refine tn2 ?_ | refine tn3 ?_ | refine tn4 ?_ | refine tn5 ?_ | refine tn6 ?_ | refine tn7 ?_ | refine tn8 ?_ | refine tn9 ?_ | refine tn10 ?_ | refine tn11 ?_ | refine tn12 ?_ | refine tn13 ?_ | refine ss0 ?_ | refine ss1 ?_ | refine ss2 ?_ | refine ss3 ?_ | refine ss4 ?_ | refine ss5 ?_ | refine ss6 ?_ | refine ss7 ?_ | refine ss8 ?_ | refine ss9 ?_ | refine ss10 ?_ | refine ss11 ?_ | refine ss12 ?_ | refine ss13 ?_)
  | (with_reducible first | refine r_k ?_ | refine r_bin ?_ | refine r_cons ?_ | refine r_nil ?_ | refine r_call ?_ | refine r_blt ?_ | refine r_un ?_ | refine r_ok ?_ | refine s_seq ?_ | refine s_ret ?_ | refine s_if ?_ | refine s_expr ?_ | refine s_asg ?_ | refine s_par ?_ | refine s_nil ?_ | refine s_brk ?_ | refine s_ct ?_ | refine s_for ?_ | refine bool_t ?_ | refine bool_and ?_ | refine bool_or ?_ | refine bool_not ?_ | refine bool_yes ?_ | refine r_and ?_ | refine r_or ?_ | refine r_not ?_ | refine r_ife ?_ | refine r_chain ?_ | refine r_isi ?_ | refine r_lam ?_ | refine r_back ?_ | refine r_listR1 ?_ | refine r_callK ?_ | refine r_mt ?_ | refine r_alloc ?_ | refine r_sliceA ?_ | refine r_sliceL ?_ | refine r_no ?_ | refine r_part ?_ | refine r_scope ?_ | refine t_nil ?_ | refine t_cons ?_ | refine q_seq ?_ | refine q_range ?_ | refine q_range2 ?_ | refine q_rangeD ?_ | refine q_enumA ?_ | refine nx_nx ?_ | refine nx_ret ?_ | refine nx_exc ?_ | refine nx_brk ?_ | refine nx_ct ?_ | refine bl_bl ?_ | refine cs_not ?_ | refine cs_t ?_ | refine cs_f ?_ | refine r_bind ?_ | refine r_nox ?_ | refine t_sub ?_ | refine s_retL ?_ | refine o1_sub ?_ | refine o1_add ?_ | refine o1_lt ?_ | refine o1_le ?_ | refine o1_gt ?_ | refine o1_ge ?_ | refine o1_neg ?_ | refine o1_eq ?_ | refine o1_ne ?_ | refine b1_abs ?_ | refine b1_int ?_ | refine b1_min2 ?_ | refine b1_max2 ?_ | refine o1_eqA ?_ | refine o1_neA ?_ | refine o1_eqS ?_ | refine o1_isN ?_ | refine o1_notN ?_ | refine x_bl ?_ | refine x_int ?_ | refine x_str ?_ | refine x_non ?_ | refine x_nx ?_ | refine x_tup ?_ | refine x_lst ?_ | refine sl_tup ?_ | refine sl_lst ?_ | refine sl_fz ?_ | refine sL_lst ?_ | refine sL_fz ?_)
  | (with_reducible first | refine r_tup ?_ | refine r_lst ?_ | refine o1_addT ?_ | refine o1_addL ?_ | refine b1_len ?_ | refine b1_tuple ?_ | refine b1_list ?_ | refine o1_cat ?_ | refine m1_append ?_ | refine o_pow10_1 ?_ | refine o_pow10_2 ?_ | refine o_pow10_3 ?_ | refine o_pow10_4 ?_ | refine o_pow10_5 ?_ | refine o_pow10_6 ?_ | refine o_pow10_7 ?_ | refine o_pow10_8 ?_ | refine o_pow10_9 ?_ | refine o_pow10_10 ?_ | refine o_pow10_11 ?_ | refine o_pow10_12 ?_ | refine o_pow10_13 ?_ | refine o_pow10_14 ?_ | refine o_pow10_15 ?_ | refine o_pow10_16 ?_ | refine o_pow10_17 ?_ | refine o_pow10_18 ?_ | refine o_pow10_20 ?_ | refine o_pow10_30 ?_)
  | ((with_reducible refine o1_ix ?_); refine ⟨_, _, by first | rfl | assumption, by first | rfl | exact atI_zero, ?_⟩)
  | ((with_reducible refine o1_mul ?_ ?_); first | omega | decide | fail)
  | ((with_reducible refine o1_div ?_ ?_); first | omega | decide | fail)
  | ((with_reducible refine o1_mod ?_ ?_); first | omega | decide | fail)
  | ((with_reducible refine b1_divmod ?_ ?_); first | omega | decide | fail)
  | ((with_reducible refine t_tup ?_ ?_); rfl)
  | ((with_reducible refine r_callV ?_ ?_); rfl)
  | (with_reducible refine cs_dec (fun _ => ?_) (fun _ => ?_))
  | (with_reducible refine cs_beq (fun _ => ?_) (fun _ => ?_))
  | ((with_reducible refine cs_te ?_ ?_); rfl)
  | ((with_reducible refine cs_fe ?_ ?_); rfl)
  | ((with_reducible refine put0 (by assumption) ?_ fun _ => ?_); first | rfl | fail)
  | ((with_reducible refine put1 (by assumption) ?_ fun _ => ?_); first | rfl | fail)
  | ((with_reducible refine put2 (by assumption) ?_ fun _ => ?_); first | rfl | fail)
  | ((fail_if_success (with_reducible refine pst_id ?_)); first
    | exact take_same
    | (with_reducible refine fun (_ : Nat) (_ : Store) (_ : _ = _) (_ : _ = _) (_ : _ = _) => ?_)
    | ((fail_if_success (with_reducible refine And.intro ?_ ?_)); refine ⟨_, by first | rfl | assumption, ?_⟩)
    | ((fail_if_success (with_reducible refine And.intro ?_ ?_)); refine ⟨_, _, rfl, ?_⟩)
    | ((fail_if_success (with_reducible refine And.intro ?_ ?_)); refine ⟨_, _, by first | rfl | assumption, rfl, ?_⟩)
    | ((with_reducible refine And.intro ?_ ?_); first | exact rfl | omega | (simp only [List.length_map]; omega) | exact ⟨rfl, rfl⟩ | exact Nat.le_of_ble_eq_true rfl | fail))
  | ((with_reducible refine dip_go (by assumption) ?_ ?_); (first | omega | (simp only [List.length_map]; omega) | fail); intro _ _ _ _ _ _)
  | ((with_reducible refine one_go (0) (1) (by assumption) ?_ ?_ ?_); (exact ⟨Nat.zero_lt_succ _, Nat.le_of_ble_eq_true rfl⟩); (focus ((repeat (first | exact bnd_nil | refine bnd_cons (by omega) ?_)); (all_goals fail))); intro _ _ _ _ _ _)
  | ((fail_if_success (with_reducible refine pst_id ?_)); first | (with_reducible rfl) | assumption | contradiction))

/-! the package's sharing by classes -/
abbrev tabsD (T : List (List Int)) : D := .tup (T.map tI)
structure TabsOk (T : List (List Int)) (n : Nat) : Prop where
  l1 : 1 ≤ T.length
  l4 : T.length ≤ 4
  ok : ∀ t ∈ T, TabOk t ∧ t.length = n
structure ClsOk (T : List (List Int)) (m : Nat) (cl : List Int) : Prop where
  len : cl.length = m
  ok : ∀ c ∈ cl, 0 ≤ c ∧ c < T.length
def rowsOf (T : List (List Int)) (cl : List Int) : List (List Int) := cl.map fun c => rowAt T c.toNat
theorem rowAt_of {T : List (List Int)} {k : Nat} (h : k < T.length) : T[k]? = some (rowAt T k) := by
  unfold rowAt
  rw [List.getD_eq_getElem?_getD, List.getElem?_eq_getElem h]; rfl
theorem rowAt_mem {T : List (List Int)} {k : Nat} (h : k < T.length) : rowAt T k ∈ T := List.mem_of_getElem? (rowAt_of h)
theorem rowAt_rows {T : List (List Int)} {cl : List Int} {k : Nat} (h : k < cl.length) : rowAt (rowsOf T cl) k = rowAt T (cl.getD k 0).toNat := by
  unfold rowsOf
  have e : (cl.map fun c => rowAt T c.toNat)[k]? = some (rowAt T (cl.getD k 0).toNat) := by
    rw [List.getElem?_map, List.getElem?_eq_getElem h, List.getD_eq_getElem?_getD, List.getElem?_eq_getElem h]; rfl
  show ((cl.map fun c => rowAt T c.toNat).getD k []) = _
  rw [List.getD_eq_getElem?_getD, e]; rfl
theorem ix_tab {R : List (List Int)} {k : Nat} {x : D} {S : Store} {Q : D → Store → Prop} {E : XV → Store → Prop} (hx : asS x S = some (R.map tI)) (hk : k < R.length) (h : Q (tI (rowAt R k)) S) : Pst (oIx x (.int (k : Int)) S) Q E := by
  refine o1_ix ⟨_, _, hx, (atI_nat _ (by omega)).trans ?_, h⟩
  rw [Int.toNat_natCast, List.getElem?_map, rowAt_of hk]
  rfl
theorem ix_tab0 {R : List (List Int)} {x : D} {S : Store} {Q : D → Store → Prop} {E : XV → Store → Prop} (hx : asS x S = some (R.map tI)) (hk : 0 < R.length) (h : Q (tI (rowAt R 0)) S) : Pst (oIx x (.int 0) S) Q E := ix_tab (k := 0) hx hk h
theorem rows_pureT (rs : List (List Int)) : D.pures (rs.map tI) = true := D.pures_iff.mpr fun d hd => by
  obtain ⟨r, _, rfl⟩ := List.mem_map.mp hd
  show D.pures (r.map D.int) = true
  exact pures_mapI
theorem lay_ints (ns : List Int) : PyData.canLayAll0 (D.pys (ns.map D.int)) = true ∧ PyData.depthAll (D.pys (ns.map D.int)) = 0 := by
  induction ns with
  | nil => exact ⟨rfl, rfl⟩
  | cons n ns ih => exact ⟨by simp only [List.map_cons, D.pys, PyData.canLayAll0, D.py, PyData.canLay0, ih.1, Bool.and_self], by simp only [List.map_cons, D.pys, D.py, PyData.depthAll, PyData.depth, ih.2, Nat.max_self]⟩
theorem lay_tabs (T : List (List Int)) : PyData.canLayAll0 (D.pys (T.map tI)) = true ∧ PyData.depthAll (D.pys (T.map tI)) ≤ 1 := by
  induction T with
  | nil => exact ⟨rfl, by decide⟩
  | cons t T ih =>
    have h := lay_ints t
    refine ⟨by simp only [List.map_cons, D.pys, PyData.canLayAll0, D.py, PyData.canLay0, h.1, ih.1, Bool.and_self], ?_⟩
    simp only [List.map_cons, D.pys, D.py, PyData.depthAll, PyData.depth, h.2]
    have := ih.2
    omega
theorem eqok_tabs {T : List (List Int)} : eqOk (tabsD T) = true := by
  unfold eqOk
  rw [Bool.and_eq_true]
  refine ⟨by rw [D.pure]; exact rows_pureT T, ?_⟩
  have h := lay_tabs T
  unfold SeqAt.shaped
  rw [Bool.and_eq_true]
  refine ⟨by rw [D.py, PyData.canLay0]; exact h.1, decide_eq_true ?_⟩
  rw [D.py, PyData.depth]
  have := h.2
  omega
theorem long_eq {T : List (List Int)} {t : List Int} {n : Nat} (h : ∀ u ∈ T, u.length = n) (ht : t.length = n) (hl : T.length ≤ 1000) {S : Store} : F_is_as_long [tI t, tabsD T] S = some (.ok (.bl true), S) := by
  unfold F_is_as_long b_is_as_long
  refine call_eq rfl ?_
  dsimp only [startE, List.map, List.replicate, List.length, List.cons_append, List.nil_append, Nat.reduceAdd, Nat.reduceSub]
  repeat' (first | done | fail)
  with_reducible refine r_comp ?_
  repeat' (first | done | fail)
  with_reducible refine comp_filter (so := .items (T.map tI)) T tI (fun _ => .bl true) (fun _ => true) rfl (fun _ => rfl) (by show _ ≤ 1000000; omega) ?_ ?_
  · intro u hu acc
    have hu := h u hu
    dsimp only [wipeE, List.set]
    repeat' (first | done | fail)
    intro _
    repeat' (first | done | fail)
    exact ⟨by rw [List.length_map, List.length_map, hu, ht, beq_self_eq_true], rfl, rfl⟩
  · repeat' (first | done | fail)
    have em : (T.filter fun _ => true).map (fun _ => D.bl true) = ((T.filter fun _ => true).map fun _ => true).map D.bl := by rw [List.map_map]; rfl
    rw [em]
    with_reducible refine r_eq b_all ?_
    repeat' (first | done | fail)
    refine ⟨?_, take_same⟩
    simp
theorem lam1_in {t : List Int} {B : List (List Int)} (ht : TabOk t) (h : ∀ u ∈ B, u.length = t.length) (hB : B.length ≤ 1000) {S : Store} : F_lam_1 [tI t, tabsD B] S = some (.ok (.bl true), S) := by
  unfold F_lam_1 e_lam_1 lamF
  refine call_eq rfl ?_
  dsimp only [startE, List.map, List.replicate, List.length, List.cons_append, List.nil_append, Nat.reduceAdd, Nat.reduceSub]
  repeat' (first | done | fail)
  with_reducible refine r_eq (table_is ht) ?_
  repeat' (first | done | fail)
  with_reducible refine r_eq (long_eq h rfl hB) ?_
  repeat' (first | done | fail)
theorem wrong_at1_in {T : List (List Int)} {n : Nat} (h : TabsOk T n) {S : Store} : F_wrong_at_1 [tabsD T, .int 4, .fn lam_1] S = some (.ok (.lst []), S) := by
  have l4 := h.l4
  unfold F_wrong_at_1 b_wrong_at_1
  refine call_eq rfl ?_
  dsimp only [startE, List.map, List.replicate, List.length, List.cons_append, List.nil_append, Nat.reduceAdd, Nat.reduceSub]
  repeat' (first | done | fail)
  refine for_of (fun i ρ S' => ∃ x3 x4, ρ = [some (.tup (T.map tI)), some (.int 4), some (.fn lam_1), x3, x4] ∧ S' = S) ⟨_, _, rfl, rfl⟩ (fun _ _ _ _ => rfl) ?_ ?_
  · rintro i d ρ S' hd ⟨x3, x4, rfl, rfl⟩
    rw [numb_get, List.getElem?_map, Option.map_map] at hd
    obtain ⟨t, ht, rfl⟩ := Option.map_eq_some_iff.mp hd
    have hi : i < T.length := (List.getElem?_eq_some_iff.mp ht).1
    have hm := h.ok t (List.mem_of_getElem? ht)
    dsimp only [Function.comp]
    repeat' (first | done | fail)
    rw [show 0 + i = i from Nat.zero_add i]
    have ec : cutL (T.map tI) none (some (i : Int)) = (T.take i).map tI := by rw [cut_to _ (by omega), List.map_take, Int.toNat_natCast]
    rw [ec]
    with_reducible refine r_eq (lam1_in (B := T.take i) hm.1 (fun u hu => ((h.ok u (List.mem_of_mem_take hu)).2).trans hm.2.symm) (by rw [List.length_take]; omega)) ?_
    repeat' (first | done | fail)
  · rintro ρ S' ⟨x3, x4, rfl, rfl⟩
    repeat' (first | done | fail)
theorem check_tables_eq {T : List (List Int)} {n : Nat} (h : TabsOk T n) {S : Store} : F_check_tables [tabsD T] S = some (.ok .non, S) := by
  have l1 := h.l1
  unfold F_check_tables b_check_tables
  refine call_eq rfl ?_
  dsimp only [startE, List.map, List.replicate, List.length, List.cons_append, List.nil_append, Nat.reduceAdd, Nat.reduceSub]
  repeat' (first | done | fail)
  have e : F_wrong_from_one_1 [tabsD T, .int 4, .fn lam_1] S = some (.ok (.lst []), S) := by
    unfold F_wrong_from_one_1 b_wrong_from_one_1
    refine call_eq rfl ?_
    dsimp only [startE, List.map, List.replicate, List.length, List.cons_append, List.nil_append, Nat.reduceAdd, Nat.reduceSub]
    repeat' (first | done | fail)
    with_reducible refine r_eq (eqA_nilT (ds := T.map tI) (fun e => by rw [List.map_eq_nil_iff.mp e] at l1; simp at l1) eqok_tabs) ?_
    repeat' (first | done | fail)
    with_reducible refine r_eq (wrong_at1_in h) ?_
    repeat' (first | done | fail)
  with_reducible refine r_eq e ?_
  repeat' (first | done | fail)
  with_reducible refine r_eq neA_nil ?_
  repeat' (first | done | fail)
def pricesR (R : List (List Int)) (l : List Nat) : List Int := l.map fun k => (rowAt R k).getD (l.length - 1) 0
theorem rowsOf_ok {T : List (List Int)} {n m : Nat} {cl : List Int} (hT : TabsOk T n) (h : ClsOk T m cl) : (rowsOf T cl).length = m ∧ ∀ t ∈ rowsOf T cl, TabOk t ∧ t.length = n := by
  refine ⟨by unfold rowsOf; rw [List.length_map, h.len], fun t ht => ?_⟩
  unfold rowsOf at ht
  obtain ⟨c, hc, rfl⟩ := List.mem_map.mp ht
  have := h.ok c hc
  exact hT.ok _ (rowAt_mem (by omega))
end LW
set_option Elab.async false
set_option linter.all false
set_option maxRecDepth 100000
set_option maxHeartbeats 4000000
namespace LW
open PySem L2 Evl PySem.Spec PyProof.Rows PF
local macro_rules | `(tactic| trivial) => `(tactic| first
  | (with_reducible first | refine v0 ?_ | refine v1 ?_ | refine v2 ?_ | refine v3 ?_ | refine v4 ?_ | refine v5 ?_ | refine v6 ?_ | refine v7 ?_ | refine v8 ?_ | refine v9 ?_ | refine v10 ?_ | refine v11 ?_ | refine v12 ?_ | refine v13 ?_ | refine tn0 ?_ | refine tn1 ?_ | refine tn2 ?_ | refine tn3 ?_ | refine tn4 ?_ | refine tn5 ?_ | refine tn6 ?_ | refine tn7 ?_ | refine tn8 ?_ | refine tn9 ?_ | refine tn10 ?_ | refine tn11 ?_ | refine tn12 ?_ | refine tn13 ?_ | refine ss0 ?_ | refine ss1 ?_ | refine ss2 ?_ | refine ss3 ?_ | refine ss4 ?_ | refine ss5 ?_ | refine ss6 ?_ | refine ss7 ?_ | refine ss8 ?_ | refine ss9 ?_ | refine ss10 ?_ | refine ss11 ?_ | refine ss12 ?_ | refine ss13 ?_)
  | (with_reducible first | refine r_k ?_ | refine r_bin ?_ | refine r_cons ?_ | refine r_nil ?_ | refine r_call ?_ | refine r_blt ?_ | refine r_un ?_ | refine r_ok ?_ | refine s_seq ?_ | refine s_ret ?_ | refine s_if ?_ | refine s_expr ?_ | refine s_asg ?_ | refine s_par ?_ | refine s_nil ?_ | refine s_brk ?_ | refine s_ct ?_ | refine s_for ?_ | refine bool_t ?_ | refine bool_and ?_ | refine bool_or ?_ | refine bool_not ?_ | refine bool_yes ?_ | refine r_and ?_ | refine r_or ?_ | refine r_not ?_ | refine r_ife ?_ | refine r_chain ?_ | refine r_isi ?_ | refine r_lam ?_ | refine r_back ?_ | refine r_listR1 ?_ | refine r_callK ?_ | refine r_mt ?_ | refine r_alloc ?_ | refine r_sliceA ?_ | refine r_sliceL ?_ | refine r_no ?_ | refine r_part ?_ | refine r_scope ?_ | refine t_nil ?_ | refine t_cons ?_ | refine q_seq ?_ | refine q_range ?_ | refine q_range2 ?_ | refine q_rangeD ?_ | refine q_enumA ?_ | refine nx_nx ?_ | refine nx_ret ?_ | refine nx_exc ?_ | refine nx_brk ?_ | refine nx_ct ?_ | refine bl_bl ?_ | refine cs_not ?_ | refine cs_t ?_ | refine cs_f ?_ | refine r_bind ?_ | refine r_nox ?_ | refine t_sub ?_ | refine s_retL ?_ | refine o1_sub ?_ | refine o1_add ?_ | refine o1_lt ?_ | refine o1_le ?_ | refine o1_gt ?_ | refine o1_ge ?_ | refine o1_neg ?_ | refine o1_eq ?_ | refine o1_ne ?_ | refine b1_abs ?_ | refine b1_int ?_ | refine b1_min2 ?_ | refine b1_max2 ?_ | refine o1_eqA ?_ | refine o1_neA ?_ | refine o1_eqS ?_ | refine o1_isN ?_ | refine o1_notN ?_ | refine x_bl ?_ | refine x_int ?_ | refine x_str ?_ | refine x_non ?_ | refine x_nx ?_ | refine x_tup ?_ | refine x_lst ?_ | refine sl_tup ?_ | refine sl_lst ?_ | refine sl_fz ?_ | refine sL_lst ?_ | refine sL_fz ?_)
  | (with_reducible first | refine r_tup ?_ | refine r_lst ?_ | refine o1_addT ?_ | refine o1_addL ?_ | refine b1_len ?_ | refine b1_tuple ?_ | refine b1_list ?_ | refine o1_cat ?_ | refine m1_append ?_ | refine o_pow10_1 ?_ | refine o_pow10_2 ?_ | refine o_pow10_3 ?_ | refine o_pow10_4 ?_ | refine o_pow10_5 ?_ | refine o_pow10_6 ?_ | refine o_pow10_7 ?_ | refine o_pow10_8 ?_ | refine o_pow10_9 ?_ | refine o_pow10_10 ?_ | refine o_pow10_11 ?_ | refine o_pow10_12 ?_ | refine o_pow10_13 ?_ | refine o_pow10_14 ?_ | refine o_pow10_15 ?_ | refine o_pow10_16 ?_ | refine o_pow10_17 ?_ | refine o_pow10_18 ?_ | refine o_pow10_20 ?_ | refine o_pow10_30 ?_)
  | ((with_reducible refine o1_ix ?_); refine ⟨_, _, by first | rfl | assumption, by first | rfl | exact atI_zero, ?_⟩)
  | ((with_reducible refine o1_mul ?_ ?_); first | omega | decide | fail)
  | ((with_reducible refine o1_div ?_ ?_); first | omega | decide | fail)
  | ((with_reducible refine o1_mod ?_ ?_); first | omega | decide | fail)
  | ((with_reducible refine b1_divmod ?_ ?_); first | omega | decide | fail)
  | ((with_reducible refine t_tup ?_ ?_); rfl)
  | ((with_reducible refine r_callV ?_ ?_); rfl)
  | (with_reducible refine cs_dec (fun _ => ?_) (fun _ => ?_))
  | (with_reducible refine cs_beq (fun _ => ?_) (fun _ => ?_))
  | ((with_reducible refine cs_te ?_ ?_); rfl)
  | ((with_reducible refine cs_fe ?_ ?_); rfl)
  | ((with_reducible refine put0 (by assumption) ?_ fun _ => ?_); first | rfl | fail)
  | ((with_reducible refine put1 (by assumption) ?_ fun _ => ?_); first | rfl | fail)
  | ((with_reducible refine put2 (by assumption) ?_ fun _ => ?_); first | rfl | fail)
  | ((fail_if_success (with_reducible refine pst_id ?_)); first
    | exact take_same
    | (with_reducible refine fun (_ : Nat) (_ : Store) (_ : _ = _) (_ : _ = _) (_ : _ = _) => ?_)
    | ((fail_if_success (with_reducible refine And.intro ?_ ?_)); refine ⟨_, by first | rfl | assumption, ?_⟩)
    | ((fail_if_success (with_reducible refine And.intro ?_ ?_)); refine ⟨_, _, rfl, ?_⟩)
    | ((fail_if_success (with_reducible refine And.intro ?_ ?_)); refine ⟨_, _, by first | rfl | assumption, rfl, ?_⟩)
    | ((with_reducible refine And.intro ?_ ?_); first | exact rfl | omega | (simp only [List.length_map]; omega) | exact ⟨rfl, rfl⟩ | exact Nat.le_of_ble_eq_true rfl | fail))
  | ((with_reducible refine dip_go (by assumption) ?_ ?_); (first | omega | (simp only [List.length_map]; omega) | fail); intro _ _ _ _ _ _)
  | ((with_reducible refine one_go (0) (1) (by assumption) ?_ ?_ ?_); (exact ⟨Nat.zero_lt_succ _, Nat.le_of_ble_eq_true rfl⟩); (focus ((repeat (first | exact bnd_nil | refine bnd_cons (by omega) ?_)); (all_goals fail))); intro _ _ _ _ _ _))
local macro_rules | `(tactic| done) => `(tactic| first
  | (with_reducible first | refine v0 ?_ | refine v1 ?_ | refine v2 ?_ | refine v3 ?_ | refine v4 ?_ | refine v5 ?_ | refine v6 ?_ | refine v7 ?_ | refine v8 ?_ | refine v9 ?_ | refine v10 ?_ | refine v11 ?_ | refine v12 ?_ | refine v13 ?_ | refine tn0 ?_ | refine tn1 ?_ | refine tn2 ?_ | refine tn3 ?_ | refine tn4 ?_ | refine tn5 ?_ | refine tn6 ?_ | refine tn7 ?_ | refine tn8 ?_ | refine tn9 ?_ | refine tn10 ?_ | refine tn11 ?_ | refine tn12 ?_ | refine tn13 ?_ | refine ss0 ?_ | refine ss1 ?_ | refine ss2 ?_ | refine ss3 ?_ | refine ss4 ?_ | refine ss5 ?_ | refine ss6 ?_ | refine ss7 ?_ | refine ss8 ?_ | refine ss9 ?_ | refine ss10 ?_ | refine ss11 ?_ | refine ss12 ?_ | refine ss13 ?_)
  | (with_reducible first | refine r_k ?_ | refine r_bin ?_ | refine r_cons ?_ | refine r_nil ?_ | refine r_call ?_ | refine r_blt ?_ | refine r_un ?_ | refine r_ok ?_ | refine s_seq ?_ | refine s_ret ?_ | refine s_if ?_ | refine s_expr ?_ | refine s_asg ?_ | refine s_par ?_ | refine s_nil ?_ | refine s_brk ?_ | refine s_ct ?_ | refine s_for ?_ | refine bool_t ?_ | refine bool_and ?_ | refine bool_or ?_ | refine bool_not ?_ | refine bool_yes ?_ | refine r_and ?_ | refine r_or ?_ | refine r_not ?_ | refine r_ife ?_ | refine r_chain ?_ | refine r_isi ?_ | refine r_lam ?_ | refine r_back ?_ | refine r_listR1 ?_ | refine r_callK ?_ | refine r_mt ?_ | refine r_alloc ?_ | refine r_sliceA ?_ | refine r_sliceL ?_ | refine r_no ?_ | refine r_part ?_ | refine r_scope ?_ | refine t_nil ?_ | refine t_cons ?_ | refine q_seq ?_ | refine q_range ?_ | refine q_range2 ?_ | refine q_rangeD ?_ | refine q_enumA ?_ | refine nx_nx ?_ | refine nx_ret ?_ | refine nx_exc ?_ | refine nx_brk ?_ | refine nx_ct ?_ | refine bl_bl ?_ | refine cs_not ?_ | refine cs_t ?_ | refine cs_f ?_ | refine r_bind ?_ | refine r_nox ?_ | refine t_sub ?_ | refine s_retL ?_ | refine o1_sub ?_ | refine o1_add ?_ | refine o1_lt ?_ | refine o1_le ?_ | refine o1_gt ?_ | refine o1_ge ?_ | refine o1_neg ?_ | refine o1_eq ?_ | refine o1_ne ?_ | refine b1_abs ?_ | refine b1_int ?_ | refine b1_min2 ?_ | refine b1_max2 ?_ | refine o1_eqA ?_ | refine o1_neA ?_ | refine o1_eqS ?_ | refine o1_isN ?_ | refine o1_notN ?_ | refine x_bl ?_ | refine x_int ?_ | refine x_str ?_ | refine x_non ?_ | refine x_nx ?_ | refine x_tup ?_ | refine x_lst ?_ | refine sl_tup ?_ | refine sl_lst ?_ | refine sl_fz ?_ | refine sL_lst ?_ | refine sL_fz ?_)
  | (with_reducible first | refine r_tup ?_ | refine r_lst ?_ | refine o1_addT ?_ | refine o1_addL ?_ | refine b1_len ?_ | refine b1_tuple ?_ | refine b1_list ?_ | refine o1_cat ?_ | refine m1_append ?_ | refine o_pow10_1 ?_ | refine o_pow10_2 ?_ | refine o_pow10_3 ?_ | refine o_pow10_4 ?_ | refine o_pow10_5 ?_ | refine o_pow10_6 ?_ | refine o_pow10_7 ?_ | refine o_pow10_8 ?_ | refine o_pow10_9 ?_ | refine o_pow10_10 ?_ | refine o_pow10_11 ?_ | refine o_pow10_12 ?_ | refine o_pow10_13 ?_ | refine o_pow10_14 ?_ | refine o_pow10_15 ?_ | refine o_pow10_16 ?_ | refine o_pow10_17 ?_ | refine o_pow10_18 ?_ | refine o_pow10_20 ?_ | refine o_pow10_30 ?_)
  | ((with_reducible refine o1_ix ?_); refine ⟨_, _, by first | rfl | assumption, by first | rfl | exact atI_zero, ?_⟩)
  | ((with_reducible refine o1_mul ?_ ?_); first | omega | decide | fail)
  | ((with_reducible refine o1_div ?_ ?_); first | omega | decide | fail)
  | ((with_reducible refine o1_mod ?_ ?_); first | omega | decide | fail)
  | ((with_reducible refine b1_divmod ?_ ?_); first | omega | decide | fail)
  | ((with_reducible refine t_tup ?_ ?_); rfl)
  | ((with_reducible refine r_callV ?_ ?_); rfl)
  | (with_reducible refine cs_dec (fun _ => ?_) (fun _ => ?_))
  | (with_reducible refine cs_beq (fun _ => ?_) (fun _ => ?_))
  | ((with_reducible refine cs_te ?_ ?_); rfl)
  | ((with_reducible refine cs_fe ?_ ?_); rfl)
  | ((with_reducible refine put0 (by assumption) ?_ fun _ => ?_); first | rfl | fail)
  | ((with_reducible refine put1 (by assumption) ?_ fun _ => ?_); first | rfl | fail)
  | ((with_reducible refine put2 (by assumption) ?_ fun _ => ?_); first | rfl | fail)
  | ((fail_if_success (with_reducible refine pst_id ?_)); first
    | exact take_same
    | (with_reducible refine fun (_ : Nat) (_ : Store) (_ : _ = _) (_ : _ = _) (_ : _ = _) => ?_)
    | ((fail_if_success (with_reducible refine And.intro ?_ ?_)); refine ⟨_, by first | rfl | assumption, ?_⟩)
    | ((fail_if_success (with_reducible refine And.intro ?_ ?_)); refine ⟨_, _, rfl, ?_⟩)
    | ((fail_if_success (with_reducible refine And.intro ?_ ?_)); refine ⟨_, _, by first | rfl | assumption, rfl, ?_⟩)
    | ((with_reducible refine And.intro ?_ ?_); first | exact rfl | omega | (simp only [List.length_map]; omega) | exact ⟨rfl, rfl⟩ | exact Nat.le_of_ble_eq_true rfl | fail))
  | ((with_reducible refine dip_go (by assumption) ?_ ?_); (first | omega | (simp only [List.length_map]; omega) | fail); intro _ _ _ _ _ _)
  | ((with_reducible refine one_go (0) (1) (by assumption) ?_ ?_ ?_); (exact ⟨Nat.zero_lt_succ _, Nat.le_of_ble_eq_true rfl⟩); (focus ((repeat (first | exact bnd_nil | refine bnd_cons (by omega) ?_)); (all_goals fail))); intro _ _ _ _ _ _)
  | ((fail_if_success (with_reducible refine pst_id ?_)); first | (with_reducible rfl) | assumption | contradiction))

theorem check_classes_eq {T : List (List Int)} {m : Nat} {cl : List Int} (h : ClsOk T m cl) (hm : m ≤ 1000) {S : Store} : F_check_classes [tI cl, .int (m : Int), .int (T.length : Int)] S = some (.ok .non, S) := by
  have hl := h.len
  unfold F_check_classes b_check_classes
  refine call_eq rfl ?_
  dsimp only [startE, List.map, List.replicate, List.length, List.cons_append, List.nil_append, Nat.reduceAdd, Nat.reduceSub]
  repeat' (first | done | fail)
  have e : F_is_tuple_of [tI cl, .int (m : Int)] S = some (.ok (.bl true), S) := by
    unfold F_is_tuple_of b_is_tuple_of
    refine call_eq rfl ?_
    dsimp only [startE, List.map, List.replicate, List.length, List.cons_append, List.nil_append, Nat.reduceAdd, Nat.reduceSub]
    repeat' (first | done | fail)
    exact ⟨by rw [List.length_map, hl, beq_self_eq_true], take_same⟩
  with_reducible refine r_eq e ?_
  repeat' (first | done | fail)
  refine for_of (fun i ρ S' => ∃ x3 x4, ρ = [some (tI cl), some (.int (m : Int)), some (.int (T.length : Int)), x3, x4] ∧ S' = S) ⟨_, _, rfl, rfl⟩ (fun _ _ _ _ => rfl) ?_ ?_
  · rintro i d ρ S' hd ⟨x3, x4, rfl, rfl⟩
    rw [numb_get, List.getElem?_map, Option.map_map] at hd
    obtain ⟨c, hc, rfl⟩ := Option.map_eq_some_iff.mp hd
    have hm := h.ok c (List.mem_of_getElem? hc)
    dsimp only [Function.comp]
    repeat' (first | done | fail)
    with_reducible refine r_eq (num_in (by omega)) ?_
    repeat' (first | done | fail)
  · rintro ρ S' ⟨x3, x4, rfl, rfl⟩
    repeat' (first | done | fail)
theorem stayingR_eq {R : List (List Int)} {cs : List Int} {l : List Nat} (hR : R.length ≤ 1000) (hl : ∀ t ∈ R, l.length ≤ t.length) (h : ∀ k ∈ l, k < cs.length ∧ k < R.length) (hl2 : l.length ≤ 1000) {S : Store} :
    F_staying [.lst (R.map tI), tI cs, .lst (l.map nD)] S = some (.ok (.lst ((stepR R cs l).map nD)), S) := by
  unfold F_staying b_staying
  refine call_eq rfl ?_
  dsimp only [startE, List.map, List.replicate, List.length, List.cons_append, List.nil_append, Nat.reduceAdd, Nat.reduceSub]
  repeat' (first | done | fail)
  with_reducible refine r_comp ?_
  repeat' (first | done | fail)
  with_reducible refine comp_filter (so := .items (l.map nD)) l nD nD (okR R cs l.length) rfl (fun _ => rfl) (by show _ ≤ 1000000; omega) ?_ ?_
  · intro k hk acc
    have hkc := h k hk
    have hlp : 0 < l.length := List.length_pos_of_mem hk
    have hrl := hl _ (rowAt_mem hkc.2)
    dsimp only [wipeE, List.set, nD]
    repeat' (first | done | fail)
    with_reducible refine ix_int (ns := cs) rfl (by omega) ?_
    repeat' (first | done | fail)
    with_reducible refine ix_tab (R := R) rfl hkc.2 ?_
    repeat' (first | done | fail)
    rw [List.length_map]
    with_reducible refine ix_int (ns := rowAt R k) rfl (by omega) ?_
    rw [Int.toNat_natCast, show ((l.length : Int) - 1).toNat = l.length - 1 by omega]
    repeat' (first | done | fail)
    intro _
    repeat' (first | done | fail)
    rfl
  · repeat' (first | done | fail)
    exact ⟨pures_nD, rfl, take_same⟩
theorem left_ofR_eq {R : List (List Int)} {cs : List Int} (hR : cs.length ≤ R.length ∧ R.length ≤ 1000) (hl : ∀ t ∈ R, cs.length ≤ t.length) {S : Store} :
    F_left_of [.lst (R.map tI), tI cs] S = some (.ok (.lst ((leftR R cs).map nD)), S) := by
  have stay : ∀ (l : List Nat), List.Sublist l (List.range cs.length) → ∀ S, F_staying [.lst (R.map tI), tI cs, .lst (l.map nD)] S = some (.ok (.lst ((stepR R cs l).map nD)), S) := fun l hs S => by
    have hlen := hs.length_le
    rw [List.length_range] at hlen
    exact stayingR_eq hR.2 (fun t ht => by have := hl t ht; omega) (fun k hk => by have := List.mem_range.mp (hs.subset hk); omega) (by omega)
  unfold F_left_of b_left_of
  refine call_eq rfl ?_
  dsimp only [startE, List.map, List.replicate, List.length, List.cons_append, List.nil_append, Nat.reduceAdd, Nat.reduceSub]
  repeat' (first | done | fail)
  rw [List.length_map, Int.toNat_natCast, ranged_nD]
  repeat' (first | done | fail)
  with_reducible refine r_eq (stay _ (List.Sublist.refl _) _) ?_
  repeat' (first | done | fail)
  refine while_inv (fun f ρ S' => ∃ l, ρ = [some (.lst (R.map tI)), some (tI cs), some (.lst (l.map nD)), some (.lst ((stepR R cs l).map nD))] ∧ List.Sublist l (List.range cs.length) ∧ l.length ≤ f ∧ turnsR R cs f l = leftR R cs ∧ S' = S) ?_ _ cs.length _ _ (show cs.length < 100000 by omega) ⟨_, rfl, List.Sublist.refl _, by simp, rfl, rfl⟩
  rintro f ρ S' ⟨l, rfl, hs, hf, he, rfl⟩
  have hlen := hs.length_le
  rw [List.length_range] at hlen
  repeat' (first | done | fail)
  refine ⟨fun hb => ?_, fun hb => ?_⟩
  · have hb : (stepR R cs l).length < l.length := by simpa using hb
    match f, hf, he with
    | 0, hf, he => omega
    | f + 1, hf, he =>
    have hsub : List.Sublist (stepR R cs l) (List.range cs.length) := List.Sublist.trans List.filter_sublist hs
    refine ⟨f, rfl, ?_⟩
    repeat' (first | done | fail)
    with_reducible refine r_eq (stay _ hsub _) ?_
    repeat' (first | done | fail)
    rw [← he]
    refine ⟨?_, rfl⟩
    conv => rhs; unfold turnsR
    rw [if_pos hb]
  · have hb : ¬ (stepR R cs l).length < l.length := by simpa using hb
    have e : l = leftR R cs := by
      rw [← he]
      cases f with
      | zero => rfl
      | succ f => unfold turnsR; rw [if_neg hb]
    rw [← e]
    repeat' (first | done | fail)
    exact ⟨pures_nD, rfl, take_same⟩
end LW
set_option Elab.async false
set_option linter.all false
set_option maxRecDepth 100000
set_option maxHeartbeats 4000000
namespace LW
open PySem L2 Evl PySem.Spec PyProof.Rows PF
local macro_rules | `(tactic| trivial) => `(tactic| first
  | (with_reducible first | refine v0 ?_ | refine v1 ?_ | refine v2 ?_ | refine v3 ?_ | refine v4 ?_ | refine v5 ?_ | refine v6 ?_ | refine v7 ?_ | refine v8 ?_ | refine v9 ?_ | refine v10 ?_ | refine v11 ?_ | refine v12 ?_ | refine v13 ?_ | refine tn0 ?_ | refine tn1 ?_ | refine tn2 ?_ | refine tn3 ?_ | refine tn4 ?_ | refine tn5 ?_ | refine tn6 ?_ | refine tn7 ?_ | refine tn8 ?_ | refine tn9 ?_ | refine tn10 ?_ | refine tn11 ?_ | refine tn12 ?_ | refine tn13 ?_ | refine ss0 ?_ | refine ss1 ?_ | refine ss2 ?_ | refine ss3 ?_ | refine ss4 ?_ | refine ss5 ?_ | refine ss6 ?_ | refine ss7 ?_ | refine ss8 ?_ | refine ss9 ?_ | refine ss10 ?_ | refine ss11 ?_ | refine ss12 ?_ | refine ss13 ?_)
  | (with_reducible first | refine r_k ?_ | refine r_bin ?_ | refine r_cons ?_ | refine r_nil ?_ | refine r_call ?_ | refine r_blt ?_ | refine r_un ?_ | refine r_ok ?_ | refine s_seq ?_ | refine s_ret ?_ | refine s_if ?_ | refine s_expr ?_ | refine s_asg ?_ | refine s_par ?_ | refine s_nil ?_ | refine s_brk ?_ | refine s_ct ?_ | refine s_for ?_ | refine bool_t ?_ | refine bool_and ?_ | refine bool_or ?_ | refine bool_not ?_ | refine bool_yes ?_ | refine r_and ?_ | refine r_or ?_ | refine r_not ?_ | refine r_ife ?_ | refine r_chain ?_ | refine r_isi ?_ | refine r_lam ?_ | refine r_back ?_ | refine r_listR1 ?_ | refine r_callK ?_ | refine r_mt ?_ | refine r_alloc ?_ | refine r_sliceA ?_ | refine r_sliceL ?_ | refine r_no ?_ | refine r_part ?_ | refine r_scope ?_ | refine t_nil ?_ | refine t_cons ?_ | refine q_seq ?_ | refine q_range ?_ | refine q_range2 ?_ | refine q_rangeD ?_ | refine q_enumA ?_ | refine nx_nx ?_ | refine nx_ret ?_ | refine nx_exc ?_ | refine nx_brk ?_ | refine nx_ct ?_ | refine bl_bl ?_ | refine cs_not ?_ | refine cs_t ?_ | refine cs_f ?_ | refine r_bind ?_ | refine r_nox ?_ | refine t_sub ?_ | refine s_retL ?_ | refine o1_sub ?_ | refine o1_add ?_ | refine o1_lt ?_ | refine o1_le ?_ | refine o1_gt ?_ | refine o1_ge ?_ | refine o1_neg ?_ | refine o1_eq ?_ | refine o1_ne ?_ | refine b1_abs ?_ | refine b1_int ?_ | refine b1_min2 ?_ | refine b1_max2 ?_ | refine o1_eqA ?_ | refine o1_neA ?_ | refine o1_eqS ?_ | refine o1_isN ?_ | refine o1_notN ?_ | refine x_bl ?_ | refine x_int ?_ | refine x_str ?_ | refine x_non ?_ | refine x_nx ?_ | refine x_tup ?_ | refine x_lst ?_ | refine sl_tup ?_ | refine sl_lst ?_ | refine sl_fz ?_ | refine sL_lst ?_ | refine sL_fz ?_)
  | (with_reducible first | refine r_tup ?_ | refine r_lst ?_ | refine o1_addT ?_ | refine o1_addL ?_ | refine b1_len ?_ | refine b1_tuple ?_ | refine b1_list ?_ | refine o1_cat ?_ | refine m1_append ?_ | refine o_pow10_1 ?_ | refine o_pow10_2 ?_ | refine o_pow10_3 ?_ | refine o_pow10_4 ?_ | refine o_pow10_5 ?_ | refine o_pow10_6 ?_ | refine o_pow10_7 ?_ | refine o_pow10_8 ?_ | refine o_pow10_9 ?_ | refine o_pow10_10 ?_ | refine o_pow10_11 ?_ | refine o_pow10_12 ?_ | refine o_pow10_13 ?_ | refine o_pow10_14 ?_ | refine o_pow10_15 ?_ | refine o_pow10_16 ?_ | refine o_pow10_17 ?_ | refine o_pow10_18 ?_ | refine o_pow10_20 ?_ | refine o_pow10_30 ?_)
  | ((with_reducible refine o1_ix ?_); refine ⟨_, _, by first | rfl | assumption, by first | rfl | exact atI_zero, ?_⟩)
  | ((with_reducible refine o1_mul ?_ ?_); first | omega | decide | fail)
  | ((with_reducible refine o1_div ?_ ?_); first | omega | decide | fail)
  | ((with_reducible refine o1_mod ?_ ?_); first | omega | decide | fail)
  | ((with_reducible refine b1_divmod ?_ ?_); first | omega | decide | fail)
  | ((with_reducible refine t_tup ?_ ?_); rfl)
  | ((with_reducible refine r_callV ?_ ?_); rfl)
  | (with_reducible refine cs_dec (fun _ => ?_) (fun _ => ?_))
  | (with_reducible refine cs_beq (fun _ => ?_) (fun _ => ?_))
  | ((with_reducible refine cs_te ?_ ?_); rfl)
  | ((with_reducible refine cs_fe ?_ ?_); rfl)
  | ((with_reducible refine put0 (by assumption) ?_ fun _ => ?_); first | rfl | fail)
  | ((with_reducible refine put1 (by assumption) ?_ fun _ => ?_); first | rfl | fail)
  | ((with_reducible refine put2 (by assumption) ?_ fun _ => ?_); first | rfl | fail)
  | ((fail_if_success (with_reducible refine pst_id ?_)); first
    | exact take_same
    | (with_reducible refine fun (_ : Nat) (_ : Store) (_ : _ = _) (_ : _ = _) (_ : _ = _) => ?_)
    | ((fail_if_success (with_reducible refine And.intro ?_ ?_)); refine ⟨_, by first | rfl | assumption, ?_⟩)
    | ((fail_if_success (with_reducible refine And.intro ?_ ?_)); refine ⟨_, _, rfl, ?_⟩)
    | ((fail_if_success (with_reducible refine And.intro ?_ ?_)); refine ⟨_, _, by first | rfl | assumption, rfl, ?_⟩)
    | ((with_reducible refine And.intro ?_ ?_); first | exact rfl | omega | (simp only [List.length_map]; omega) | exact ⟨rfl, rfl⟩ | exact Nat.le_of_ble_eq_true rfl | fail))
  | ((with_reducible refine dip_go (by assumption) ?_ ?_); (first | omega | (simp only [List.length_map]; omega) | fail); intro _ _ _ _ _ _)
  | ((with_reducible refine one_go (0) (1) (by assumption) ?_ ?_ ?_); (exact ⟨Nat.zero_lt_succ _, Nat.le_of_ble_eq_true rfl⟩); (focus ((repeat (first | exact bnd_nil | refine bnd_cons (by omega) ?_)); (all_goals fail))); intro _ _ _ _ _ _))
local macro_rules | `(tactic| done) => `(tactic| first
  | (with_reducible first | refine v0 ?_ | refine v1 ?_ | refine v2 ?_ | refine v3 ?_ | refine v4 ?_ | refine v5 ?_ | refine v6 ?_ | refine v7 ?_ | refine v8 ?_ | refine v9 ?_ | refine v10 ?_ | refine v11 ?_ | refine v12 ?_ | refine v13 ?_ | refine tn0 ?_ | refine tn1 ?_ | refine tn2 ?_ | refine tn3 ?_ | refine tn4 ?_ | refine tn5 ?_ | refine tn6 ?_ | refine tn7 ?_ | refine tn8 ?_ | refine tn9 ?_ | refine tn10 ?_ | refine tn11 ?_ | refine tn12 ?_ | refine tn13 ?_ | refine ss0 ?_ | refine ss1 ?_ | refine ss2 ?_ | refine ss3 ?_ | refine ss4 ?_ | refine ss5 ?_ | refine ss6 ?_ | refine ss7 ?_ | refine ss8 ?_ | refine ss9 ?_ | refine ss10 ?_ | refine ss11 ?_ | refine ss12 ?_ | refine ss13 ?_)
  | (with_reducible first | refine r_k ?_ | refine r_bin ?_ | refine r_cons ?_ | refine r_nil ?_ | refine r_call ?_ | refine r_blt ?_ | refine r_un ?_ | refine r_ok ?_ | refine s_seq ?_ | refine s_ret ?_ | refine s_if ?_ | refine s_expr ?_ | refine s_asg ?_ | refine s_par ?_ | refine s_nil ?_ | refine s_brk ?_ | refine s_ct ?_ | refine s_for ?_ | refine bool_t ?_ | refine bool_and ?_ | refine bool_or ?_ | refine bool_not ?_ | refine bool_yes ?_ | refine r_and ?_ | refine r_or ?_ | refine r_not ?_ | refine r_ife ?_ | refine r_chain ?_ | refine r_isi ?_ | refine r_lam ?_ | refine r_back ?_ | refine r_listR1 ?_ | refine r_callK ?_ | refine r_mt ?_ | refine r_alloc ?_ | refine r_sliceA ?_ | refine r_sliceL ?_ | refine r_no ?_ | refine r_part ?_ | refine r_scope ?_ | refine t_nil ?_ | refine t_cons ?_ | refine q_seq ?_ | refine q_range ?_ | refine q_range2 ?_ | refine q_rangeD ?_ | refine q_enumA ?_ | refine nx_nx ?_ | refine nx_ret ?_ | refine nx_exc ?_ | refine nx_brk ?_ | refine nx_ct ?_ | refine bl_bl ?_ | refine cs_not ?_ | refine cs_t ?_ | refine cs_f ?_ | refine r_bind ?_ | refine r_nox ?_ | refine t_sub ?_ | refine s_retL ?_ | refine o1_sub ?_ | refine o1_add ?_ | refine o1_lt ?_ | refine o1_le ?_ | refine o1_gt ?_ | refine o1_ge ?_ | refine o1_neg ?_ | refine o1_eq ?_ | refine o1_ne ?_ | refine b1_abs ?_ | refine b1_int ?_ | refine b1_min2 ?_ | refine b1_max2 ?_ | refine o1_eqA ?_ | refine o1_neA ?_ | refine o1_eqS ?_ | refine o1_isN ?_ | refine o1_notN ?_ | refine x_bl ?_ | refine x_int ?_ | refine x_str ?_ | refine x_non ?_ | refine x_nx ?_ | refine x_tup ?_ | refine x_lst ?_ | refine sl_tup ?_ | refine sl_lst ?_ | refine sl_fz ?_ | refine sL_lst ?_ | refine sL_fz ?_)
  | (with_reducible first | refine r_tup ?_ | refine r_lst ?_ | refine o1_addT ?_ | refine o1_addL ?_ | refine b1_len ?_ | refine b1_tuple ?_ | refine b1_list ?_ | refine o1_cat ?_ | refine m1_append ?_ | refine o_pow10_1 ?_ | refine o_pow10_2 ?_ | refine o_pow10_3 ?_ | refine o_pow10_4 ?_ | refine o_pow10_5 ?_ | refine o_pow10_6 ?_ | refine o_pow10_7 ?_ | refine o_pow10_8 ?_ | refine o_pow10_9 ?_ | refine o_pow10_10 ?_ | refine o_pow10_11 ?_ | refine o_pow10_12 ?_ | refine o_pow10_13 ?_ | refine o_pow10_14 ?_ | refine o_pow10_15 ?_ | refine o_pow10_16 ?_ | refine o_pow10_17 ?_ | refine o_pow10_18 ?_ | refine o_pow10_20 ?_ | refine o_pow10_30 ?_)
  | ((with_reducible refine o1_ix ?_); refine ⟨_, _, by first | rfl | assumption, by first | rfl | exact atI_zero, ?_⟩)
  | ((with_reducible refine o1_mul ?_ ?_); first | omega | decide | fail)
  | ((with_reducible refine o1_div ?_ ?_); first | omega | decide | fail)
  | ((with_reducible refine o1_mod ?_ ?_); first | omega | decide | fail)
  | ((with_reducible refine b1_divmod ?_ ?_); first | omega | decide | fail)
  | ((with_reducible refine t_tup ?_ ?_); rfl)
  | ((with_reducible refine r_callV ?_ ?_); rfl)
  | (with_reducible refine cs_dec (fun _ => ?_) (fun _ => ?_))
  | (with_reducible refine cs_beq (fun _ => ?_) (fun _ => ?_))
  | ((with_reducible refine cs_te ?_ ?_); rfl)
  | ((with_reducible refine cs_fe ?_ ?_); rfl)
  | ((with_reducible refine put0 (by assumption) ?_ fun _ => ?_); first | rfl | fail)
  | ((with_reducible refine put1 (by assumption) ?_ fun _ => ?_); first | rfl | fail)
  | ((with_reducible refine put2 (by assumption) ?_ fun _ => ?_); first | rfl | fail)
  | ((fail_if_success (with_reducible refine pst_id ?_)); first
    | exact take_same
    | (with_reducible refine fun (_ : Nat) (_ : Store) (_ : _ = _) (_ : _ = _) (_ : _ = _) => ?_)
    | ((fail_if_success (with_reducible refine And.intro ?_ ?_)); refine ⟨_, by first | rfl | assumption, ?_⟩)
    | ((fail_if_success (with_reducible refine And.intro ?_ ?_)); refine ⟨_, _, rfl, ?_⟩)
    | ((fail_if_success (with_reducible refine And.intro ?_ ?_)); refine ⟨_, _, by first | rfl | assumption, rfl, ?_⟩)
    | ((with_reducible refine And.intro ?_ ?_); first | exact rfl | omega | (simp only [List.length_map]; omega) | exact ⟨rfl, rfl⟩ | exact Nat.le_of_ble_eq_true rfl | fail))
  | ((with_reducible refine dip_go (by assumption) ?_ ?_); (first | omega | (simp only [List.length_map]; omega) | fail); intro _ _ _ _ _ _)
  | ((with_reducible refine one_go (0) (1) (by assumption) ?_ ?_ ?_); (exact ⟨Nat.zero_lt_succ _, Nat.le_of_ble_eq_true rfl⟩); (focus ((repeat (first | exact bnd_nil | refine bnd_cons (by omega) ?_)); (all_goals fail))); intro _ _ _ _ _ _)
  | ((fail_if_success (with_reducible refine pst_id ?_)); first | (with_reducible rfl) | assumption | contradiction))

theorem share_by_eq {T : List (List Int)} {n : Nat} {cs cl : List Int} (hT : TabsOk T n) (hc : CeilOk n cs) (h : ClsOk T cs.length cl) (hn : n ≤ 24) {S : Store} :
    F_share_by [tabsD T, tI cs, tI cl] S = some (.ok (.tup [.tup ((leftR (rowsOf T cl) cs).map nD), tI (pricesR (rowsOf T cl) (leftR (rowsOf T cl) cs))]), S) := by
  have hle := hc.le
  have hll := leftR_len (rowsOf T cl) cs
  obtain ⟨hr1, hr2⟩ := rowsOf_ok hT h
  have hcl := h.len
  have l1 := hT.l1
  have l4 := hT.l4
  have h0 : rowAt T 0 ∈ T := rowAt_mem (by omega)
  unfold F_share_by b_share_by
  refine call_eq rfl ?_
  dsimp only [startE, List.map, List.replicate, List.length, List.cons_append, List.nil_append, Nat.reduceAdd, Nat.reduceSub]
  repeat' (first | done | fail)
  with_reducible refine r_eq (check_tables_eq hT) ?_
  repeat' (first | done | fail)
  with_reducible refine ix_tab0 (R := T) rfl (by omega) ?_
  repeat' (first | done | fail)
  rw [List.length_map, (hT.ok _ h0).2]
  with_reducible refine r_eq (check_ceilings_is hc) ?_
  repeat' (first | done | fail)
  rw [List.length_map, List.length_map]
  with_reducible refine r_eq (check_classes_eq h (by omega)) ?_
  repeat' (first | done | fail)
  with_reducible refine r_comp ?_
  repeat' (first | done | fail)
  with_reducible refine comp_filter (so := .items (cl.map D.int)) cl D.int (fun c => tI (rowAt T c.toNat)) (fun _ => true) rfl (fun _ => rfl) (by show _ ≤ 1000000; omega) ?_ ?_
  · intro c hcm acc
    have hcb := h.ok c hcm
    obtain ⟨k, rfl⟩ : ∃ k : Nat, c = (k : Int) := ⟨c.toNat, by omega⟩
    dsimp only [wipeE, List.set]
    repeat' (first | done | fail)
    intro _
    repeat' (first | done | fail)
    with_reducible refine ix_tab (R := T) rfl (by omega) ?_
    exact ⟨rfl, rfl, pures_mapI⟩
  have ef : cl.filter (fun _ => true) = cl := List.filter_eq_self.mpr fun _ _ => rfl
  rw [ef]
  have em : cl.map (fun c => tI (rowAt T c.toNat)) = (rowsOf T cl).map tI := by unfold rowsOf; rw [List.map_map]; rfl
  rw [em]
  clear em ef
  generalize rowsOf T cl = R at *
  repeat' (first | done | fail)
  with_reducible refine r_eq (left_ofR_eq (by omega) fun t ht => by have := (hr2 t ht).2; omega) ?_
  repeat' (first | done | fail)
  with_reducible refine r_comp ?_
  repeat' (first | done | fail)
  with_reducible refine comp_filter (so := .items ((leftR R cs).map nD)) (leftR R cs) nD (fun k => .int ((rowAt R k).getD ((leftR R cs).length - 1) 0)) (fun _ => true) rfl (fun _ => rfl) (by show _ ≤ 1000000; omega) ?_ ?_
  · intro k hk acc
    have hkl := leftR_lt hk
    have hpos := List.length_pos_of_mem hk
    have hrk := hr2 _ (rowAt_mem (T := R) (k := k) (by omega))
    dsimp only [wipeE, List.set, nD]
    repeat' (first | done | fail)
    intro _
    repeat' (first | done | fail)
    with_reducible refine ix_tab (R := R) rfl (by omega) ?_
    repeat' (first | done | fail)
    rw [List.length_map]
    with_reducible refine ix_int (ns := rowAt R k) rfl (by omega) ?_
    rw [show (((leftR R cs).length : Int) - 1).toNat = (leftR R cs).length - 1 by omega]
    exact ⟨rfl, rfl, rfl⟩
  have ef : (leftR R cs).filter (fun _ => true) = leftR R cs := List.filter_eq_self.mpr fun _ _ => rfl
  rw [ef]
  have em : (leftR R cs).map (fun k => D.int ((rowAt R k).getD ((leftR R cs).length - 1) 0)) = (pricesR R (leftR R cs)).map D.int := by unfold pricesR; rw [List.map_map]; rfl
  rw [em]
  repeat' (first | done | fail)
  refine ⟨?_, rfl, take_same⟩
  rw [D.pures, D.pure, pures_nD, D.pures, D.pure, pures_mapI]; rfl
end LW
set_option Elab.async false
set_option linter.all false
set_option maxRecDepth 100000
set_option maxHeartbeats 4000000
namespace LW
open PySem L2 Evl PySem.Spec PyProof.Rows PF
local macro_rules | `(tactic| trivial) => `(tactic| first
  | (with_reducible first | refine v0 ?_ | refine v1 ?_ | refine v2 ?_ | refine v3 ?_ | refine v4 ?_ | refine v5 ?_ | refine v6 ?_ | refine v7 ?_ | refine v8 ?_ | refine v9 ?_ | refine v10 ?_ | refine v11 ?_ | refine v12 ?_ | refine v13 ?_ | refine tn0 ?_ | refine tn1 ?_ | refine tn2 ?_ | refine tn3 ?_ | refine tn4 ?_ | refine tn5 ?_ | refine tn6 ?_ | refine tn7 ?_ | refine tn8 ?_ | refine tn9 ?_ | refine tn10 ?_ | refine tn11 ?_ | refine tn12 ?_ | refine tn13 ?_ | refine ss0 ?_ | refine ss1 ?_ | refine ss2 ?_ | refine ss3 ?_ | refine ss4 ?_ | refine ss5 ?_ | refine ss6 ?_ | refine ss7 ?_ | refine ss8 ?_ | refine ss9 ?_ | refine ss10 ?_ | refine ss11 ?_ | refine ss12 ?_ | refine ss13 ?_)
  | (with_reducible first | refine r_k ?_ | refine r_bin ?_ | refine r_cons ?_ | refine r_nil ?_ | refine r_call ?_ | refine r_blt ?_ | refine r_un ?_ | refine r_ok ?_ | refine s_seq ?_ | refine s_ret ?_ | refine s_if ?_ | refine s_expr ?_ | refine s_asg ?_ | refine s_par ?_ | refine s_nil ?_ | refine s_brk ?_ | refine s_ct ?_ | refine s_for ?_ | refine bool_t ?_ | refine bool_and ?_ | refine bool_or ?_ | refine bool_not ?_ | refine bool_yes ?_ | refine r_and ?_ | refine r_or ?_ | refine r_not ?_ | refine r_ife ?_ | refine r_chain ?_ | refine r_isi ?_ | refine r_lam ?_ | refine r_back ?_ | refine r_listR1 ?_ | refine r_callK ?_ | refine r_mt ?_ | refine r_alloc ?_ | refine r_sliceA ?_ | refine r_sliceL ?_ | refine r_no ?_ | refine r_part ?_ | refine r_scope ?_ | refine t_nil ?_ | refine t_cons ?_ | refine q_seq ?_ | refine q_range ?_ | refine q_range2 ?_ | refine q_rangeD ?_ | refine q_enumA ?_ | refine nx_nx ?_ | refine nx_ret ?_ | refine nx_exc ?_ | refine nx_brk ?_ | refine nx_ct ?_ | refine bl_bl ?_ | refine cs_not ?_ | refine cs_t ?_ | refine cs_f ?_ | refine r_bind ?_ | refine r_nox ?_ | refine t_sub ?_ | refine s_retL ?_ | refine o1_sub ?_ | refine o1_add ?_ | refine o1_lt ?_ | refine o1_le ?_ | refine o1_gt ?_ | refine o1_ge ?_ | refine o1_neg ?_ | refine o1_eq ?_ | refine o1_ne ?_ | refine b1_abs ?_ | refine b1_int ?_ | refine b1_min2 ?_ | refine b1_max2 ?_ | refine o1_eqA ?_ | refine o1_neA ?_ | refine o1_eqS ?_ | refine o1_isN ?_ | refine o1_notN ?_ | refine x_bl ?_ | refine x_int ?_ | refine x_str ?_ | refine x_non ?_ | refine x_nx ?_ | refine x_tup ?_ | refine x_lst ?_ | refine sl_tup ?_ | refine sl_lst ?_ | refine sl_fz ?_ | refine sL_lst ?_ | refine sL_fz ?_)
  | (with_reducible first | refine r_tup ?_ | refine r_lst ?_ | refine o1_addT ?_ | refine o1_addL ?_ | refine b1_len ?_ | refine b1_tuple ?_ | refine b1_list ?_ | refine o1_cat ?_ | refine m1_append ?_ | refine o_pow10_1 ?_ | refine o_pow10_2 ?_ | refine o_pow10_3 ?_ | refine o_pow10_4 ?_ | refine o_pow10_5 ?_ | refine o_pow10_6 ?_ | refine o_pow10_7 ?_ | refine o_pow10_8 ?_ | refine o_pow10_9 ?_ | refine o_pow10_10 ?_ | refine o_pow10_11 ?_ | refine o_pow10_12 ?_ | refine o_pow10_13 ?_ | refine o_pow10_14 ?_ | refine o_pow10_15 ?_ | refine o_pow10_16 ?_ | refine o_pow10_17 ?_ | refine o_pow10_18 ?_ | refine o_pow10_20 ?_ | refine o_pow10_30 ?_)
  | ((with_reducible refine o1_ix ?_); refine ⟨_, _, by first | rfl | assumption, by first | rfl | exact atI_zero, ?_⟩)
  | ((with_reducible refine o1_mul ?_ ?_); first | omega | decide | fail)
  | ((with_reducible refine o1_div ?_ ?_); first | omega | decide | fail)
  | ((with_reducible refine o1_mod ?_ ?_); first | omega | decide | fail)
  | ((with_reducible refine b1_divmod ?_ ?_); first | omega | decide | fail)
  | ((with_reducible refine t_tup ?_ ?_); rfl)
  | ((with_reducible refine r_callV ?_ ?_); rfl)
  | (with_reducible refine cs_dec (fun _ => ?_) (fun _ => ?_))
  | (with_reducible refine cs_beq (fun _ => ?_) (fun _ => ?_))
  | ((with_reducible refine cs_te ?_ ?_); rfl)
  | ((with_reducible refine cs_fe ?_ ?_); rfl)
  | ((with_reducible refine put0 (by assumption) ?_ fun _ => ?_); first | rfl | fail)
  | ((with_reducible refine put1 (by assumption) ?_ fun _ => ?_); first | rfl | fail)
  | ((with_reducible refine put2 (by assumption) ?_ fun _ => ?_); first | rfl | fail)
  | ((fail_if_success (with_reducible refine pst_id ?_)); first
    | exact take_same
    | (with_reducible refine fun (_ : Nat) (_ : Store) (_ : _ = _) (_ : _ = _) (_ : _ = _) => ?_)
    | ((fail_if_success (with_reducible refine And.intro ?_ ?_)); refine ⟨_, by first | rfl | assumption, ?_⟩)
    | ((fail_if_success (with_reducible refine And.intro ?_ ?_)); refine ⟨_, _, rfl, ?_⟩)
    | ((fail_if_success (with_reducible refine And.intro ?_ ?_)); refine ⟨_, _, by first | rfl | assumption, rfl, ?_⟩)
    | ((with_reducible refine And.intro ?_ ?_); first | exact rfl | omega | (simp only [List.length_map]; omega) | exact ⟨rfl, rfl⟩ | exact Nat.le_of_ble_eq_true rfl | fail))
  | ((with_reducible refine dip_go (by assumption) ?_ ?_); (first | omega | (simp only [List.length_map]; omega) | fail); intro _ _ _ _ _ _)
  | ((with_reducible refine one_go (0) (1) (by assumption) ?_ ?_ ?_); (exact ⟨Nat.zero_lt_succ _, Nat.le_of_ble_eq_true rfl⟩); (focus ((repeat (first | exact bnd_nil | refine bnd_cons (by omega) ?_)); (all_goals fail))); intro _ _ _ _ _ _))
local macro_rules | `(tactic| done) => `(tactic| first
  | (with_reducible first | refine v0 ?_ | refine v1 ?_ | refine v2 ?_ | refine v3 ?_ | refine v4 ?_ | refine v5 ?_ | refine v6 ?_ | refine v7 ?_ | refine v8 ?_ | refine v9 ?_ | refine v10 ?_ | refine v11 ?_ | refine v12 ?_ | refine v13 ?_ | refine tn0 ?_ | refine tn1 ?_ | refine tn2 ?_ | refine tn3 ?_ | refine tn4 ?_ | refine tn5 ?_ | refine tn6 ?_ | refine tn7 ?_ | refine tn8 ?_ | refine tn9 ?_ | refine tn10 ?_ | refine tn11 ?_ | refine tn12 ?_ | refine tn13 ?_ | refine ss0 ?_ | refine ss1 ?_ | refine ss2 ?_ | refine ss3 ?_ | refine ss4 ?_ | refine ss5 ?_ | refine ss6 ?_ | refine ss7 ?_ | refine ss8 ?_ | refine ss9 ?_ | refine ss10 ?_ | refine ss11 ?_ | refine ss12 ?_ | refine ss13 ?_)
  | (with_reducible first | refine r_k ?_ | refine r_bin ?_ | refine r_cons ?_ | refine r_nil ?_ | refine r_call ?_ | refine r_blt ?_ | refine r_un ?_ | refine r_ok ?_ | refine s_seq ?_ | refine s_ret ?_ | refine s_if ?_ | refine s_expr ?_ | refine s_asg ?_ | refine s_par ?_ | refine s_nil ?_ | refine s_brk ?_ | refine s_ct ?_ | refine s_for ?_ | refine bool_t ?_ | refine bool_and ?_ | refine bool_or ?_ | refine bool_not ?_ | refine bool_yes ?_ | refine r_and ?_ | refine r_or ?_ | refine r_not ?_ | refine r_ife ?_ | refine r_chain ?_ | refine r_isi ?_ | refine r_lam ?_ | refine r_back ?_ | refine r_listR1 ?_ | refine r_callK ?_ | refine r_mt ?_ | refine r_alloc ?_ | refine r_sliceA ?_ | refine r_sliceL ?_ | refine r_no ?_ | refine r_part ?_ | refine r_scope ?_ | refine t_nil ?_ | refine t_cons ?_ | refine q_seq ?_ | refine q_range ?_ | refine q_range2 ?_ | refine q_rangeD ?_ | refine q_enumA ?_ | refine nx_nx ?_ | refine nx_ret ?_ | refine nx_exc ?_ | refine nx_brk ?_ | refine nx_ct ?_ | refine bl_bl ?_ | refine cs_not ?_ | refine cs_t ?_ | refine cs_f ?_ | refine r_bind ?_ | refine r_nox ?_ | refine t_sub ?_ | refine s_retL ?_ | refine o1_sub ?_ | refine o1_add ?_ | refine o1_lt ?_ | refine o1_le ?_ | refine o1_gt ?_ | refine o1_ge ?_ | refine o1_neg ?_ | refine o1_eq ?_ | refine o1_ne ?_ | refine b1_abs ?_ | refine b1_int ?_ | refine b1_min2 ?_ | refine b1_max2 ?_ | refine o1_eqA ?_ | refine o1_neA ?_ | refine o1_eqS ?_ | refine o1_isN ?_ | refine o1_notN ?_ | refine x_bl ?_ | refine x_int ?_ | refine x_str ?_ | refine x_non ?_ | refine x_nx ?_ | refine x_tup ?_ | refine x_lst ?_ | refine sl_tup ?_ | refine sl_lst ?_ | refine sl_fz ?_ | refine sL_lst ?_ | refine sL_fz ?_)
  | (with_reducible first | refine r_tup ?_ | refine r_lst ?_ | refine o1_addT ?_ | refine o1_addL ?_ | refine b1_len ?_ | refine b1_tuple ?_ | refine b1_list ?_ | refine o1_cat ?_ | refine m1_append ?_ | refine o_pow10_1 ?_ | refine o_pow10_2 ?_ | refine o_pow10_3 ?_ | refine o_pow10_4 ?_ | refine o_pow10_5 ?_ | refine o_pow10_6 ?_ | refine o_pow10_7 ?_ | refine o_pow10_8 ?_ | refine o_pow10_9 ?_ | refine o_pow10_10 ?_ | refine o_pow10_11 ?_ | refine o_pow10_12 ?_ | refine o_pow10_13 ?_ | refine o_pow10_14 ?_ | refine o_pow10_15 ?_ | refine o_pow10_16 ?_ | refine o_pow10_17 ?_ | refine o_pow10_18 ?_ | refine o_pow10_20 ?_ | refine o_pow10_30 ?_)
  | ((with_reducible refine o1_ix ?_); refine ⟨_, _, by first | rfl | assumption, by first | rfl | exact atI_zero, ?_⟩)
  | ((with_reducible refine o1_mul ?_ ?_); first | omega | decide | fail)
  | ((with_reducible refine o1_div ?_ ?_); first | omega | decide | fail)
  | ((with_reducible refine o1_mod ?_ ?_); first | omega | decide | fail)
  | ((with_reducible refine b1_divmod ?_ ?_); first | omega | decide | fail)
  | ((with_reducible refine t_tup ?_ ?_); rfl)
  | ((with_reducible refine r_callV ?_ ?_); rfl)
  | (with_reducible refine cs_dec (fun _ => ?_) (fun _ => ?_))
  | (with_reducible refine cs_beq (fun _ => ?_) (fun _ => ?_))
  | ((with_reducible refine cs_te ?_ ?_); rfl)
  | ((with_reducible refine cs_fe ?_ ?_); rfl)
  | ((with_reducible refine put0 (by assumption) ?_ fun _ => ?_); first | rfl | fail)
  | ((with_reducible refine put1 (by assumption) ?_ fun _ => ?_); first | rfl | fail)
  | ((with_reducible refine put2 (by assumption) ?_ fun _ => ?_); first | rfl | fail)
  | ((fail_if_success (with_reducible refine pst_id ?_)); first
    | exact take_same
    | (with_reducible refine fun (_ : Nat) (_ : Store) (_ : _ = _) (_ : _ = _) (_ : _ = _) => ?_)
    | ((fail_if_success (with_reducible refine And.intro ?_ ?_)); refine ⟨_, by first | rfl | assumption, ?_⟩)
    | ((fail_if_success (with_reducible refine And.intro ?_ ?_)); refine ⟨_, _, rfl, ?_⟩)
    | ((fail_if_success (with_reducible refine And.intro ?_ ?_)); refine ⟨_, _, by first | rfl | assumption, rfl, ?_⟩)
    | ((with_reducible refine And.intro ?_ ?_); first | exact rfl | omega | (simp only [List.length_map]; omega) | exact ⟨rfl, rfl⟩ | exact Nat.le_of_ble_eq_true rfl | fail))
  | ((with_reducible refine dip_go (by assumption) ?_ ?_); (first | omega | (simp only [List.length_map]; omega) | fail); intro _ _ _ _ _ _)
  | ((with_reducible refine one_go (0) (1) (by assumption) ?_ ?_ ?_); (exact ⟨Nat.zero_lt_succ _, Nat.le_of_ble_eq_true rfl⟩); (focus ((repeat (first | exact bnd_nil | refine bnd_cons (by omega) ?_)); (all_goals fail))); intro _ _ _ _ _ _)
  | ((fail_if_success (with_reducible refine pst_id ?_)); first | (with_reducible rfl) | assumption | contradiction))

theorem ix_tabI {R : List (List Int)} {c : Int} {x : D} {S : Store} {Q : D → Store → Prop} {E : XV → Store → Prop} (hx : asS x S = some (R.map tI)) (hk : 0 ≤ c ∧ c < R.length) (h : Q (tI (rowAt R c.toNat)) S) : Pst (oIx x (.int c) S) Q E := by
  obtain ⟨k, rfl⟩ : ∃ k : Nat, c = (k : Int) := ⟨c.toNat, by omega⟩
  rw [Int.toNat_natCast] at h
  exact ix_tab hx (by omega) h
/-! the law's own sharing by classes -/
theorem law_shared_by_eq {T : List (List Int)} {n : Nat} {cs cl : List Int} (hT : TabsOk T n) (hc : CeilOk n cs) (h : ClsOk T cs.length cl) (hn : n ≤ 24) {S : Store} :
    F__law_shared_by [tabsD T, tI cs, tI cl] S = some (.ok (.tup [.tup ((leftR (rowsOf T cl) cs).map nD), tI (pricesR (rowsOf T cl) (leftR (rowsOf T cl) cs))]), S) := by
  have hle := hc.le
  have hcl := h.len
  have hrow : ∀ k, k < cs.length → rowAt (rowsOf T cl) k = rowAt T (cl.getD k 0).toNat := fun k hk => rowAt_rows (by omega)
  have hcb : ∀ k, k < cs.length → 0 ≤ cl.getD k 0 ∧ cl.getD k 0 < T.length := fun k hk => by
    have : cl.getD k 0 ∈ cl := by
      rw [List.getD_eq_getElem?_getD, List.getElem?_eq_getElem (show k < cl.length by omega)]
      exact List.getElem_mem _
    exact h.ok _ this
  have hrl : ∀ k, k < cs.length → (rowAt T (cl.getD k 0).toNat).length = n := fun k hk => by
    have := hcb k hk
    exact (hT.ok _ (rowAt_mem (T := T) (by omega))).2
  generalize rowsOf T cl = R at *
  unfold F__law_shared_by b__law_shared_by
  refine call_eq rfl ?_
  dsimp only [startE, List.map, List.replicate, List.length, List.cons_append, List.nil_append, Nat.reduceAdd, Nat.reduceSub]
  repeat' (first | done | fail)
  rw [List.length_map, Int.toNat_natCast, ranged_nD cs.length]
  have hlen := ranged_len ((cs.length : Int) + 1).toNat 0
  rw [show ((cs.length : Int) + 1).toNat = cs.length + 1 by omega] at hlen ⊢
  generalize ranged 0 (cs.length + 1) = ds at *
  refine for_of (fun i ρ S' => ∃ (l : List Nat) (x4 x5 x6 : Option D), ρ = [some (tabsD T), some (tI cs), some (tI cl), some (.lst (l.map nD)), x4, x5, x6] ∧ List.Sublist l (List.range cs.length) ∧ turnsR R cs (cs.length - i) l = leftR R cs ∧ l.length ≤ cs.length - i ∧ i ≤ cs.length ∧ S' = S) ⟨_, none, none, none, rfl, List.Sublist.refl _, rfl, by simp, Nat.zero_le _, rfl⟩ (fun _ _ _ _ => rfl) ?_ ?_
  · intro i d ρ S' hd hI
    obtain ⟨l, x4, x5, x6, e1, hs, he, hl, hi, e2⟩ := hI
    subst e1
    subst e2
    have hll := hs.length_le
    rw [List.length_range] at hll
    have hlt : ∀ k ∈ l, k < cs.length := fun k hk => List.mem_range.mp (hs.subset hk)
    repeat' (first | done | fail)
    with_reducible refine r_comp ?_
    repeat' (first | done | fail)
    with_reducible refine comp_filter (so := .items (l.map nD)) l nD nD (okR R cs l.length) rfl (fun _ => rfl) (by show _ ≤ 1000000; omega) ?_ ?_
    · intro k hk acc
      have hkc := hlt k hk
      have hlp : 0 < l.length := List.length_pos_of_mem hk
      have h1 := hcb k hkc
      have h2 := hrl k hkc
      have h3 := hrow k hkc
      dsimp only [wipeE, List.set, nD]
      repeat' (first | done | fail)
      with_reducible refine ix_int (ns := cs) rfl (by omega) ?_
      repeat' (first | done | fail)
      with_reducible refine ix_int (ns := cl) rfl (by omega) ?_
      rw [Int.toNat_natCast]
      repeat' (first | done | fail)
      with_reducible refine ix_tabI (R := T) rfl h1 ?_
      repeat' (first | done | fail)
      rw [List.length_map]
      with_reducible refine ix_int (ns := rowAt T (cl.getD k 0).toNat) rfl (by omega) ?_
      rw [show ((l.length : Int) - 1).toNat = l.length - 1 by omega]
      repeat' (first | done | fail)
      refine ⟨by unfold okR; rw [h3], fun _ => ?_⟩
      repeat' (first | done | fail)
      rfl
    · rw [show l.filter (okR R cs l.length) = stepR R cs l from rfl]
      have hst := stepR_len R cs l
      repeat' (first | done | fail)
      · rename_i heq
        simp only [List.length_map] at heq
        have hsl : stepR R cs l = l := List.filter_sublist.eq_of_length (by unfold stepR at heq; omega)
        have hfin : l = leftR R cs := by
          rw [← he]
          cases hc : cs.length - i with
          | zero => rfl
          | succ f => unfold turnsR; rw [if_neg (by omega)]
        with_reducible refine r_comp ?_
        repeat' (first | done | fail)
        with_reducible refine comp_filter (so := .items (l.map nD)) l nD (fun k => .int ((rowAt R k).getD (l.length - 1) 0)) (fun _ => true) rfl (fun _ => rfl) (by show _ ≤ 1000000; omega) ?_ ?_
        · intro k hk acc
          have hkc := hlt k hk
          have hlp : 0 < l.length := List.length_pos_of_mem hk
          have h1 := hcb k hkc
          have h2 := hrl k hkc
          have h3 := hrow k hkc
          dsimp only [wipeE, List.set, nD]
          repeat' (first | done | fail)
          intro _
          repeat' (first | done | fail)
          with_reducible refine ix_int (ns := cl) rfl (by omega) ?_
          rw [Int.toNat_natCast]
          repeat' (first | done | fail)
          with_reducible refine ix_tabI (R := T) rfl h1 ?_
          repeat' (first | done | fail)
          rw [List.length_map]
          with_reducible refine ix_int (ns := rowAt T (cl.getD k 0).toNat) rfl (by omega) ?_
          rw [show ((l.length : Int) - 1).toNat = l.length - 1 by omega, h3]
          exact ⟨rfl, rfl, rfl⟩
        · have ef : l.filter (fun _ => true) = l := List.filter_eq_self.mpr fun _ _ => rfl
          rw [ef]
          have em : l.map (fun k => D.int ((rowAt R k).getD (l.length - 1) 0)) = (pricesR R l).map D.int := by unfold pricesR; rw [List.map_map]; rfl
          rw [em, hfin]
          repeat' (first | done | fail)
          refine ⟨?_, rfl, take_same⟩
          rw [D.pures, D.pure, pures_nD, D.pures, D.pure, pures_mapI]; rfl
      · rename_i hne
        simp only [List.length_map] at hne
        obtain ⟨f, hf⟩ : ∃ f, cs.length - i = f + 1 := ⟨cs.length - i - 1, by omega⟩
        rw [hf] at he
        unfold turnsR at he
        rw [if_pos (by omega)] at he
        refine ⟨stepR R cs l, _, _, _, rfl, List.Sublist.trans List.filter_sublist hs, ?_, by omega, by omega, rfl⟩
        rw [show cs.length - (i + 1) = f by omega]
        exact he
  · intro ρ S' hI
    obtain ⟨l, x4, x5, x6, e1, hs, he, hl, hi, e2⟩ := hI
    exfalso
    omega
end LW
set_option Elab.async false
set_option linter.all false
set_option maxRecDepth 100000
set_option maxHeartbeats 4000000
namespace LW
open PySem L2 Evl PySem.Spec PyProof.Rows PF
local macro_rules | `(tactic| trivial) => `(tactic| first
  | (with_reducible first | refine v0 ?_ | refine v1 ?_ | refine v2 ?_ | refine v3 ?_ | refine v4 ?_ | refine v5 ?_ | refine v6 ?_ | refine v7 ?_ | refine v8 ?_ | refine v9 ?_ | refine v10 ?_ | refine v11 ?_ | refine v12 ?_ | refine v13 ?_ | refine tn0 ?_ | refine tn1 ?_ | refine tn2 ?_ | refine tn3 ?_ | refine tn4 ?_ | refine tn5 ?_ | refine tn6 ?_ | refine tn7 ?_ | refine tn8 ?_ | refine tn9 ?_ | refine tn10 ?_ | refine tn11 ?_ | refine tn12 ?_ | refine tn13 ?_ | refine ss0 ?_ | refine ss1 ?_ | refine ss2 ?_ | refine ss3 ?_ | refine ss4 ?_ | refine ss5 ?_ | refine ss6 ?_ | refine ss7 ?_ | refine ss8 ?_ | refine ss9 ?_ | refine ss10 ?_ | refine ss11 ?_ | refine ss12 ?_ | refine ss13 ?_)
  | (with_reducible first | refine r_k ?_ | refine r_bin ?_ | refine r_cons ?_ | refine r_nil ?_ | refine r_call ?_ | refine r_blt ?_ | refine r_un ?_ | refine r_ok ?_ | refine s_seq ?_ | refine s_ret ?_ | refine s_if ?_ | refine s_expr ?_ | refine s_asg ?_ | refine s_par ?_ | refine s_nil ?_ | refine s_brk ?_ | refine s_ct ?_ | refine s_for ?_ | refine bool_t ?_ | refine bool_and ?_ | refine bool_or ?_ | refine bool_not ?_ | refine bool_yes ?_ | refine r_and ?_ | refine r_or ?_ | refine r_not ?_ | refine r_ife ?_ | refine r_chain ?_ | refine r_isi ?_ | refine r_lam ?_ | refine r_back ?_ | refine r_listR1 ?_ | refine r_callK ?_ | refine r_mt ?_ | refine r_alloc ?_ | refine r_sliceA ?_ | refine r_sliceL ?_ | refine r_no ?_ | refine r_part ?_ | refine r_scope ?_ | refine t_nil ?_ | refine t_cons ?_ | refine q_seq ?_ | refine q_range ?_ | refine q_range2 ?_ | refine q_rangeD ?_ | refine q_enumA ?_ | refine nx_nx ?_ | refine nx_ret ?_ | refine nx_exc ?_ | refine nx_brk ?_ | refine nx_ct ?_ | refine bl_bl ?_ | refine cs_not ?_ | refine cs_t ?_ | refine cs_f ?_ | refine r_bind ?_ | refine r_nox ?_ | refine t_sub ?_ | refine s_retL ?_ | refine o1_sub ?_ | refine o1_add ?_ | refine o1_lt ?_ | refine o1_le ?_ | refine o1_gt ?_ | refine o1_ge ?_ | refine o1_neg ?_ | refine o1_eq ?_ | refine o1_ne ?_ | refine b1_abs ?_ | refine b1_int ?_ | refine b1_min2 ?_ | refine b1_max2 ?_ | refine o1_eqA ?_ | refine o1_neA ?_ | refine o1_eqS ?_ | refine o1_isN ?_ | refine o1_notN ?_ | refine x_bl ?_ | refine x_int ?_ | refine x_str ?_ | refine x_non ?_ | refine x_nx ?_ | refine x_tup ?_ | refine x_lst ?_ | refine sl_tup ?_ | refine sl_lst ?_ | refine sl_fz ?_ | refine sL_lst ?_ | refine sL_fz ?_)
  | (with_reducible first | refine r_tup ?_ | refine r_lst ?_ | refine o1_addT ?_ | refine o1_addL ?_ | refine b1_len ?_ | refine b1_tuple ?_ | refine b1_list ?_ | refine o1_cat ?_ | refine m1_append ?_ | refine o_pow10_1 ?_ | refine o_pow10_2 ?_ | refine o_pow10_3 ?_ | refine o_pow10_4 ?_ | refine o_pow10_5 ?_ | refine o_pow10_6 ?_ | refine o_pow10_7 ?_ | refine o_pow10_8 ?_ | refine o_pow10_9 ?_ | refine o_pow10_10 ?_ | refine o_pow10_11 ?_ | refine o_pow10_12 ?_ | refine o_pow10_13 ?_ | refine o_pow10_14 ?_ | refine o_pow10_15 ?_ | refine o_pow10_16 ?_ | refine o_pow10_17 ?_ | refine o_pow10_18 ?_ | refine o_pow10_20 ?_ | refine o_pow10_30 ?_)
  | ((with_reducible refine o1_ix ?_); refine ⟨_, _, by first | rfl | assumption, by first | rfl | exact atI_zero, ?_⟩)
  | ((with_reducible refine o1_mul ?_ ?_); first | omega | decide | fail)
  | ((with_reducible refine o1_div ?_ ?_); first | omega | decide | fail)
  | ((with_reducible refine o1_mod ?_ ?_); first | omega | decide | fail)
  | ((with_reducible refine b1_divmod ?_ ?_); first | omega | decide | fail)
  | ((with_reducible refine t_tup ?_ ?_); rfl)
  | ((with_reducible refine r_callV ?_ ?_); rfl)
  | (with_reducible refine cs_dec (fun _ => ?_) (fun _ => ?_))
  | (with_reducible refine cs_beq (fun _ => ?_) (fun _ => ?_))
  | ((with_reducible refine cs_te ?_ ?_); rfl)
  | ((with_reducible refine cs_fe ?_ ?_); rfl)
  | ((with_reducible refine put0 (by assumption) ?_ fun _ => ?_); first | rfl | fail)
  | ((with_reducible refine put1 (by assumption) ?_ fun _ => ?_); first | rfl | fail)
  | ((with_reducible refine put2 (by assumption) ?_ fun _ => ?_); first | rfl | fail)
  | ((fail_if_success (with_reducible refine pst_id ?_)); first
    | exact take_same
    | (with_reducible refine fun (_ : Nat) (_ : Store) (_ : _ = _) (_ : _ = _) (_ : _ = _) => ?_)
    | ((fail_if_success (with_reducible refine And.intro ?_ ?_)); refine ⟨_, by first | rfl | assumption, ?_⟩)
    | ((fail_if_success (with_reducible refine And.intro ?_ ?_)); refine ⟨_, _, rfl, ?_⟩)
    | ((fail_if_success (with_reducible refine And.intro ?_ ?_)); refine ⟨_, _, by first | rfl | assumption, rfl, ?_⟩)
    | ((with_reducible refine And.intro ?_ ?_); first | exact rfl | omega | (simp only [List.length_map]; omega) | exact ⟨rfl, rfl⟩ | exact Nat.le_of_ble_eq_true rfl | fail))
  | ((with_reducible refine dip_go (by assumption) ?_ ?_); (first | omega | (simp only [List.length_map]; omega) | fail); intro _ _ _ _ _ _)
  | ((with_reducible refine one_go (1) (24) (by assumption) ?_ ?_ ?_); (exact ⟨Nat.zero_lt_succ _, Nat.le_of_ble_eq_true rfl⟩); (focus ((repeat (first | exact bnd_nil | refine bnd_cons (by omega) ?_)); (all_goals fail))); intro _ _ _ _ _ _)
  | ((with_reducible refine one_go (2) (999) (by assumption) ?_ ?_ ?_); (exact ⟨Nat.zero_lt_succ _, Nat.le_of_ble_eq_true rfl⟩); (focus ((repeat (first | exact bnd_nil | refine bnd_cons (by omega) ?_)); (all_goals fail))); intro _ _ _ _ _ _))
local macro_rules | `(tactic| done) => `(tactic| first
  | (with_reducible first | refine v0 ?_ | refine v1 ?_ | refine v2 ?_ | refine v3 ?_ | refine v4 ?_ | refine v5 ?_ | refine v6 ?_ | refine v7 ?_ | refine v8 ?_ | refine v9 ?_ | refine v10 ?_ | refine v11 ?_ | refine v12 ?_ | refine v13 ?_ | refine tn0 ?_ | refine tn1 ?_ | refine tn2 ?_ | refine tn3 ?_ | refine tn4 ?_ | refine tn5 ?_ | refine tn6 ?_ | refine tn7 ?_ | refine tn8 ?_ | refine tn9 ?_ | refine tn10 ?_ | refine tn11 ?_ | refine tn12 ?_ | refine tn13 ?_ | refine ss0 ?_ | refine ss1 ?_ | refine ss2 ?_ | refine ss3 ?_ | refine ss4 ?_ | refine ss5 ?_ | refine ss6 ?_ | refine ss7 ?_ | refine ss8 ?_ | refine ss9 ?_ | refine ss10 ?_ | refine ss11 ?_ | refine ss12 ?_ | refine ss13 ?_)
  | (with_reducible first | refine r_k ?_ | refine r_bin ?_ | refine r_cons ?_ | refine r_nil ?_ | refine r_call ?_ | refine r_blt ?_ | refine r_un ?_ | refine r_ok ?_ | refine s_seq ?_ | refine s_ret ?_ | refine s_if ?_ | refine s_expr ?_ | refine s_asg ?_ | refine s_par ?_ | refine s_nil ?_ | refine s_brk ?_ | refine s_ct ?_ | refine s_for ?_ | refine bool_t ?_ | refine bool_and ?_ | refine bool_or ?_ | refine bool_not ?_ | refine bool_yes ?_ | refine r_and ?_ | refine r_or ?_ | refine r_not ?_ | refine r_ife ?_ | refine r_chain ?_ | refine r_isi ?_ | refine r_lam ?_ | refine r_back ?_ | refine r_listR1 ?_ | refine r_callK ?_ | refine r_mt ?_ | refine r_alloc ?_ | refine r_sliceA ?_ | refine r_sliceL ?_ | refine r_no ?_ | refine r_part ?_ | refine r_scope ?_ | refine t_nil ?_ | refine t_cons ?_ | refine q_seq ?_ | refine q_range ?_ | refine q_range2 ?_ | refine q_rangeD ?_ | refine q_enumA ?_ | refine nx_nx ?_ | refine nx_ret ?_ | refine nx_exc ?_ | refine nx_brk ?_ | refine nx_ct ?_ | refine bl_bl ?_ | refine cs_not ?_ | refine cs_t ?_ | refine cs_f ?_ | refine r_bind ?_ | refine r_nox ?_ | refine t_sub ?_ | refine s_retL ?_ | refine o1_sub ?_ | refine o1_add ?_ | refine o1_lt ?_ | refine o1_le ?_ | refine o1_gt ?_ | refine o1_ge ?_ | refine o1_neg ?_ | refine o1_eq ?_ | refine o1_ne ?_ | refine b1_abs ?_ | refine b1_int ?_ | refine b1_min2 ?_ | refine b1_max2 ?_ | refine o1_eqA ?_ | refine o1_neA ?_ | refine o1_eqS ?_ | refine o1_isN ?_ | refine o1_notN ?_ | refine x_bl ?_ | refine x_int ?_ | refine x_str ?_ | refine x_non ?_ | refine x_nx ?_ | refine x_tup ?_ | refine x_lst ?_ | refine sl_tup ?_ | refine sl_lst ?_ | refine sl_fz ?_ | refine sL_lst ?_ | refine sL_fz ?_)
  | (with_reducible first | refine r_tup ?_ | refine r_lst ?_ | refine o1_addT ?_ | refine o1_addL ?_ | refine b1_len ?_ | refine b1_tuple ?_ | refine b1_list ?_ | refine o1_cat ?_ | refine m1_append ?_ | refine o_pow10_1 ?_ | refine o_pow10_2 ?_ | refine o_pow10_3 ?_ | refine o_pow10_4 ?_ | refine o_pow10_5 ?_ | refine o_pow10_6 ?_ | refine o_pow10_7 ?_ | refine o_pow10_8 ?_ | refine o_pow10_9 ?_ | refine o_pow10_10 ?_ | refine o_pow10_11 ?_ | refine o_pow10_12 ?_ | refine o_pow10_13 ?_ | refine o_pow10_14 ?_ | refine o_pow10_15 ?_ | refine o_pow10_16 ?_ | refine o_pow10_17 ?_ | refine o_pow10_18 ?_ | refine o_pow10_20 ?_ | refine o_pow10_30 ?_)
  | ((with_reducible refine o1_ix ?_); refine ⟨_, _, by first | rfl | assumption, by first | rfl | exact atI_zero, ?_⟩)
  | ((with_reducible refine o1_mul ?_ ?_); first | omega | decide | fail)
  | ((with_reducible refine o1_div ?_ ?_); first | omega | decide | fail)
  | ((with_reducible refine o1_mod ?_ ?_); first | omega | decide | fail)
  | ((with_reducible refine b1_divmod ?_ ?_); first | omega | decide | fail)
  | ((with_reducible refine t_tup ?_ ?_); rfl)
  | ((with_reducible refine r_callV ?_ ?_); rfl)
  | (with_reducible refine cs_dec (fun _ => ?_) (fun _ => ?_))
  | (with_reducible refine cs_beq (fun _ => ?_) (fun _ => ?_))
  | ((with_reducible refine cs_te ?_ ?_); rfl)
  | ((with_reducible refine cs_fe ?_ ?_); rfl)
  | ((with_reducible refine put0 (by assumption) ?_ fun _ => ?_); first | rfl | fail)
  | ((with_reducible refine put1 (by assumption) ?_ fun _ => ?_); first | rfl | fail)
  | ((with_reducible refine put2 (by assumption) ?_ fun _ => ?_); first | rfl | fail)
  | ((fail_if_success (with_reducible refine pst_id ?_)); first
    | exact take_same
    | (with_reducible refine fun (_ : Nat) (_ : Store) (_ : _ = _) (_ : _ = _) (_ : _ = _) => ?_)
    | ((fail_if_success (with_reducible refine And.intro ?_ ?_)); refine ⟨_, by first | rfl | assumption, ?_⟩)
    | ((fail_if_success (with_reducible refine And.intro ?_ ?_)); refine ⟨_, _, rfl, ?_⟩)
    | ((fail_if_success (with_reducible refine And.intro ?_ ?_)); refine ⟨_, _, by first | rfl | assumption, rfl, ?_⟩)
    | ((with_reducible refine And.intro ?_ ?_); first | exact rfl | omega | (simp only [List.length_map]; omega) | exact ⟨rfl, rfl⟩ | exact Nat.le_of_ble_eq_true rfl | fail))
  | ((with_reducible refine dip_go (by assumption) ?_ ?_); (first | omega | (simp only [List.length_map]; omega) | fail); intro _ _ _ _ _ _)
  | ((with_reducible refine one_go (1) (24) (by assumption) ?_ ?_ ?_); (exact ⟨Nat.zero_lt_succ _, Nat.le_of_ble_eq_true rfl⟩); (focus ((repeat (first | exact bnd_nil | refine bnd_cons (by omega) ?_)); (all_goals fail))); intro _ _ _ _ _ _)
  | ((with_reducible refine one_go (2) (999) (by assumption) ?_ ?_ ?_); (exact ⟨Nat.zero_lt_succ _, Nat.le_of_ble_eq_true rfl⟩); (focus ((repeat (first | exact bnd_nil | refine bnd_cons (by omega) ?_)); (all_goals fail))); intro _ _ _ _ _ _)
  | ((fail_if_success (with_reducible refine pst_id ?_)); first | (with_reducible rfl) | assumption | contradiction))

def perD (cs : List Int) (o : List Nat) : List Int := o.map fun k => cs.getD k 0
def inO (o l : List Nat) : List Nat := (List.range o.length).filter fun k => decide (o.getD k 0 ∈ l)
theorem inO_len {o l : List Nat} {n : Nat} (ho : o.Perm (List.range n)) (hl : List.Sublist l (List.range n)) : (inO o l).length = l.length := by
  have e : o = (List.range o.length).map fun k => o.getD k 0 := by
    refine List.ext_getElem? fun k => ?_
    rw [List.getElem?_map]
    by_cases hk : k < o.length
    · rw [List.getElem?_range hk, List.getElem?_eq_getElem hk]
      show _ = some (o.getD k 0)
      rw [List.getD_eq_getElem?_getD, List.getElem?_eq_getElem hk]; rfl
    · rw [List.getElem?_eq_none (by omega), List.getElem?_eq_none (by rw [List.length_range]; omega)]; rfl
  have h1 : (inO o l).length = (o.filter fun x => decide (x ∈ l)).length := by
    conv => rhs; rw [e]
    rw [List.filter_map, List.length_map]
    rfl
  rw [h1, (ho.filter _).length_eq]
  have h2 : (List.range n).filter (fun x => decide (x ∈ l)) = l := by
    have hnd : (List.range n).Nodup := List.nodup_range
    clear h1 e ho
    generalize List.range n = r at *
    induction hl with
    | slnil => rfl
    | @cons l1 l2 a h ih =>
      obtain ⟨h3, h4⟩ := List.nodup_cons.mp hnd
      rw [List.filter_cons_of_neg (by simpa using fun hm => h3 (h.subset hm))]
      exact ih h4
    | @cons_cons l1 l2 a h ih =>
      obtain ⟨h3, h4⟩ := List.nodup_cons.mp hnd
      rw [List.filter_cons_of_pos (by simp)]
      congr 1
      rw [← ih h4]
      refine List.filter_congr fun x hx => ?_
      have hne : x ≠ a := fun e => h3 (by rw [← e]; exact hx)
      rw [ih h4]
      simp [hne]
  rw [h2]
theorem step_perR {R R' : List (List Int)} {cs : List Int} {o l : List Nat} {n : Nat} (ho : o.Perm (List.range n)) (hR : ∀ k, k < n → rowAt R' k = rowAt R (o.getD k 0)) (hl : List.Sublist l (List.range n)) : stepR R' (perD cs o) (inO o l) = inO o (stepR R cs l) := by
  have hon : o.length = n := by rw [ho.length_eq, List.length_range]
  unfold stepR
  rw [inO_len ho hl]
  generalize l.length = b
  unfold inO
  rw [List.filter_filter]
  refine List.filter_congr fun k hk => ?_
  have hk := List.mem_range.mp hk
  have e : (perD cs o).getD k 0 = cs.getD (o.getD k 0) 0 := by
    unfold perD
    rw [List.getD_eq_getElem?_getD, List.getElem?_map, List.getD_eq_getElem?_getD (l := o), List.getElem?_eq_getElem hk]; rfl
  have e2 : okR R' (perD cs o) b k = okR R cs b (o.getD k 0) := by unfold okR; rw [e, hR k (by omega)]
  rw [e2]
  generalize o.getD k 0 = x
  cases h : okR R cs b x <;> simp [List.mem_filter, h]
theorem turns_perR {R R' : List (List Int)} {cs : List Int} {o : List Nat} {n : Nat} (ho : o.Perm (List.range n)) (hR : ∀ k, k < n → rowAt R' k = rowAt R (o.getD k 0)) : ∀ (f : Nat) (l : List Nat), List.Sublist l (List.range n) → turnsR R' (perD cs o) f (inO o l) = inO o (turnsR R cs f l)
  | 0, l, _ => rfl
  | f + 1, l, hl => by
    have hs : List.Sublist (stepR R cs l) (List.range n) := List.Sublist.trans List.filter_sublist hl
    unfold turnsR
    rw [step_perR ho hR hl, inO_len ho hs, inO_len ho hl]
    by_cases hc : (stepR R cs l).length < l.length
    · rw [if_pos hc, if_pos hc]
      exact turns_perR ho hR f _ hs
    · rw [if_neg hc, if_neg hc]
theorem left_perR {R R' : List (List Int)} {cs : List Int} {o : List Nat} (ho : o.Perm (List.range cs.length)) (hR : ∀ k, k < cs.length → rowAt R' k = rowAt R (o.getD k 0)) : leftR R' (perD cs o) = inO o (leftR R cs) := by
  have hlen : (perD cs o).length = cs.length := by unfold perD; rw [List.length_map, ho.length_eq, List.length_range]
  have h0 : List.range cs.length = inO o (List.range cs.length) := by
    unfold inO
    rw [ho.length_eq, List.length_range]
    refine (List.filter_eq_self.mpr fun k hk => decide_eq_true ?_).symm
    have hk := List.mem_range.mp hk
    have hk2 : k < o.length := by rw [ho.length_eq, List.length_range]; exact hk
    rw [List.getD_eq_getElem?_getD, List.getElem?_eq_getElem hk2]
    exact ho.subset (List.getElem_mem hk2)
  unfold leftR
  rw [hlen]
  conv => lhs; rw [h0]
  exact turns_perR ho hR _ _ (List.Sublist.refl _)
theorem rows_per {T : List (List Int)} {cl : List Int} {o : List Nat} (ho : o.Perm (List.range cl.length)) : ∀ k, k < cl.length → rowAt (rowsOf T (perD cl o)) k = rowAt (rowsOf T cl) (o.getD k 0) := fun k hk => by
  have hol : o.length = cl.length := by rw [ho.length_eq, List.length_range]
  have hlen : (perD cl o).length = cl.length := by unfold perD; rw [List.length_map, hol]
  have hm : o.getD k 0 ∈ o := by
    rw [List.getD_eq_getElem?_getD, List.getElem?_eq_getElem (show k < o.length by omega)]
    exact List.getElem_mem _
  have hlt : o.getD k 0 < cl.length := List.mem_range.mp (ho.subset hm)
  rw [rowAt_rows (by omega), rowAt_rows hlt]
  congr 2
  unfold perD
  rw [List.getD_eq_getElem?_getD, List.getElem?_map, List.getElem?_eq_getElem (show k < o.length by omega), List.getD_eq_getElem?_getD (l := o), List.getElem?_eq_getElem (show k < o.length by omega)]
  rfl
theorem prices_per {T : List (List Int)} {cs cl : List Int} {o : List Nat} (hl : cl.length = cs.length) (ho : o.Perm (List.range cs.length)) :
    pricesR (rowsOf T (perD cl o)) (inO o (leftR (rowsOf T cl) cs)) = (inO o (leftR (rowsOf T cl) cs)).map fun k => (rowAt (rowsOf T cl) (o.getD k 0)).getD ((leftR (rowsOf T cl) cs).length - 1) 0 := by
  have hol : o.length = cs.length := by rw [ho.length_eq, List.length_range]
  have hil : (inO o (leftR (rowsOf T cl) cs)).length = (leftR (rowsOf T cl) cs).length := inO_len ho (turnsR_sub _ cs _ _)
  unfold pricesR
  rw [hil]
  refine List.map_congr_left fun k hk => ?_
  have hk2 := List.mem_range.mp (List.mem_filter.mp hk).1
  rw [rows_per (by rw [hl]; exact ho) k (by omega)]
theorem look_zip {g : Nat → Int} {j : Nat} : ∀ {l : List Nat}, j ∈ l → ((l.map Int.ofNat).zip (l.map g)).lookup (j : Int) = some (g j)
  | [], h => by cases h
  | a :: l, h => by
    rw [List.map_cons, List.map_cons, List.zip_cons_cons]
    by_cases e : a = j
    · subst e
      simp [List.lookup]
    · have e2 : ((j : Int) == Int.ofNat a) = false := beq_eq_false_iff_ne.mpr (fun z => e (by have : (j : Int) = (a : Int) := z; omega))
      simp only [List.lookup, e2]
      rcases List.mem_cons.mp h with h | h
      · exact absurd h.symm e
      · exact look_zip h
theorem perm_pop {f l r : List Nat} {j : Nat} {x : Nat} (h : (f ++ l).Perm r) (hx : l[j]? = some x) : ((f ++ [x]) ++ l.eraseIdx j).Perm r := by
  refine List.Perm.trans ?_ h
  rw [List.append_assoc]
  refine List.Perm.append_left f ?_
  obtain ⟨hj, e⟩ := List.getElem?_eq_some_iff.mp hx
  have e2 : l = l.take j ++ x :: l.drop (j + 1) := by
    rw [← e, ← List.drop_eq_getElem_cons hj, List.take_append_drop]
  rw [List.eraseIdx_eq_take_drop_succ]
  conv => rhs; rw [e2]
  show (x :: (l.take j ++ l.drop (j + 1))).Perm _
  exact List.perm_middle.symm
theorem map_erase {α β : Type} (g : α → β) : ∀ (l : List α) (j : Nat), (l.map g).eraseIdx j = (l.eraseIdx j).map g
  | [], _ => rfl
  | _ :: _, 0 => rfl
  | x :: l, j + 1 => by
    rw [List.map_cons, List.eraseIdx_cons_succ, List.eraseIdx_cons_succ, List.map_cons, map_erase g l j]
theorem pop_at {S : Store} {m : Nat} {l : List Nat} {i : Int} {Q : D → Store → Prop} {E : XV → Store → Prop} (e : S[m]? = some (l.map nD)) (hi : 0 ≤ i ∧ i < l.length) (hl : l.length ≤ 1000)
    (k : ∀ x S', l[i.toNat]? = some x → S' = S.set m ((l.eraseIdx i.toNat).map nD) → Q (nD x) S') : Pst (mPopAt (.loc m) [.int i] S) Q E := by
  have hj : i.toNat < l.length := by omega
  have e2 : ixN (l.map nD).length i = some i.toNat := by
    unfold ixN
    rw [if_pos hi.1, List.length_map, if_pos hi.2]
  have e3 : (l.map nD)[i.toNat]? = some (nD l[i.toNat]) := by rw [List.getElem?_map, List.getElem?_eq_getElem hj]; rfl
  have e4 : mPopAt (.loc m) [.int i] S = some (.ok (nD l[i.toNat]), S.set m ((l.map nD).eraseIdx i.toNat)) := by
    unfold mPopAt
    simp only [e]
    rw [if_pos (by omega)]
    simp only [e2, e3]
  rw [e4, map_erase]
  exact k _ _ (List.getElem?_eq_getElem hj) rfl
theorem mixed_ok {n : Nat} {S : Store} (h : Well n S) {many : Nat} (hm : many ≤ 1000) : Pst (F__law_mixed [.loc n, .lst ((List.range many).map nD)] S) (fun d S' => ∃ o : List Nat, d = .lst (o.map nD) ∧ o.Perm (List.range many) ∧ Fr n S S') NoE := by
  have hn := len_of h
  unfold F__law_mixed b__law_mixed
  refine call_go rfl ?_
  dsimp only [startE, List.map, List.replicate, List.length, List.cons_append, List.nil_append, Nat.reduceAdd, Nat.reduceSub]
  repeat' (first | done | fail)
  refine ⟨pures_nD, fun m1 S1 em1 eS1 h1 => ?_⟩
  have fx1 : FrX n S S1 := by rw [eS1]; exact FrX.lay h _
  repeat' (first | done | fail)
  rename_i m2 S2 em2 eS2 h2
  have fx2 : FrX n S S2 := by rw [eS2]; exact fx1.trans (FrX.lay fx1.1 _)
  have l1 : S1.length = S.length + 1 := by rw [eS1]; simp
  have h12 : m1 ≠ m2 := by omega
  have h1n : m1 ≠ n := by omega
  have h2n : m2 ≠ n := by omega
  have h1' : S2[m1]? = some ((List.range many).map nD) := by rw [eS2, List.getElem?_append_left (by omega)]; exact h1
  have hge1 : S.length ≤ m1 := by omega
  have hge2 : S.length ≤ m2 := by omega
  clear em1 eS1 em2 eS2 h1
  refine ⟨_, h1', ?_⟩
  rw [List.length_map, List.length_range]
  repeat' (first | done | fail)
  have hlen := ranged_len ((many : Int)).toNat 0
  rw [Int.toNat_natCast] at hlen ⊢
  generalize ranged 0 many = ds at *
  refine for_of (fun i ρ S' => ∃ (f l : List Nat) (x4 : Option D), ρ = [some (.loc n), some (.lst ((List.range many).map nD)), some (.loc m1), some (.loc m2), x4] ∧ S'[m1]? = some (l.map nD) ∧ S'[m2]? = some (f.map nD) ∧ (f ++ l).Perm (List.range many) ∧ l.length = many - i ∧ FrX n S S') ⟨[], List.range many, none, rfl, h1', h2, List.Perm.refl _, by rw [List.length_range]; rfl, fx2⟩ (fun _ _ _ _ => rfl) ?_ ?_
  · intro i d ρ S3 hd hI
    obtain ⟨f, l, x4, e1, k1, k2, hp, hl, fx⟩ := hI
    subst e1
    have hi : i < many := by
      have := (List.getElem?_eq_some_iff.mp hd).1
      omega
    have w3 := fx.1
    have hfl := hp.length_eq
    rw [List.length_append, List.length_range] at hfl
    repeat' (first | done | fail)
    rename_i r S4 r0 r1 f4 w4
    rw [List.length_map] at r1
    with_reducible refine pop_at (l := l) (f4.at h1n k1) ⟨r0, r1⟩ (by omega) fun x S5 hx e5 => ?_
    have k5a : S5[m1]? = some ((l.eraseIdx r.toNat).map nD) := by rw [e5]; exact set_get _ (f4.at h1n k1)
    have k5b : S5[m2]? = some (f.map nD) := by rw [e5, List.getElem?_set_ne h12]; exact f4.at h2n k2
    have fx5 : FrX n S S5 := by rw [e5]; exact Fr.putX (fx.trans f4.x) hge1 hn _
    repeat' (first | done | fail)
    refine ⟨⟨rfl, by rw [List.length_map]; show _ < 1000000; omega⟩, fun k6 => ?_⟩
    refine ⟨f ++ [x], l.eraseIdx r.toNat, _, rfl, ?_, ?_, perm_pop hp hx, ?_, Fr.putX fx5 hge2 hn _⟩
    · rw [List.getElem?_set_ne (fun e => h12 e.symm)]; exact k5a
    · rw [List.map_append]; exact k6
    · rw [List.length_eraseIdx_of_lt (by omega)]; omega
  · intro ρ S3 hI
    obtain ⟨f, l, x4, e1, k1, k2, hp, hl, fx⟩ := hI
    subst e1
    have h0 : l = [] := List.length_eq_zero_iff.mp (by omega)
    subst h0
    rw [List.append_nil] at hp
    repeat' (first | done | fail)
    rw [exit_loc hge2 k2]
    exact ⟨f, rfl, hp, fx.cut hn⟩
def memB (o l : List Nat) (k : Nat) : Bool := decide (o.getD k 0 ∈ l)
theorem per_ok {m : Nat} {cs : List Int} (h : CeilOk m cs) {o : List Nat} (ho : o.Perm (List.range cs.length)) : CeilOk m (perD cs o) := by
  have hlen : (perD cs o).length = cs.length := by unfold perD; rw [List.length_map, ho.length_eq, List.length_range]
  refine ⟨by rw [hlen]; exact h.l1, by rw [hlen]; exact h.le, fun x hx => ?_⟩
  obtain ⟨k, hk, rfl⟩ := List.mem_map.mp hx
  exact getN_in h.ok (List.mem_range.mp (ho.subset hk))
theorem mulT_one {d : D} {k : Int} (h : -1000 ≤ k ∧ k ≤ 1000) {S : Store} : oMulA (.tup [d]) (.int k) S = some (.ok (.tup (List.replicate k.toNat d)), S) := by
  have e1 : oMul (.tup [d]) (.int k) S = none := rfl
  have e2 : oRepT (.tup [d]) (.int k) S = if (1 ≤ [d].length ∧ [d].length ≤ 1000) ∧ (-1000 ≤ k ∧ k ≤ 1000) then some (.ok (.tup (List.replicate k.toNat [d]).flatten), S) else none := rfl
  unfold oMulA
  rw [e1]
  show oRepT (.tup [d]) (.int k) S = _
  rw [e2, if_pos ⟨⟨by simp, by simp⟩, h⟩, flat1]
theorem r_dz {c : AX} {ρ : PF.Env} {S : Store} {Q : D → Store → Prop} {E : XV → Store → Prop} (h : Pst (c ρ S) (fun ds S => ∃ ks vs : List Int, ds = [tI ks, tI vs] ∧ (ks.length = vs.length ∧ ks.Nodup) ∧ Q (.dct (ks.zip vs)) S) E) : Pst (cDZ c ρ S) Q E := by
  unfold cDZ
  match hc : c ρ S with
  | none => rw [hc] at h; exact h.elim
  | some (.error x, S1) => rw [hc] at h; exact h
  | some (.ok ds, S1) =>
    rw [hc] at h
    obtain ⟨ks, vs, e, hk, h⟩ := h
    subst e
    rw [bindO_ok]
    show Pst (match intsOf (ks.map D.int), intsOf (vs.map D.int) with
      | some ks, some vs => if ks.length = vs.length ∧ ks.Nodup then (some (Except.ok (D.dct (ks.zip vs)), S1) : Out D) else none
      | _, _ => none) Q E
    rw [intsOf_map, intsOf_map]
    show Pst (if ks.length = vs.length ∧ ks.Nodup then (some (Except.ok (D.dct (ks.zip vs)), S1) : Out D) else none) Q E
    rw [if_pos hk]
    exact h
theorem o1_dg {l : List (Int × Int)} {k v : Int} {S : Store} {Q : D → Store → Prop} {E : XV → Store → Prop} (e : l.lookup k = some v) (h : Q (.int v) S) : Pst (oDG (.dct l) (.int k) S) Q E := by
  show Pst (match l.lookup k with
    | some v => (some (Except.ok (D.int v), S) : Out D)
    | none => none) Q E
  rw [e]
  exact h
end LW
set_option Elab.async false
set_option linter.all false
set_option maxRecDepth 100000
set_option maxHeartbeats 4000000
namespace LW
open PySem L2 Evl PySem.Spec PyProof.Rows PF
local macro_rules | `(tactic| trivial) => `(tactic| first
  | (with_reducible first | refine v0 ?_ | refine v1 ?_ | refine v2 ?_ | refine v3 ?_ | refine v4 ?_ | refine v5 ?_ | refine v6 ?_ | refine v7 ?_ | refine v8 ?_ | refine v9 ?_ | refine v10 ?_ | refine v11 ?_ | refine v12 ?_ | refine v13 ?_ | refine tn0 ?_ | refine tn1 ?_ | refine tn2 ?_ | refine tn3 ?_ | refine tn4 ?_ | refine tn5 ?_ | refine tn6 ?_ | refine tn7 ?_ | refine tn8 ?_ | refine tn9 ?_ | refine tn10 ?_ | refine tn11 ?_ | refine tn12 ?_ | refine tn13 ?_ | refine ss0 ?_ | refine ss1 ?_ | refine ss2 ?_ | refine ss3 ?_ | refine ss4 ?_ | refine ss5 ?_ | refine ss6 ?_ | refine ss7 ?_ | refine ss8 ?_ | refine ss9 ?_ | refine ss10 ?_ | refine ss11 ?_ | refine ss12 ?_ | refine ss13 ?_)
  | (with_reducible first | refine r_k ?_ | refine r_bin ?_ | refine r_cons ?_ | refine r_nil ?_ | refine r_call ?_ | refine r_blt ?_ | refine r_un ?_ | refine r_ok ?_ | refine s_seq ?_ | refine s_ret ?_ | refine s_if ?_ | refine s_expr ?_ | refine s_asg ?_ | refine s_par ?_ | refine s_nil ?_ | refine s_brk ?_ | refine s_ct ?_ | refine s_for ?_ | refine bool_t ?_ | refine bool_and ?_ | refine bool_or ?_ | refine bool_not ?_ | refine bool_yes ?_ | refine r_and ?_ | refine r_or ?_ | refine r_not ?_ | refine r_ife ?_ | refine r_chain ?_ | refine r_isi ?_ | refine r_lam ?_ | refine r_back ?_ | refine r_listR1 ?_ | refine r_callK ?_ | refine r_mt ?_ | refine r_alloc ?_ | refine r_sliceA ?_ | refine r_sliceL ?_ | refine r_no ?_ | refine r_part ?_ | refine r_scope ?_ | refine t_nil ?_ | refine t_cons ?_ | refine q_seq ?_ | refine q_range ?_ | refine q_range2 ?_ | refine q_rangeD ?_ | refine q_enumA ?_ | refine nx_nx ?_ | refine nx_ret ?_ | refine nx_exc ?_ | refine nx_brk ?_ | refine nx_ct ?_ | refine bl_bl ?_ | refine cs_not ?_ | refine cs_t ?_ | refine cs_f ?_ | refine r_bind ?_ | refine r_nox ?_ | refine t_sub ?_ | refine s_retL ?_ | refine o1_sub ?_ | refine o1_add ?_ | refine o1_lt ?_ | refine o1_le ?_ | refine o1_gt ?_ | refine o1_ge ?_ | refine o1_neg ?_ | refine o1_eq ?_ | refine o1_ne ?_ | refine b1_abs ?_ | refine b1_int ?_ | refine b1_min2 ?_ | refine b1_max2 ?_ | refine o1_eqA ?_ | refine o1_neA ?_ | refine o1_eqS ?_ | refine o1_isN ?_ | refine o1_notN ?_ | refine x_bl ?_ | refine x_int ?_ | refine x_str ?_ | refine x_non ?_ | refine x_nx ?_ | refine x_tup ?_ | refine x_lst ?_ | refine sl_tup ?_ | refine sl_lst ?_ | refine sl_fz ?_ | refine sL_lst ?_ | refine sL_fz ?_)
  | (with_reducible first | refine r_tup ?_ | refine r_lst ?_ | refine o1_addT ?_ | refine o1_addL ?_ | refine b1_len ?_ | refine b1_tuple ?_ | refine b1_list ?_ | refine o1_cat ?_ | refine m1_append ?_ | refine o_pow10_1 ?_ | refine o_pow10_2 ?_ | refine o_pow10_3 ?_ | refine o_pow10_4 ?_ | refine o_pow10_5 ?_ | refine o_pow10_6 ?_ | refine o_pow10_7 ?_ | refine o_pow10_8 ?_ | refine o_pow10_9 ?_ | refine o_pow10_10 ?_ | refine o_pow10_11 ?_ | refine o_pow10_12 ?_ | refine o_pow10_13 ?_ | refine o_pow10_14 ?_ | refine o_pow10_15 ?_ | refine o_pow10_16 ?_ | refine o_pow10_17 ?_ | refine o_pow10_18 ?_ | refine o_pow10_20 ?_ | refine o_pow10_30 ?_)
  | ((with_reducible refine o1_ix ?_); refine ⟨_, _, by first | rfl | assumption, by first | rfl | exact atI_zero, ?_⟩)
  | ((with_reducible refine o1_mul ?_ ?_); first | omega | decide | fail)
  | ((with_reducible refine o1_div ?_ ?_); first | omega | decide | fail)
  | ((with_reducible refine o1_mod ?_ ?_); first | omega | decide | fail)
  | ((with_reducible refine b1_divmod ?_ ?_); first | omega | decide | fail)
  | ((with_reducible refine t_tup ?_ ?_); rfl)
  | ((with_reducible refine r_callV ?_ ?_); rfl)
  | (with_reducible refine cs_dec (fun _ => ?_) (fun _ => ?_))
  | (with_reducible refine cs_beq (fun _ => ?_) (fun _ => ?_))
  | ((with_reducible refine cs_te ?_ ?_); rfl)
  | ((with_reducible refine cs_fe ?_ ?_); rfl)
  | ((with_reducible refine put0 (by assumption) ?_ fun _ => ?_); first | rfl | fail)
  | ((with_reducible refine put1 (by assumption) ?_ fun _ => ?_); first | rfl | fail)
  | ((with_reducible refine put2 (by assumption) ?_ fun _ => ?_); first | rfl | fail)
  | ((fail_if_success (with_reducible refine pst_id ?_)); first
    | exact take_same
    | (with_reducible refine fun (_ : Nat) (_ : Store) (_ : _ = _) (_ : _ = _) (_ : _ = _) => ?_)
    | ((fail_if_success (with_reducible refine And.intro ?_ ?_)); refine ⟨_, by first | rfl | assumption, ?_⟩)
    | ((fail_if_success (with_reducible refine And.intro ?_ ?_)); refine ⟨_, _, rfl, ?_⟩)
    | ((fail_if_success (with_reducible refine And.intro ?_ ?_)); refine ⟨_, _, by first | rfl | assumption, rfl, ?_⟩)
    | ((with_reducible refine And.intro ?_ ?_); first | exact rfl | omega | (simp only [List.length_map]; omega) | exact ⟨rfl, rfl⟩ | exact Nat.le_of_ble_eq_true rfl | fail))
  | ((with_reducible refine dip_go (by assumption) ?_ ?_); (first | omega | (simp only [List.length_map]; omega) | fail); intro _ _ _ _ _ _)
  | ((with_reducible refine one_go (1) (24) (by assumption) ?_ ?_ ?_); (exact ⟨Nat.zero_lt_succ _, Nat.le_of_ble_eq_true rfl⟩); (focus ((repeat (first | exact bnd_nil | refine bnd_cons (by omega) ?_)); (all_goals fail))); intro _ _ _ _ _ _)
  | ((with_reducible refine one_go (2) (999) (by assumption) ?_ ?_ ?_); (exact ⟨Nat.zero_lt_succ _, Nat.le_of_ble_eq_true rfl⟩); (focus ((repeat (first | exact bnd_nil | refine bnd_cons (by omega) ?_)); (all_goals fail))); intro _ _ _ _ _ _))
local macro_rules | `(tactic| done) => `(tactic| first
  | (with_reducible first | refine v0 ?_ | refine v1 ?_ | refine v2 ?_ | refine v3 ?_ | refine v4 ?_ | refine v5 ?_ | refine v6 ?_ | refine v7 ?_ | refine v8 ?_ | refine v9 ?_ | refine v10 ?_ | refine v11 ?_ | refine v12 ?_ | refine v13 ?_ | refine tn0 ?_ | refine tn1 ?_ | refine tn2 ?_ | refine tn3 ?_ | refine tn4 ?_ | refine tn5 ?_ | refine tn6 ?_ | refine tn7 ?_ | refine tn8 ?_ | refine tn9 ?_ | refine tn10 ?_ | refine tn11 ?_ | refine tn12 ?_ | refine tn13 ?_ | refine ss0 ?_ | refine ss1 ?_ | refine ss2 ?_ | refine ss3 ?_ | refine ss4 ?_ | refine ss5 ?_ | refine ss6 ?_ | refine ss7 ?_ | refine ss8 ?_ | refine ss9 ?_ | refine ss10 ?_ | refine ss11 ?_ | refine ss12 ?_ | refine ss13 ?_)
  | (with_reducible first | refine r_k ?_ | refine r_bin ?_ | refine r_cons ?_ | refine r_nil ?_ | refine r_call ?_ | refine r_blt ?_ | refine r_un ?_ | refine r_ok ?_ | refine s_seq ?_ | refine s_ret ?_ | refine s_if ?_ | refine s_expr ?_ | refine s_asg ?_ | refine s_par ?_ | refine s_nil ?_ | refine s_brk ?_ | refine s_ct ?_ | refine s_for ?_ | refine bool_t ?_ | refine bool_and ?_ | refine bool_or ?_ | refine bool_not ?_ | refine bool_yes ?_ | refine r_and ?_ | refine r_or ?_ | refine r_not ?_ | refine r_ife ?_ | refine r_chain ?_ | refine r_isi ?_ | refine r_lam ?_ | refine r_back ?_ | refine r_listR1 ?_ | refine r_callK ?_ | refine r_mt ?_ | refine r_alloc ?_ | refine r_sliceA ?_ | refine r_sliceL ?_ | refine r_no ?_ | refine r_part ?_ | refine r_scope ?_ | refine t_nil ?_ | refine t_cons ?_ | refine q_seq ?_ | refine q_range ?_ | refine q_range2 ?_ | refine q_rangeD ?_ | refine q_enumA ?_ | refine nx_nx ?_ | refine nx_ret ?_ | refine nx_exc ?_ | refine nx_brk ?_ | refine nx_ct ?_ | refine bl_bl ?_ | refine cs_not ?_ | refine cs_t ?_ | refine cs_f ?_ | refine r_bind ?_ | refine r_nox ?_ | refine t_sub ?_ | refine s_retL ?_ | refine o1_sub ?_ | refine o1_add ?_ | refine o1_lt ?_ | refine o1_le ?_ | refine o1_gt ?_ | refine o1_ge ?_ | refine o1_neg ?_ | refine o1_eq ?_ | refine o1_ne ?_ | refine b1_abs ?_ | refine b1_int ?_ | refine b1_min2 ?_ | refine b1_max2 ?_ | refine o1_eqA ?_ | refine o1_neA ?_ | refine o1_eqS ?_ | refine o1_isN ?_ | refine o1_notN ?_ | refine x_bl ?_ | refine x_int ?_ | refine x_str ?_ | refine x_non ?_ | refine x_nx ?_ | refine x_tup ?_ | refine x_lst ?_ | refine sl_tup ?_ | refine sl_lst ?_ | refine sl_fz ?_ | refine sL_lst ?_ | refine sL_fz ?_)
  | (with_reducible first | refine r_tup ?_ | refine r_lst ?_ | refine o1_addT ?_ | refine o1_addL ?_ | refine b1_len ?_ | refine b1_tuple ?_ | refine b1_list ?_ | refine o1_cat ?_ | refine m1_append ?_ | refine o_pow10_1 ?_ | refine o_pow10_2 ?_ | refine o_pow10_3 ?_ | refine o_pow10_4 ?_ | refine o_pow10_5 ?_ | refine o_pow10_6 ?_ | refine o_pow10_7 ?_ | refine o_pow10_8 ?_ | refine o_pow10_9 ?_ | refine o_pow10_10 ?_ | refine o_pow10_11 ?_ | refine o_pow10_12 ?_ | refine o_pow10_13 ?_ | refine o_pow10_14 ?_ | refine o_pow10_15 ?_ | refine o_pow10_16 ?_ | refine o_pow10_17 ?_ | refine o_pow10_18 ?_ | refine o_pow10_20 ?_ | refine o_pow10_30 ?_)
  | ((with_reducible refine o1_ix ?_); refine ⟨_, _, by first | rfl | assumption, by first | rfl | exact atI_zero, ?_⟩)
  | ((with_reducible refine o1_mul ?_ ?_); first | omega | decide | fail)
  | ((with_reducible refine o1_div ?_ ?_); first | omega | decide | fail)
  | ((with_reducible refine o1_mod ?_ ?_); first | omega | decide | fail)
  | ((with_reducible refine b1_divmod ?_ ?_); first | omega | decide | fail)
  | ((with_reducible refine t_tup ?_ ?_); rfl)
  | ((with_reducible refine r_callV ?_ ?_); rfl)
  | (with_reducible refine cs_dec (fun _ => ?_) (fun _ => ?_))
  | (with_reducible refine cs_beq (fun _ => ?_) (fun _ => ?_))
  | ((with_reducible refine cs_te ?_ ?_); rfl)
  | ((with_reducible refine cs_fe ?_ ?_); rfl)
  | ((with_reducible refine put0 (by assumption) ?_ fun _ => ?_); first | rfl | fail)
  | ((with_reducible refine put1 (by assumption) ?_ fun _ => ?_); first | rfl | fail)
  | ((with_reducible refine put2 (by assumption) ?_ fun _ => ?_); first | rfl | fail)
  | ((fail_if_success (with_reducible refine pst_id ?_)); first
    | exact take_same
    | (with_reducible refine fun (_ : Nat) (_ : Store) (_ : _ = _) (_ : _ = _) (_ : _ = _) => ?_)
    | ((fail_if_success (with_reducible refine And.intro ?_ ?_)); refine ⟨_, by first | rfl | assumption, ?_⟩)
    | ((fail_if_success (with_reducible refine And.intro ?_ ?_)); refine ⟨_, _, rfl, ?_⟩)
    | ((fail_if_success (with_reducible refine And.intro ?_ ?_)); refine ⟨_, _, by first | rfl | assumption, rfl, ?_⟩)
    | ((with_reducible refine And.intro ?_ ?_); first | exact rfl | omega | (simp only [List.length_map]; omega) | exact ⟨rfl, rfl⟩ | exact Nat.le_of_ble_eq_true rfl | fail))
  | ((with_reducible refine dip_go (by assumption) ?_ ?_); (first | omega | (simp only [List.length_map]; omega) | fail); intro _ _ _ _ _ _)
  | ((with_reducible refine one_go (1) (24) (by assumption) ?_ ?_ ?_); (exact ⟨Nat.zero_lt_succ _, Nat.le_of_ble_eq_true rfl⟩); (focus ((repeat (first | exact bnd_nil | refine bnd_cons (by omega) ?_)); (all_goals fail))); intro _ _ _ _ _ _)
  | ((with_reducible refine one_go (2) (999) (by assumption) ?_ ?_ ?_); (exact ⟨Nat.zero_lt_succ _, Nat.le_of_ble_eq_true rfl⟩); (focus ((repeat (first | exact bnd_nil | refine bnd_cons (by omega) ?_)); (all_goals fail))); intro _ _ _ _ _ _)
  | ((fail_if_success (with_reducible refine pst_id ?_)); first | (with_reducible rfl) | assumption | contradiction))

theorem nat_int {l : List Nat} : D.tup (l.map nD) = tI (l.map Int.ofNat) := by rw [map_nD]
theorem left_nodup (R : List (List Int)) (cs : List Int) : ((leftR R cs).map Int.ofNat).Nodup := by
  have h1 : (leftR R cs).Nodup := List.Nodup.sublist (turnsR_sub R cs _ _) List.nodup_range
  exact h1.map (f := Int.ofNat) fun a b h e => h (by injection e)
theorem per_cls {T : List (List Int)} {cl : List Int} {m : Nat} (h : ClsOk T m cl) {o : List Nat} (ho : o.Perm (List.range m)) : ClsOk T m (perD cl o) := by
  have hl := h.len
  refine ⟨by unfold perD; rw [List.length_map, ho.length_eq, List.length_range], fun x hx => ?_⟩
  obtain ⟨k, hk, rfl⟩ := List.mem_map.mp hx
  have hk2 := List.mem_range.mp (ho.subset hk)
  exact h.ok _ (by
    rw [List.getD_eq_getElem?_getD, List.getElem?_eq_getElem (show k < cl.length by omega)]
    exact List.getElem_mem _)
def toldD (R : List (List Int)) (cs : List Int) : D := .tup [.tup ((leftR R cs).map nD), tI (pricesR R (leftR R cs))]
theorem ints_ro {ns : List Int} (h : InB 0 999 ns) (hl : ns.length ≤ 24) : RP 1 1008 (tI ns) := by
  have e : RP 1 ((41 + 1) * (ns.map D.int).length) (tI ns) := ro_tup fun d hd => by
    obtain ⟨v, hv, rfl⟩ := List.mem_map.mp hd
    have := h v hv
    exact ro_int (by omega)
  rw [List.length_map] at e
  exact e.mono (Nat.le_refl _) (by omega)
theorem told_rp {T : List (List Int)} {n : Nat} {cs cl : List Int} (hT : TabsOk T n) (hc : CeilOk n cs) (h : ClsOk T cs.length cl) (hn : n ≤ 24) : RP 2 2018 (toldD (rowsOf T cl) cs) := by
  obtain ⟨hr1, hr2⟩ := rowsOf_ok hT h
  have hle := hc.le
  have hll := leftR_len (rowsOf T cl) cs
  have r1 : RP 1 1008 (.tup ((leftR (rowsOf T cl) cs).map nD)) := by
    rw [map_nD]
    refine ints_ro (fun x hx => ?_) (by rw [List.length_map]; omega)
    obtain ⟨k, hk, rfl⟩ := List.mem_map.mp hx
    have := leftR_lt hk
    show 0 ≤ (k : Int) ∧ (k : Int) ≤ 999
    omega
  have r2 : RP 1 1008 (tI (pricesR (rowsOf T cl) (leftR (rowsOf T cl) cs))) := by
    refine ints_ro (fun x hx => ?_) (by unfold pricesR; rw [List.length_map]; omega)
    unfold pricesR at hx
    obtain ⟨k, hk, rfl⟩ := List.mem_map.mp hx
    have hk2 := leftR_lt hk
    have hrk := hr2 _ (rowAt_mem (T := rowsOf T cl) (k := k) (by omega))
    have hpos := List.length_pos_of_mem hk
    have := getN_in (lo := 0) (hi := 998) hrk.1.ok (k := (leftR (rowsOf T cl) cs).length - 1) (by omega)
    omega
  exact (ro_tup (ros_cons r1 (ros_cons r2 ros_nil))).mono (Nat.le_refl _) (by show 1009 * 2 ≤ 2018; decide)
theorem tab_last {T : List (List Int)} (h : 1 ≤ T.length) : atI (T.map tI) (-1) = some (tI (rowAt T (T.length - 1))) := by
  rw [atI_end, List.getLast?_map, List.getLast?_eq_getElem?]
  unfold rowAt
  rw [List.getD_eq_getElem?_getD, List.getElem?_eq_getElem (show T.length - 1 < T.length by omega)]
  rfl
theorem ix_tabL {T : List (List Int)} {x : D} {S : Store} {Q : D → Store → Prop} {E : XV → Store → Prop} (hx : asS x S = some (T.map tI)) (h0 : 1 ≤ T.length) (h : Q (tI (rowAt T (T.length - 1))) S) : Pst (oIx x (.int (-1)) S) Q E := o1_ix ⟨_, _, hx, tab_last h0, h⟩
theorem tabs_rep {t : List Int} (ht : TabOk t) {m : Nat} (h : 1 ≤ m ∧ m ≤ 4) : TabsOk (List.replicate m t) t.length := ⟨by rw [List.length_replicate]; exact h.1, by rw [List.length_replicate]; exact h.2, fun u hu => by rw [(List.mem_replicate.mp hu).2]; exact ⟨ht, rfl⟩⟩
theorem rowAt_rep {t : List Int} {m k : Nat} (h : k < m) : rowAt (List.replicate m t) k = t := by
  unfold rowAt
  rw [List.getD_eq_getElem?_getD, List.getElem?_replicate_of_lt h]; rfl
theorem rows_rep {t : List Int} {m q : Nat} {cl : List Int} (h : ClsOk (List.replicate m t) q cl) : ∀ k, k < q → rowAt (rowsOf (List.replicate m t) cl) k = t := fun k hk => by
  have hl := h.len
  rw [rowAt_rows (by omega)]
  have hc := h.ok (cl.getD k 0) (by
    rw [List.getD_eq_getElem?_getD, List.getElem?_eq_getElem (show k < cl.length by omega)]
    exact List.getElem_mem _)
  rw [List.length_replicate] at hc
  exact rowAt_rep (by omega)
theorem prices_rep {R : List (List Int)} {cs t : List Int} (h : ∀ k, k < cs.length → rowAt R k = t) : tI (pricesR R (leftL t cs)) = .tup (List.replicate (leftL t cs).length (priceD t (leftL t cs))) := by
  have e : pricesR R (leftL t cs) = List.replicate (leftL t cs).length (t.getD ((leftL t cs).length - 1) 0) := by
    unfold pricesR
    refine List.eq_replicate_iff.mpr ⟨by rw [List.length_map], fun x hx => ?_⟩
    obtain ⟨k, hk, rfl⟩ := List.mem_map.mp hx
    rw [h k (leftL_lt hk)]
  rw [e]
  show D.tup ((List.replicate _ _).map D.int) = _
  rw [List.map_replicate]
  unfold priceD
  by_cases h0 : leftL t cs = []
  · rw [h0]; rfl
  · rw [if_neg h0]
theorem ix_nD {o : List Nat} {x : D} {k : Nat} {S : Store} {Q : D → Store → Prop} {E : XV → Store → Prop} (hx : asS x S = some (o.map nD)) (hk : k < o.length) (h : Q (nD (o.getD k 0)) S) : Pst (oIx x (.int (k : Int)) S) Q E := by
  refine o1_ix ⟨_, nD (o.getD k 0), hx, ?_, h⟩
  rw [atI_nat _ (by omega), Int.toNat_natCast, List.getElem?_map, List.getD_eq_getElem?_getD, List.getElem?_eq_getElem hk]; rfl
theorem turned_go {n : Nat} {S : Store} {Q : D → Store → Prop} {E : XV → Store → Prop} (h : Well n S) {T : List (List Int)} {m : Nat} {cs cl : List Int} (hT : TabsOk T m) (hm : m ≤ 24) (hc : CeilOk m cs) (hcl : ClsOk T cs.length cl) (k : ∀ S', Fr n S S' → Well n S' → Q (.bl true) S') :
    Pst (F__law_turned_right [.loc n, tabsD T, tI cs, tI cl, toldD (rowsOf T cl) cs] S) Q E := by
  have hle := hc.le
  have hll := hcl.len
  unfold F__law_turned_right b__law_turned_right
  refine call_go rfl ?_
  dsimp only [startE, List.map, List.replicate, List.length, List.cons_append, List.nil_append, Nat.reduceAdd, Nat.reduceSub]
  repeat' (first | done | fail)
  rw [List.length_map, Int.toNat_natCast, ranged_nD]
  repeat' (first | done | fail)
  refine Pst.imp (mixed_ok h (many := cs.length) (by omega)) ?_
  intro d S1 hI
  obtain ⟨o, e1, hp, f1⟩ := hI
  subst e1
  have w1 := f1.1
  have hol : o.length = cs.length := by rw [hp.length_eq, List.length_range]
  have hper := per_ok hc hp
  have hpl : (perD cs o).length = cs.length := by unfold perD; rw [List.length_map, hol]
  have hper2 : ClsOk T (perD cs o).length (perD cl o) := by rw [hpl]; exact per_cls hcl hp
  have hrep : reprOk (toldD (rowsOf T (perD cl o)) (perD cs o)) = true := ro_ok (told_rp hT hper hper2 hm) (by decide) (by decide)
  have hlt : ∀ k ∈ o, k < cs.length := fun k hk => List.mem_range.mp (hp.subset hk)
  have hlp := left_perR (R := rowsOf T cl) (R' := rowsOf T (perD cl o)) (cs := cs) (o := o) hp (fun k hk => by rw [rows_per (by rw [hll]; exact hp) k (by omega)])
  have hpp := prices_per (T := T) hll hp
  have hnd := left_nodup (rowsOf T cl) cs
  have eS := fun S => share_by_eq (S := S) hT hper hper2 hm
  have ep : (pricesR (rowsOf T cl) (leftR (rowsOf T cl) cs)).length = (leftR (rowsOf T cl) cs).length := by unfold pricesR; rw [List.length_map]
  have hoget : ∀ k, k < o.length → o[k]? = some (o.getD k 0) := fun k hk => by
    rw [List.getD_eq_getElem?_getD, List.getElem?_eq_getElem hk]; rfl
  have hg : pricesR (rowsOf T cl) (leftR (rowsOf T cl) cs) = (leftR (rowsOf T cl) cs).map fun j => (rowAt (rowsOf T cl) j).getD ((leftR (rowsOf T cl) cs).length - 1) 0 := rfl
  unfold toldD
  rw [hlp] at eS
  rw [hpp] at eS
  rw [toldD, hlp, hpp] at hrep
  have hmem : ∀ k ∈ inO o (leftR (rowsOf T cl) cs), k < o.length ∧ o.getD k 0 ∈ leftR (rowsOf T cl) cs := fun k hk => ⟨List.mem_range.mp (List.mem_filter.mp hk).1, of_decide_eq_true (List.mem_filter.mp hk).2⟩
  have hil : (inO o (leftR (rowsOf T cl) cs)).length ≤ 24 := by
    unfold inO
    have := List.length_filter_le (fun k => decide (o.getD k 0 ∈ leftR (rowsOf T cl) cs)) (List.range o.length)
    rw [List.length_range] at this
    omega
  have hini : inO o (leftR (rowsOf T cl) cs) = (List.range o.length).filter (memB o (leftR (rowsOf T cl) cs)) := rfl
  generalize rowsOf T (perD cl o) = R' at *
  generalize rowsOf T cl = R at *
  have hlz := fun j (hj : j ∈ leftR R cs) => look_zip (g := fun j => (rowAt R j).getD ((leftR R cs).length - 1) 0) hj
  rw [← hg] at hlz
  generalize hL : leftR R cs = L at *
  generalize hPr : pricesR R L = Pr at *
  repeat' (first | done | fail)
  with_reducible refine r_dz ?_
  repeat' (first | done | fail)
  refine ⟨L.map Int.ofNat, Pr, by rw [map_nD], ⟨by rw [List.length_map]; exact ep.symm, hnd⟩, ?_⟩
  repeat' (first | done | fail)
  with_reducible refine r_comp ?_
  repeat' (first | done | fail)
  rw [List.length_map, Int.toNat_natCast, ranged_nD]
  with_reducible refine comp_filter (so := .items ((List.range o.length).map nD)) (List.range o.length) nD nD (memB o L) rfl (fun _ => rfl) (by rw [List.length_range]; show _ ≤ 1000000; omega) ?_ ?_
  · intro k hk acc
    have hk := List.mem_range.mp hk
    dsimp only [wipeE, List.set, nD]
    repeat' (first | done | fail)
    with_reducible refine ix_nD rfl hk ?_
    repeat' (first | done | fail)
    with_reducible refine r_eq (in_nats (l := L) rfl) ?_
    rw [if_neg (by decide)]
    repeat' (first | done | fail)
    intro _
    repeat' (first | done | fail)
    rfl
  rw [← hini]
  repeat' (first | done | fail)
  with_reducible refine r_comp ?_
  repeat' (first | done | fail)
  with_reducible refine comp_filter (so := .items ((inO o L).map nD)) (inO o L) nD (fun k => .int ((rowAt R (o.getD k 0)).getD (L.length - 1) 0)) (fun _ => true) rfl (fun _ => rfl) (by show _ ≤ 1000000; omega) ?_ ?_
  · intro k hk acc
    obtain ⟨hk1, hk2⟩ := hmem k hk
    dsimp only [wipeE, List.set, nD]
    repeat' (first | done | fail)
    intro _
    repeat' (first | done | fail)
    with_reducible refine ix_nD rfl hk1 ?_
    refine o1_dg (hlz _ hk2) ?_
    exact ⟨rfl, rfl, rfl⟩
  have ef : (inO o L).filter (fun _ => true) = inO o L := List.filter_eq_self.mpr fun _ _ => rfl
  have em : (inO o L).map (fun k => D.int ((rowAt R (o.getD k 0)).getD (L.length - 1) 0)) = ((inO o L).map fun k => (rowAt R (o.getD k 0)).getD (L.length - 1) 0).map D.int := by rw [List.map_map]; rfl
  rw [ef, em]
  clear ef em
  repeat' (first | done | fail)
  have ef : o.filter (fun _ => true) = o := List.filter_eq_self.mpr fun _ _ => rfl
  have em1 : o.map (fun k => D.int (cs.getD k 0)) = (perD cs o).map D.int := by unfold perD; rw [List.map_map]; rfl
  have em2 : o.map (fun k => D.int (cl.getD k 0)) = (perD cl o).map D.int := by unfold perD; rw [List.map_map]; rfl
  with_reducible refine r_comp ?_
  repeat' (first | done | fail)
  with_reducible refine comp_filter (so := .items (o.map nD)) o nD (fun k => .int (cs.getD k 0)) (fun _ => true) rfl (fun _ => rfl) (by show _ ≤ 1000000; omega) ?_ ?_
  · intro k hk acc
    have hk := hlt k hk
    dsimp only [wipeE, List.set, nD]
    repeat' (first | done | fail)
    intro _
    repeat' (first | done | fail)
    with_reducible refine ix_int (ns := cs) rfl (by omega) ?_
    rw [Int.toNat_natCast]
    exact ⟨rfl, rfl, rfl⟩
  rw [ef, em1]
  repeat' (first | done | fail)
  with_reducible refine r_comp ?_
  repeat' (first | done | fail)
  with_reducible refine comp_filter (so := .items (o.map nD)) o nD (fun k => .int (cl.getD k 0)) (fun _ => true) rfl (fun _ => rfl) (by show _ ≤ 1000000; omega) ?_ ?_
  · intro k hk acc
    have hk := hlt k hk
    dsimp only [wipeE, List.set, nD]
    repeat' (first | done | fail)
    intro _
    repeat' (first | done | fail)
    with_reducible refine ix_int (ns := cl) rfl (by omega) ?_
    rw [Int.toNat_natCast]
    exact ⟨rfl, rfl, rfl⟩
  rw [ef, em2]
  repeat' (first | done | fail)
  with_reducible refine r_eq (eS _) ?_
  repeat' (first | done | fail)
  with_reducible refine r_eq (repr_eq hrep) ?_
  repeat' (first | done | fail)
  with_reducible refine r_eq (repr_eq hrep) ?_
  repeat' (first | done | fail)
  rw [f1.take, beq_self_eq_true]
  exact k _ f1 w1
theorem right_ok {n : Nat} {S : Store} (h : Well n S) : Pst (F__law_right [.loc n] S) (fun d S' => d = .bl true ∧ Fr n S S') NoE := by
  unfold F__law_right b__law_right
  with_reducible refine call_go rfl ?_
  dsimp only [startE, List.map, List.replicate, List.length, List.cons_append, List.nil_append, Nat.reduceAdd, Nat.reduceSub]
  repeat' (first | done | fail)
  refine for_of (fun i ρ S' => ∃ x1 x2 x3 x4 x5 x6 x7 x8 x9 x10 x11 x12 x13, ρ = [some (.loc n), x1, x2, x3, x4, x5, x6, x7, x8, x9, x10, x11, x12, x13] ∧ Fr n S S') ⟨_, _, _, _, _, _, _, _, _, _, _, _, _, rfl, Fr.refl h⟩ (fun _ _ _ _ => rfl) ?_ ?_
  · intro i d ρ S1 hd hI
    obtain ⟨x1, x2, x3, x4, x5, x6, x7, x8, x9, x10, x11, x12, x13, e1, f1⟩ := hI
    subst e1
    have w1 := f1.1
    repeat' (first | done | fail)
    rename_i size S2 s0 s1 f2 w2 wide S3 d0 d1 f3 w3
    have f03 := (f1.trans f2).trans f3
    with_reducible refine r_comp ?_
    repeat' (first | done | fail)
    rename_i m S4 m0 m1 f4 w4
    have f04 := f03.trans f4
    refine comp_inv (so := .items (ranged 0 (1 + m).toNat)) (fun i acc S5 => ∃ T, acc = T.map tI ∧ T.length = i ∧ (∀ t ∈ T, TabOk t ∧ t.length = size.toNat) ∧ Fr n S S5) rfl ?_ rfl ?_ ⟨[], rfl, rfl, (fun t h => by cases h), f04⟩ ?_ ?_
    · rintro k acc S5 ⟨T, rfl, hl, hT, hf⟩
      exact ⟨by rw [hf.2.1, f04.2.1], rfl⟩
    · rw [ranged_len]; show _ ≤ 1000000; omega
    · intro k d acc S5 hd hI
      obtain ⟨T, e3, hl, hT, hf⟩ := hI
      subst e3
      have w5 := hf.1.more (T.map tI)
      dsimp only [wipeE, List.set]
      repeat' (first | done | fail)
      refine ⟨fun _ => ?_, fun hb => by cases hb⟩
      repeat' (first | done | fail)
      refine Pst.imp (table_ok w5 (size := size) (wide := wide) (by omega) (by omega)) ?_
      intro y S6 hy
      obtain ⟨t, e6, tl, tb, f6⟩ := hy
      subst e6
      obtain ⟨S7, e7, f7⟩ := Fr.back hf.1 f6
      exact ⟨S7, e7, pures_mapI, T ++ [t], by rw [List.map_append]; rfl, by rw [List.length_append, hl]; rfl, (fun u hu => by
        rcases List.mem_append.mp hu with hu | hu
        · exact hT u hu
        · rw [List.mem_singleton] at hu; subst hu; exact ⟨⟨by omega, by omega, tb⟩, tl⟩), hf.trans f7⟩
    intro acc S5 hI
    with_reducible refine Exists.elim hI fun T hI => ?_
    have e3 := hI.1
    have hl := hI.2.1
    have hTb := hI.2.2.1
    have f5 := hI.2.2.2
    clear hI
    subst e3
    rw [ranged_len] at hl
    have hT : TabsOk T size.toNat := ⟨by omega, by omega, hTb⟩
    have w5 := f5.1
    have l1 := hT.l1
    have l4 := hT.l4
    have hm : 1 ≤ size.toNat ∧ size.toNat ≤ 24 := by omega
    have hsz : ((size.toNat : Nat) : Int) = size := by omega
    clear f1 f2 f3 f4 w1 w2 w3 w4 hTb f03 f04
    have h0 := hT.ok _ (rowAt_mem (T := T) (k := 0) (by omega))
    have hL := hT.ok _ (rowAt_mem (T := T) (k := T.length - 1) (by omega))
    have hnb : InB 0 999 (rowAt T 0 ++ rowAt T (T.length - 1)) := fun v hv => by
      rcases List.mem_append.mp hv with hv | hv
      · have := h0.1.ok v hv; omega
      · have := hL.1.ok v hv; omega
    have hnl : (rowAt T 0 ++ rowAt T (T.length - 1)).length = size.toNat + size.toNat := by rw [List.length_append, h0.2, hL.2]
    have eapp : (rowAt T 0).map D.int ++ (rowAt T (T.length - 1)).map D.int = (rowAt T 0 ++ rowAt T (T.length - 1)).map D.int := by rw [List.map_append]
    repeat' (first | done | fail)
    with_reducible refine ix_tab0 (R := T) rfl (by omega) ?_
    repeat' (first | done | fail)
    with_reducible refine ix_tabL (T := T) rfl (by omega) ?_
    repeat' (first | done | fail)
    refine ⟨by rw [List.length_map, List.length_map]; show _ ≤ 1000000; omega, ?_⟩
    rw [eapp]
    repeat' (first | done | fail)
    refine Pst.imp (ceilings_ok w5 (ns := rowAt T 0 ++ rowAt T (T.length - 1)) (by omega) hnb (by omega)) ?_
    intro d6 S6 h6
    obtain ⟨cs, e6, c1, c2, hbc, f6⟩ := h6
    subst e6
    have w6 := f6.1
    have hc : CeilOk size.toNat cs := ⟨c1, by omega, hbc⟩
    have f06 := f5.trans f6
    repeat' (first | done | fail)
    with_reducible refine r_comp ?_
    repeat' (first | done | fail)
    refine comp_inv (so := .items (cs.map D.int)) (fun i acc S7 => ∃ xs, acc = xs.map D.int ∧ xs.length = i ∧ InB 0 ((T.length : Int) - 1) xs ∧ Fr n S S7) rfl ?_ rfl ?_ ⟨[], rfl, rfl, InB.nil, f06⟩ ?_ ?_
    · rintro i acc S7 ⟨xs, rfl, hl, hb, hf⟩
      exact ⟨by rw [hf.2.1, f06.2.1], rfl⟩
    · rw [List.length_map]; show _ ≤ 1000000; omega
    · intro j d acc S7 hd hI
      obtain ⟨xs, e3, hl, hb, hf3⟩ := hI
      subst e3
      obtain ⟨c, hcm, rfl⟩ := List.mem_map.mp (List.mem_of_getElem? hd)
      have w7 := hf3.1.more (xs.map D.int)
      dsimp only [wipeE, List.set]
      repeat' (first | done | fail)
      refine ⟨fun _ => ?_, fun hb => by cases hb⟩
      repeat' (first | done | fail)
      rename_i r S8 r0 r1 f8 w8
      rw [List.length_map] at r1
      obtain ⟨S9, e9, f9⟩ := Fr.back hf3.1 f8
      exact ⟨S9, e9, rfl, xs ++ [r], by rw [List.map_append]; rfl, by rw [List.length_append, hl]; rfl, hb.add ⟨r0, by omega⟩, hf3.trans f9⟩
    intro acc S7 hI
    with_reducible refine Exists.elim hI fun cl hI => ?_
    have e3 := hI.1
    have hl2 := hI.2.1
    have hcb := hI.2.2.1
    have f7 := hI.2.2.2
    clear hI
    subst e3
    rw [List.length_map] at hl2
    have hcls : ClsOk T cs.length cl := ⟨hl2, fun c hc => by have := hcb c hc; omega⟩
    have w7 := f7.1
    clear hsz
    generalize size.toNat = m at *
    have eS : ∀ S, F_share_by [tabsD T, tI cs, tI cl] S = some (.ok (toldD (rowsOf T cl) cs), S) := fun S => share_by_eq hT hc hcls hm.2
    have eO : ∀ S, F__law_shared_by [tabsD T, tI cs, tI cl] S = some (.ok (toldD (rowsOf T cl) cs), S) := fun S => law_shared_by_eq hT hc hcls hm.2
    have hrp := told_rp hT hc hcls hm.2
    have hro : reprOk (.lst [toldD (rowsOf T cl) cs, toldD (rowsOf T cl) cs]) = true := ro_ok (ro_lst (ros_cons hrp (ros_cons hrp ros_nil))) (by decide) (by show 2019 * 2 ≤ 700000; decide)
    repeat' (first | done | fail)
    with_reducible refine r_eq (eO _) ?_
    repeat' (first | done | fail)
    with_reducible refine r_eq (eS _) ?_
    repeat' (first | done | fail)
    rw [show kn0_g [] [tI cl, tI cs, tabsD T] = [tabsD T, tI cs, tI cl] from rfl]
    with_reducible refine r_eq (eS _) ?_
    repeat' (first | done | fail)
    with_reducible refine r_eq (repr_eq hro) ?_
    repeat' (first | done | fail)
    with_reducible refine r_eq (repr_eq hro) ?_
    repeat' (first | done | fail)
    with_reducible refine r_eq ne_same ?_
    repeat' (first | done | fail)
    with_reducible refine turned_go w7 hT hm.2 hc hcls fun S8 f8 w8 => ?_
    have f08 := f7.trans f8
    have hle := hc.le
    have hpay : ∀ k, k < (leftR (rowsOf T cl) cs).length → (leftR (rowsOf T cl) cs).getD k 0 < cs.length ∧ (pricesR (rowsOf T cl) (leftR (rowsOf T cl) cs)).getD k 0 ≤ cs.getD ((leftR (rowsOf T cl) cs).getD k 0) 0 := fun k hk => by
      have e : (leftR (rowsOf T cl) cs)[k]? = some ((leftR (rowsOf T cl) cs).getD k 0) := by
        rw [List.getD_eq_getElem?_getD, List.getElem?_eq_getElem hk]; rfl
      have hmem := List.mem_of_getElem? e
      refine ⟨leftR_lt hmem, ?_⟩
      have e2 : (pricesR (rowsOf T cl) (leftR (rowsOf T cl) cs)).getD k 0 = (rowAt (rowsOf T cl) ((leftR (rowsOf T cl) cs).getD k 0)).getD ((leftR (rowsOf T cl) cs).length - 1) 0 := by
        unfold pricesR
        rw [List.getD_eq_getElem?_getD, List.getElem?_map, e]; rfl
      rw [e2]
      exact leftR_pays hmem
    have hpl : (pricesR (rowsOf T cl) (leftR (rowsOf T cl) cs)).length = (leftR (rowsOf T cl) cs).length := by unfold pricesR; rw [List.length_map]
    have hlle := leftR_len (rowsOf T cl) cs
    clear hro hrp eO eS
    unfold toldD
    generalize pricesR (rowsOf T cl) (leftR (rowsOf T cl) cs) = Pr at *
    generalize leftR (rowsOf T cl) cs = L at *
    repeat' (first | done | fail)
    with_reducible refine r_comp ?_
    repeat' (first | done | fail)
    rw [List.length_map, Int.toNat_natCast, ranged_nD]
    with_reducible refine comp_filter (so := .items ((List.range L.length).map nD)) (List.range L.length) nD nD (fun _ => false) rfl (fun _ => rfl) (by rw [List.length_range]; show _ ≤ 1000000; omega) ?_ ?_
    · intro k hk acc
      have hk := List.mem_range.mp hk
      obtain ⟨hp1, hp2⟩ := hpay k hk
      dsimp only [wipeE, List.set, nD]
      repeat' (first | done | fail)
      with_reducible refine ix_nD rfl hk ?_
      repeat' (first | done | fail)
      refine ix_int (ns := cs) rfl (k := ((L.getD k 0 : Nat) : Int)) ⟨by omega, by omega⟩ ?_
      rw [Int.toNat_natCast]
      repeat' (first | done | fail)
      with_reducible refine ix_int (ns := Pr) rfl ⟨Int.natCast_nonneg k, by omega⟩ ?_
      rw [Int.toNat_natCast]
      repeat' (first | done | fail)
      have hd : decide (cs.getD (L.getD k 0) 0 < Pr.getD k 0) = false := decide_eq_false (by omega)
      exact ⟨hd, fun h => absurd (hd.symm.trans h) (by decide)⟩
    have ef : (List.range L.length).filter (fun _ => false) = [] := List.filter_eq_nil_iff.mpr fun _ _ h => by cases h
    rw [ef, List.map_nil]
    repeat' (first | done | fail)
    have en : oNeA (.lst []) (.lst []) S8 = some (.ok (.bl false), S8) := rfl
    with_reducible refine r_eq en ?_
    clear en ef
    have hc0 : CeilOk (rowAt T 0).length cs := by rw [h0.2]; exact hc
    have hT3 : TabsOk (List.replicate T.length (rowAt T 0)) m := by
      have := tabs_rep h0.1 (m := T.length) ⟨l1, l4⟩
      rw [h0.2] at this
      exact this
    have hcls3 : ClsOk (List.replicate T.length (rowAt T 0)) cs.length cl := ⟨hcls.len, fun c hc => by rw [List.length_replicate]; exact hcls.ok c hc⟩
    have hrep := rows_rep hcls3
    have eS3 : ∀ S, F_share_by [tabsD (List.replicate T.length (rowAt T 0)), tI cs, tI cl] S = some (.ok (toldD (rowsOf (List.replicate T.length (rowAt T 0)) cl) cs), S) := fun S => share_by_eq hT3 hc hcls3 hm.2
    have hro3 : reprOk (toldD (rowsOf (List.replicate T.length (rowAt T 0)) cl) cs) = true := ro_ok (told_rp hT3 hc hcls3 hm.2) (by decide) (by decide)
    have eL := leftR_same (R := rowsOf (List.replicate T.length (rowAt T 0)) cl) (cs := cs) (t := rowAt T 0) hrep
    have ePr := prices_rep (R := rowsOf (List.replicate T.length (rowAt T 0)) cl) (cs := cs) (t := rowAt T 0) hrep
    have eD : toldD (rowsOf (List.replicate T.length (rowAt T 0)) cl) cs = .tup [.tup ((leftL (rowAt T 0) cs).map nD), .tup (List.replicate (leftL (rowAt T 0) cs).length (priceD (rowAt T 0) (leftL (rowAt T 0) cs)))] := by
      unfold toldD
      rw [eL, ePr]
    rw [eD] at eS3 hro3
    clear eL ePr eD hrep
    have hll := leftL_len (rowAt T 0) cs
    have e1 : cutL (T.map tI) none (some 1) = [tI (rowAt T 0)] := by
      rw [cut_to _ (by decide)]
      cases T with
      | nil => simp at l1
      | cons t T => rfl
    repeat' (first | done | fail)
    with_reducible refine ix_tab0 (R := T) rfl (by omega) ?_
    repeat' (first | done | fail)
    with_reducible refine r_eq (share_eq h0.1 hc0) ?_
    unfold shareD
    repeat' (first | done | fail)
    rw [e1, List.length_map]
    with_reducible refine r_eq (mulT_one (by omega)) ?_
    rw [Int.toNat_natCast]
    have em : List.replicate T.length (tI (rowAt T 0)) = (List.replicate T.length (rowAt T 0)).map tI := by rw [List.map_replicate]
    rw [em]
    repeat' (first | done | fail)
    with_reducible refine r_eq (eS3 _) ?_
    repeat' (first | done | fail)
    with_reducible refine r_eq (repr_eq hro3) ?_
    repeat' (first | done | fail)
    rw [List.length_map]
    with_reducible refine r_eq (mulT_one (by omega)) ?_
    rw [Int.toNat_natCast]
    repeat' (first | done | fail)
    with_reducible refine r_eq (repr_eq hro3) ?_
    repeat' (first | done | fail)
    with_reducible refine r_eq ne_same ?_
    repeat' (first | done | fail)
    exact ⟨_, _, _, _, _, _, _, _, _, _, _, _, _, rfl, f08⟩
  · intro ρ S1 hI
    obtain ⟨x1, x2, x3, x4, x5, x6, x7, x8, x9, x10, x11, x12, x13, e1, f1⟩ := hI
    subst e1
    repeat' (first | done | fail)
    rw [f1.take]
    exact f1
end LW
set_option Elab.async false
set_option linter.all false
set_option maxRecDepth 100000
set_option maxHeartbeats 4000000
namespace LW
open PySem L2 Evl PySem.Spec PyProof.Rows PF
local macro_rules | `(tactic| trivial) => `(tactic| first
  | (with_reducible first | refine v0 ?_ | refine v1 ?_ | refine v2 ?_ | refine v3 ?_ | refine v4 ?_ | refine v5 ?_ | refine v6 ?_ | refine v7 ?_ | refine v8 ?_ | refine v9 ?_ | refine v10 ?_ | refine v11 ?_ | refine v12 ?_ | refine v13 ?_ | refine tn0 ?_ | refine tn1 ?_ | refine tn2 ?_ | refine tn3 ?_ | refine tn4 ?_ | refine tn5 ?_ | refine tn6 ?_ | refine tn7 ?_ | refine tn8 ?_ | refine tn9 ?_ | refine tn10 ?_ | refine tn11 ?_ | refine tn12 ?_ | refine tn13 ?_ | refine ss0 ?_ | refine ss1 ?_ | refine ss2 ?_ | refine ss3 ?_ | refine ss4 ?_ | refine ss5 ?_ | refine ss6 ?_ | refine ss7 ?_ | refine ss8 ?_ | refine ss9 ?_ | refine ss10 ?_ | refine ss11 ?_ | refine ss12 ?_ | refine ss13 ?_)
  | (with_reducible first | refine r_k ?_ | refine r_bin ?_ | refine r_cons ?_ | refine r_nil ?_ | refine r_call ?_ | refine r_blt ?_ | refine r_un ?_ | refine r_ok ?_ | refine s_seq ?_ | refine s_ret ?_ | refine s_if ?_ | refine s_expr ?_ | refine s_asg ?_ | refine s_par ?_ | refine s_nil ?_ | refine s_brk ?_ | refine s_ct ?_ | refine s_for ?_ | refine bool_t ?_ | refine bool_and ?_ | refine bool_or ?_ | refine bool_not ?_ | refine bool_yes ?_ | refine r_and ?_ | refine r_or ?_ | refine r_not ?_ | refine r_ife ?_ | refine r_chain ?_ | refine r_isi ?_ | refine r_lam ?_ | refine r_back ?_ | refine r_listR1 ?_ | refine r_callK ?_ | refine r_mt ?_ | refine r_alloc ?_ | refine r_sliceA ?_ | refine r_sliceL ?_ | refine r_no ?_ | refine r_part ?_ | refine r_scope ?_ | refine t_nil ?_ | refine t_cons ?_ | refine q_seq ?_ | refine q_range ?_ | refine q_range2 ?_ | refine q_rangeD ?_ | refine q_enumA ?_ | refine nx_nx ?_ | refine nx_ret ?_ | refine nx_exc ?_ | refine nx_brk ?_ | refine nx_ct ?_ | refine bl_bl ?_ | refine cs_not ?_ | refine cs_t ?_ | refine cs_f ?_ | refine r_bind ?_ | refine r_nox ?_ | refine t_sub ?_ | refine s_retL ?_ | refine o1_sub ?_ | refine o1_add ?_ | refine o1_lt ?_ | refine o1_le ?_ | refine o1_gt ?_ | refine o1_ge ?_ | refine o1_neg ?_ | refine o1_eq ?_ | refine o1_ne ?_ | refine b1_abs ?_ | refine b1_int ?_ | refine b1_min2 ?_ | refine b1_max2 ?_ | refine o1_eqA ?_ | refine o1_neA ?_ | refine o1_eqS ?_ | refine o1_isN ?_ | refine o1_notN ?_ | refine x_bl ?_ | refine x_int ?_ | refine x_str ?_ | refine x_non ?_ | refine x_nx ?_ | refine x_tup ?_ | refine x_lst ?_ | refine sl_tup ?_ | refine sl_lst ?_ | refine sl_fz ?_ | refine sL_lst ?_ | refine sL_fz ?_)
  | (with_reducible first | refine r_tup ?_ | refine r_lst ?_ | refine o1_addT ?_ | refine o1_addL ?_ | refine b1_len ?_ | refine b1_tuple ?_ | refine b1_list ?_ | refine o1_cat ?_ | refine m1_append ?_ | refine o_pow10_1 ?_ | refine o_pow10_2 ?_ | refine o_pow10_3 ?_ | refine o_pow10_4 ?_ | refine o_pow10_5 ?_ | refine o_pow10_6 ?_ | refine o_pow10_7 ?_ | refine o_pow10_8 ?_ | refine o_pow10_9 ?_ | refine o_pow10_10 ?_ | refine o_pow10_11 ?_ | refine o_pow10_12 ?_ | refine o_pow10_13 ?_ | refine o_pow10_14 ?_ | refine o_pow10_15 ?_ | refine o_pow10_16 ?_ | refine o_pow10_17 ?_ | refine o_pow10_18 ?_ | refine o_pow10_20 ?_ | refine o_pow10_30 ?_)
  | ((with_reducible refine o1_ix ?_); refine ⟨_, _, by first | rfl | assumption, by first | rfl | exact atI_zero, ?_⟩)
  | ((with_reducible refine o1_mul ?_ ?_); first | omega | decide | fail)
  | ((with_reducible refine o1_div ?_ ?_); first | omega | decide | fail)
  | ((with_reducible refine o1_mod ?_ ?_); first | omega | decide | fail)
  | ((with_reducible refine b1_divmod ?_ ?_); first | omega | decide | fail)
  | ((with_reducible refine t_tup ?_ ?_); rfl)
  | ((with_reducible refine r_callV ?_ ?_); rfl)
  | (with_reducible refine cs_dec (fun _ => ?_) (fun _ => ?_))
  | (with_reducible refine cs_beq (fun _ => ?_) (fun _ => ?_))
  | ((with_reducible refine cs_te ?_ ?_); rfl)
  | ((with_reducible refine cs_fe ?_ ?_); rfl)
  | ((with_reducible refine put0 (by assumption) ?_ fun _ => ?_); first | rfl | fail)
  | ((with_reducible refine put1 (by assumption) ?_ fun _ => ?_); first | rfl | fail)
  | ((with_reducible refine put2 (by assumption) ?_ fun _ => ?_); first | rfl | fail)
  | ((fail_if_success (with_reducible refine pst_id ?_)); first
    | exact take_same
    | (with_reducible refine fun (_ : Nat) (_ : Store) (_ : _ = _) (_ : _ = _) (_ : _ = _) => ?_)
    | ((fail_if_success (with_reducible refine And.intro ?_ ?_)); refine ⟨_, by first | rfl | assumption, ?_⟩)
    | ((fail_if_success (with_reducible refine And.intro ?_ ?_)); refine ⟨_, _, rfl, ?_⟩)
    | ((fail_if_success (with_reducible refine And.intro ?_ ?_)); refine ⟨_, _, by first | rfl | assumption, rfl, ?_⟩)
    | ((with_reducible refine And.intro ?_ ?_); first | exact rfl | omega | (simp only [List.length_map]; omega) | exact ⟨rfl, rfl⟩ | exact Nat.le_of_ble_eq_true rfl | fail))
  | ((with_reducible refine dip_go (by assumption) ?_ ?_); (first | omega | (simp only [List.length_map]; omega) | fail); intro _ _ _ _ _ _)
  | ((with_reducible refine one_go (0) (1) (by assumption) ?_ ?_ ?_); (exact ⟨Nat.zero_lt_succ _, Nat.le_of_ble_eq_true rfl⟩); (focus ((repeat (first | exact bnd_nil | refine bnd_cons (by omega) ?_)); (all_goals fail))); intro _ _ _ _ _ _))
local macro_rules | `(tactic| done) => `(tactic| first
  | (with_reducible first | refine v0 ?_ | refine v1 ?_ | refine v2 ?_ | refine v3 ?_ | refine v4 ?_ | refine v5 ?_ | refine v6 ?_ | refine v7 ?_ | refine v8 ?_ | refine v9 ?_ | refine v10 ?_ | refine v11 ?_ | refine v12 ?_ | refine v13 ?_ | refine tn0 ?_ | refine tn1 ?_ | refine tn2 ?_ | refine tn3 ?_ | refine tn4 ?_ | refine tn5 ?_ | refine tn6 ?_ | refine tn7 ?_ | refine tn8 ?_ | refine tn9 ?_ | refine tn10 ?_ | refine tn11 ?_ | refine tn12 ?_ | refine tn13 ?_ | refine ss0 ?_ | refine ss1 ?_ | refine ss2 ?_ | refine ss3 ?_ | refine ss4 ?_ | refine ss5 ?_ | refine ss6 ?_ | refine ss7 ?_ | refine ss8 ?_ | refine ss9 ?_ | refine ss10 ?_ | refine ss11 ?_ | refine ss12 ?_ | refine ss13 ?_)
  | (with_reducible first | refine r_k ?_ | refine r_bin ?_ | refine r_cons ?_ | refine r_nil ?_ | refine r_call ?_ | refine r_blt ?_ | refine r_un ?_ | refine r_ok ?_ | refine s_seq ?_ | refine s_ret ?_ | refine s_if ?_ | refine s_expr ?_ | refine s_asg ?_ | refine s_par ?_ | refine s_nil ?_ | refine s_brk ?_ | refine s_ct ?_ | refine s_for ?_ | refine bool_t ?_ | refine bool_and ?_ | refine bool_or ?_ | refine bool_not ?_ | refine bool_yes ?_ | refine r_and ?_ | refine r_or ?_ | refine r_not ?_ | refine r_ife ?_ | refine r_chain ?_ | refine r_isi ?_ | refine r_lam ?_ | refine r_back ?_ | refine r_listR1 ?_ | refine r_callK ?_ | refine r_mt ?_ | refine r_alloc ?_ | refine r_sliceA ?_ | refine r_sliceL ?_ | refine r_no ?_ | refine r_part ?_ | refine r_scope ?_ | refine t_nil ?_ | refine t_cons ?_ | refine q_seq ?_ | refine q_range ?_ | refine q_range2 ?_ | refine q_rangeD ?_ | refine q_enumA ?_ | refine nx_nx ?_ | refine nx_ret ?_ | refine nx_exc ?_ | refine nx_brk ?_ | refine nx_ct ?_ | refine bl_bl ?_ | refine cs_not ?_ | refine cs_t ?_ | refine cs_f ?_ | refine r_bind ?_ | refine r_nox ?_ | refine t_sub ?_ | refine s_retL ?_ | refine o1_sub ?_ | refine o1_add ?_ | refine o1_lt ?_ | refine o1_le ?_ | refine o1_gt ?_ | refine o1_ge ?_ | refine o1_neg ?_ | refine o1_eq ?_ | refine o1_ne ?_ | refine b1_abs ?_ | refine b1_int ?_ | refine b1_min2 ?_ | refine b1_max2 ?_ | refine o1_eqA ?_ | refine o1_neA ?_ | refine o1_eqS ?_ | refine o1_isN ?_ | refine o1_notN ?_ | refine x_bl ?_ | refine x_int ?_ | refine x_str ?_ | refine x_non ?_ | refine x_nx ?_ | refine x_tup ?_ | refine x_lst ?_ | refine sl_tup ?_ | refine sl_lst ?_ | refine sl_fz ?_ | refine sL_lst ?_ | refine sL_fz ?_)
  | (with_reducible first | refine r_tup ?_ | refine r_lst ?_ | refine o1_addT ?_ | refine o1_addL ?_ | refine b1_len ?_ | refine b1_tuple ?_ | refine b1_list ?_ | refine o1_cat ?_ | refine m1_append ?_ | refine o_pow10_1 ?_ | refine o_pow10_2 ?_ | refine o_pow10_3 ?_ | refine o_pow10_4 ?_ | refine o_pow10_5 ?_ | refine o_pow10_6 ?_ | refine o_pow10_7 ?_ | refine o_pow10_8 ?_ | refine o_pow10_9 ?_ | refine o_pow10_10 ?_ | refine o_pow10_11 ?_ | refine o_pow10_12 ?_ | refine o_pow10_13 ?_ | refine o_pow10_14 ?_ | refine o_pow10_15 ?_ | refine o_pow10_16 ?_ | refine o_pow10_17 ?_ | refine o_pow10_18 ?_ | refine o_pow10_20 ?_ | refine o_pow10_30 ?_)
  | ((with_reducible refine o1_ix ?_); refine ⟨_, _, by first | rfl | assumption, by first | rfl | exact atI_zero, ?_⟩)
  | ((with_reducible refine o1_mul ?_ ?_); first | omega | decide | fail)
  | ((with_reducible refine o1_div ?_ ?_); first | omega | decide | fail)
  | ((with_reducible refine o1_mod ?_ ?_); first | omega | decide | fail)
  | ((with_reducible refine b1_divmod ?_ ?_); first | omega | decide | fail)
  | ((with_reducible refine t_tup ?_ ?_); rfl)
  | ((with_reducible refine r_callV ?_ ?_); rfl)
  | (with_reducible refine cs_dec (fun _ => ?_) (fun _ => ?_))
  | (with_reducible refine cs_beq (fun _ => ?_) (fun _ => ?_))
  | ((with_reducible refine cs_te ?_ ?_); rfl)
  | ((with_reducible refine cs_fe ?_ ?_); rfl)
  | ((with_reducible refine put0 (by assumption) ?_ fun _ => ?_); first | rfl | fail)
  | ((with_reducible refine put1 (by assumption) ?_ fun _ => ?_); first | rfl | fail)
  | ((with_reducible refine put2 (by assumption) ?_ fun _ => ?_); first | rfl | fail)
  | ((fail_if_success (with_reducible refine pst_id ?_)); first
    | exact take_same
    | (with_reducible refine fun (_ : Nat) (_ : Store) (_ : _ = _) (_ : _ = _) (_ : _ = _) => ?_)
    | ((fail_if_success (with_reducible refine And.intro ?_ ?_)); refine ⟨_, by first | rfl | assumption, ?_⟩)
    | ((fail_if_success (with_reducible refine And.intro ?_ ?_)); refine ⟨_, _, rfl, ?_⟩)
    | ((fail_if_success (with_reducible refine And.intro ?_ ?_)); refine ⟨_, _, by first | rfl | assumption, rfl, ?_⟩)
    | ((with_reducible refine And.intro ?_ ?_); first | exact rfl | omega | (simp only [List.length_map]; omega) | exact ⟨rfl, rfl⟩ | exact Nat.le_of_ble_eq_true rfl | fail))
  | ((with_reducible refine dip_go (by assumption) ?_ ?_); (first | omega | (simp only [List.length_map]; omega) | fail); intro _ _ _ _ _ _)
  | ((with_reducible refine one_go (0) (1) (by assumption) ?_ ?_ ?_); (exact ⟨Nat.zero_lt_succ _, Nat.le_of_ble_eq_true rfl⟩); (focus ((repeat (first | exact bnd_nil | refine bnd_cons (by omega) ?_)); (all_goals fail))); intro _ _ _ _ _ _)
  | ((fail_if_success (with_reducible refine pst_id ?_)); first | (with_reducible rfl) | assumption | contradiction))

theorem turns_eq {ns : List Int} (hl : ns.length ≤ 63) {S : Store} : F__law_turns [.fz (ns.map D.int)] S = some (.ok (.lst (ranged 0 (max 2 (min (ns.length : Int) 3)).toNat)), S) := by
  unfold F__law_turns b__law_turns
  refine call_eq rfl ?_
  dsimp only [startE, List.map, List.replicate, List.length, List.cons_append, List.nil_append, Nat.reduceAdd, Nat.reduceSub]
  repeat' (first | done | fail)
  rw [List.length_map, ranged_nD]
  exact ⟨pures_nD, rfl, take_same⟩
theorem law_ends (ns : List Int) (hl : ns.length ≤ 63) : F_law [.fz (ns.map D.int)] [] = some (.ok (.bl true), []) := by
  refine Pst.eq.mp ?_
  unfold F_law b_law
  refine call_go rfl ?_
  dsimp only [startE, List.map, List.replicate, List.length, List.cons_append, List.nil_append, Nat.reduceAdd, Nat.reduceSub]
  repeat' (first | done | fail)
  with_reducible refine r_comp ?_
  repeat' (first | done | fail)
  with_reducible refine r_eq (turns_eq hl) ?_
  repeat' (first | done | fail)
  refine comp_inv (fun i acc S1 => S1 = [] ∧ acc = (List.replicate i true).map D.bl) rfl ?_ rfl ?_ ⟨rfl, rfl⟩ ?_ ?_
  · rintro i acc S1 ⟨rfl, rfl⟩
    exact ⟨rfl, rfl⟩
  · rw [ranged_len]; show _ ≤ 1000000; omega
  · rintro i d acc S1 hd ⟨rfl, rfl⟩
    obtain ⟨hi, rfl⟩ := ranged_at hd
    dsimp only [wipeE, List.set]
    repeat' (first | done | fail)
    refine ⟨fun _ => ?_, fun hb => by cases hb⟩
    repeat' (first | done | fail)
    refine Pst.imp (well_ok hl (by omega)) ?_
    rintro _ S2 ⟨⟨g, a, b, rfl⟩, rfl⟩
    repeat' (first | done | fail)
    rename_i m S3 em eS h3
    refine Pst.imp (right_ok (n := m) ⟨g, a, b, h3⟩) ?_
    rintro _ S4 ⟨rfl, f4⟩
    refine ⟨rfl, [], ?_, rfl, rfl, by simp [List.replicate_succ']⟩
    subst em eS
    have hl4 : S4.length = 2 := by rw [f4.2.1]; simp
    have h0 := f4.2.2 0 (by simp)
    match S4, hl4, h0 with
    | [x, y], _, h0 => simp at h0; subst h0; simp
  · rintro acc S1 ⟨rfl, rfl⟩
    repeat' (first | done | fail)
    refine r_eq b_all ?_
    repeat' (first | done | fail)
    simp
end LW
theorem PySem.Challenge.cw_pledgehall_k54_whole_shares_by_classes_holds : PySem.Challenge.rw_pledgehall_k54_whole_shares_by_classes.Holds := by
  exact LW.main_ LW.law_ends
