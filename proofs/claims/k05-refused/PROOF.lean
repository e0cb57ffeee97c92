import PyProof.Rows.All
import Wide.All
import OpenK.AllK
import Wide.FinOn
import HandS.ForMost
import HandS.Evl
import HandS.Exc
import HandS.Lambda
import HandS.IsInst
import HandS.Zip
import HandS.SortInts
import HandS.Defaults
import HandS.CallSlots
import HandS.Wide
import HandS.HeadHook4
import HandS.TupAny
import HandS.RaiseMore
import PyProof.ReprRoads
import HandS.HeadEnd
import HandS.HeadHook1
import HandS.HeadHook2
import HandS.Head0
import HandS.Head1
import HandS.Head2
import HandS.Style
import HandS.Iter
import HandS.Conv
import KE.GoesEnum
import KE.GoesMore
import HandS.More
import HandS.TupSets
import HandS.Property
import HandS.MakeKwOnly
import HandS.HeadNt
import HandS.TryMany
import HandS.ExcInit
import HandS.ExcOwn
import HandS.HeadWalk
import KE.KExcSuper
import HandS.ExcField
import HandS.Codes
import HandS.SetTxt0
import HandS.Strs
import HandS.SetFor
import PySem.Challenge.RW_pledgehall_k05_fees_refused
set_option Elab.async false
set_option linter.all false
set_option maxRecDepth 100000
set_option maxHeartbeats 4000000
/-! PF1: data, stores, outcomes, the relation to the abstract heap. -/
namespace PF
open PySem L2 Evl

/-- a lambda's place in the text -/
structure LamSite where
  params : Arguments
  body : Expr
  scope : Scope
  qual : Str
/-- what is known of a function that was made of a lambda without captures -/
def FunO (f : Addr) (l : LamSite) (pm : Value) (c' : Addr) (ctv : Value) : HO := .ext fun h => h.get? f = some (PySem.W.kla_obj "<lambda>" l.qual l.params l.body l.scope [] pm c' ctv)
/-- what stands at a place of the store: a list, an instance of a class, a dict -/
inductive Kd where | lst | ins (c : Str) | dk
structure MA where
  a : Addr
  k : Kd
/-- data: tuples and lists as values; loc n: the n-th list of the store (it may change); fz: a list that is read alone (the script) -/
inductive D where
  | non | bl (b : Bool) | int (i : Int) | str (s : Str) | tup (xs : List D) | lst (xs : List D) | loc (n : Nat) | fz (xs : List D) | fn (l : LamSite) | tpn (xs : List D) | dct (ks : List (Int × Int)) | ins (c : Str) (ns : List Str) (ds : List D) | dks (ks : List Key) (ds : List D) | obj (c : Str) (n : Nat) | dkc (n : Nat) | gfn (x : Str)

mutual
def D.pure : D → Bool
  | .tup xs => D.pures xs
  | .lst xs => D.pures xs
  | .loc _ => false
  | .fz _ => false
  | .fn _ => false
  | .tpn xs => D.pures xs
  | .dct _ => false
  | .ins _ _ _ => false
  | .dks _ _ => false
  | .obj _ _ => false
  | .dkc _ => false
  | .gfn _ => false
  | .non => true
  | .bl _ => true
  | .int _ => true
  | .str _ => true
def D.pures : List D → Bool
  | [] => true
  | d :: ds => d.pure && D.pures ds
end
theorem D.pures_iff : ∀ {ds : List D}, D.pures ds = true ↔ ∀ d ∈ ds, d.pure = true
  | [] => by simp [D.pures]
  | d :: ds => by simp [D.pures, D.pures_iff (ds := ds)]
theorem D.pures_append {xs ys : List D} : D.pures (xs ++ ys) = (D.pures xs && D.pures ys) := by
  induction xs with
  | nil => simp [D.pures]
  | cons x xs ih => simp [D.pures, ih, Bool.and_assoc]

abbrev Store := List (List D)
/-- an exception: the module's name of its class, what it was made with -/
structure XV where
  cls : Str
  fields : List (Str × D)
abbrev Out (α : Type) := Option (Except XV α × Store)
def bindO {α β : Type} (r : Out α) (k : α → Store → Out β) : Out β :=
  match r with
  | none => none
  | some (.ok a, S) => k a S
  | some (.error x, S) => some (.error x, S)
@[simp] theorem bindO_ok {α β : Type} (a : α) (S : Store) (k : α → Store → Out β) : bindO (some (.ok a, S)) k = k a S := rfl
@[simp] theorem bindO_none {α β : Type} (k : α → Store → Out β) : bindO none k = none := rfl
@[simp] theorem bindO_err {α β : Type} (x : XV) (S : Store) (k : α → Store → Out β) : bindO (some (.error x, S)) k = some (.error x, S) := rfl
abbrev Env := List (Option D)
abbrev EX := Env → Store → Out D
abbrev AX := Env → Store → Out (List D)
def ret {α : Type} (a : α) (S : Store) : Out α := some (.ok a, S)

mutual
inductive Rep (K : PySem.W.Frag) (F : Hp) (μ : List MA) : D → V → Prop
  | non : Rep K F μ .non .non
  | bl (b : Bool) : Rep K F μ (.bl b) (.bl b)
  | int (i : Int) : Rep K F μ (.int i) (.int i)
  | str (x : Str) : Rep K F μ (.str x) (.str x)
  | tup {a : Addr} {xs : List V} {ds : List D} : SqT K F a xs → Reps K F μ ds xs → Rep K F μ (.tup ds) (.ref a)
  | lst {a : Addr} {xs : List V} {ds : List D} : F a = some (.lst xs) → Reps K F μ ds xs → Rep K F μ (.lst ds) (.ref a)
  | fz {a : Addr} {xs : List V} {ds : List D} : SqL K F a xs → Reps K F μ ds xs → Rep K F μ (.fz ds) (.ref a)
  | loc {n : Nat} {a : Addr} : μ[n]? = some ⟨a, .lst⟩ → Rep K F μ (.loc n) (.ref a)
  | obj {n : Nat} {a : Addr} {c : Str} : μ[n]? = some ⟨a, .ins c⟩ → Rep K F μ (.obj c n) (.ref a)
  | dkc {n : Nat} {a : Addr} : μ[n]? = some ⟨a, .dk⟩ → Rep K F μ (.dkc n) (.ref a)
  | gfn {x : Str} : Rep K F μ (.gfn x) (.ref (He.ga K x))
  | fn {f c' : Addr} {l : LamSite} {pm ctv : Value} : F f = some (FunO f l pm c' ctv) → F c' = some (LamX.CodeO c' l.qual) → Rep K F μ (.fn l) (.ref f)
  | tpn {a : Addr} {o : Obj} {xs : List V} {ds : List D} : F a = some (.frz o (.tup xs)) → o.dict = none → Reps K F μ ds xs → Rep K F μ (.tpn ds) (.ref a)
  | dct {a : Addr} {ks : List (Int × Int)} : F a = some (.dK (ks.map fun p => (Sum.inl p.1, V.int p.2))) → Rep K F μ (.dct ks) (.ref a)
  | ins {a dx : Addr} {c : Str} {ns : List Str} {ds : List D} {vs : List V} : F a = some (.ins (He.ga K c) dx (ns.zip vs)) → ns.length = ds.length → Reps K F μ ds vs → Rep K F μ (.ins c ns ds) (.ref a)
  | dks {a : Addr} {ks : List Key} {ds : List D} {vs : List V} : F a = some (.dK (ks.zip vs)) → ks.length = ds.length → Reps K F μ ds vs → Rep K F μ (.dks ks ds) (.ref a)
inductive Reps (K : PySem.W.Frag) (F : Hp) (μ : List MA) : List D → List V → Prop
  | nil : Reps K F μ [] []
  | cons {d : D} {ds : List D} {v : V} {vs : List V} : Rep K F μ d v → Reps K F μ ds vs → Reps K F μ (d :: ds) (v :: vs)
end

section
variable {K : PySem.W.Frag} {F F' H : Hp} {μ μ' : List MA} {d : D} {ds es : List D} {v : V} {vs ws : List V}
theorem pre_get {n : Nat} {a : MA} (p : μ <+: μ') (h : μ[n]? = some a) : μ'[n]? = some a := by
  obtain ⟨t, rfl⟩ := p
  have := (List.getElem?_eq_some_iff.mp h).1
  rw [List.getElem?_append_left this]; exact h
mutual
theorem Rep.mono (e : Ex F F') (p : μ <+: μ') : ∀ {d : D} {v : V}, Rep K F μ d v → Rep K F' μ' d v
  | _, _, .non => .non
  | _, _, .bl b => .bl b
  | _, _, .int i => .int i
  | _, _, .str x => .str x
  | _, _, .tup h r => .tup (ex_t e h) (Reps.mono e p r)
  | _, _, .lst h r => .lst (e _ _ h) (Reps.mono e p r)
  | _, _, .fz h r => .fz (ex_l e h) (Reps.mono e p r)
  | _, _, .loc h => .loc (pre_get p h)
  | _, _, .obj h => .obj (pre_get p h)
  | _, _, .dkc h => .dkc (pre_get p h)
  | _, _, .gfn => .gfn
  | _, _, .fn h g => .fn (e _ _ h) (e _ _ g)
  | _, _, .tpn h k r => .tpn (e _ _ h) k (Reps.mono e p r)
  | _, _, .dct h => .dct (e _ _ h)
  | _, _, .ins h k r => .ins (e _ _ h) k (Reps.mono e p r)
  | _, _, .dks h k r => .dks (e _ _ h) k (Reps.mono e p r)
theorem Reps.mono (e : Ex F F') (p : μ <+: μ') : ∀ {ds : List D} {vs : List V}, Reps K F μ ds vs → Reps K F' μ' ds vs
  | _, _, .nil => .nil
  | _, _, .cons h r => .cons (Rep.mono e p h) (Reps.mono e p r)
end
mutual
/-- what has no location does not lean on the store -/
theorem Rep.free : ∀ {d : D} {v : V}, Rep K F μ d v → d.pure = true → Rep K F μ' d v
  | _, _, .non, _ => .non
  | _, _, .bl b, _ => .bl b
  | _, _, .int i, _ => .int i
  | _, _, .str x, _ => .str x
  | _, _, .tup h r, p => .tup h (Reps.free r (by simpa [D.pure] using p))
  | _, _, .lst h r, p => .lst h (Reps.free r (by simpa [D.pure] using p))
  | _, _, .loc h, p => by simp [D.pure] at p
  | _, _, .obj h, p => by simp [D.pure] at p
  | _, _, .dkc h, p => by simp [D.pure] at p
  | _, _, .gfn, p => by simp [D.pure] at p
  | _, _, .fz h r, p => by simp [D.pure] at p
  | _, _, .fn h r, p => by simp [D.pure] at p
  | _, _, .tpn h k r, p => .tpn h k (Reps.free r (by simpa [D.pure] using p))
  | _, _, .dct h, p => by simp [D.pure] at p
  | _, _, .ins h k r, p => by simp [D.pure] at p
  | _, _, .dks h k r, p => by simp [D.pure] at p
theorem Reps.free : ∀ {ds : List D} {vs : List V}, Reps K F μ ds vs → D.pures ds = true → Reps K F μ' ds vs
  | _, _, .nil, _ => .nil
  | _, _, .cons h r, p => .cons (Rep.free h (by simp [D.pures] at p; exact p.1)) (Reps.free r (by simp [D.pures] at p; exact p.2))
end
theorem Reps.length : ∀ {ds : List D} {vs : List V}, Reps K F μ ds vs → ds.length = vs.length
  | _, _, .nil => rfl
  | _, _, .cons _ r => by simp [Reps.length r]
theorem Reps.get : ∀ {ds : List D} {vs : List V} {i : Nat} {d : D}, Reps K F μ ds vs → ds[i]? = some d → ∃ v, vs[i]? = some v ∧ Rep K F μ d v
  | _, _, _, _, .nil, h => by simp at h
  | _, _, 0, _, .cons h r, e => by simp at e; subst e; exact ⟨_, rfl, h⟩
  | _, _, i + 1, _, .cons h r, e => by simpa using Reps.get (i := i) r (by simpa using e)
theorem Reps.getV : ∀ {ds : List D} {vs : List V} {i : Nat} {v : V}, Reps K F μ ds vs → vs[i]? = some v → ∃ d, ds[i]? = some d ∧ Rep K F μ d v
  | _, _, _, _, .nil, h => by simp at h
  | _, _, 0, _, .cons h r, e => by simp at e; subst e; exact ⟨_, rfl, h⟩
  | _, _, i + 1, _, .cons h r, e => by simpa using Reps.getV (i := i) r (by simpa using e)
theorem Reps.append : ∀ {ds : List D} {vs : List V} {es : List D} {ws : List V}, Reps K F μ ds vs → Reps K F μ es ws → Reps K F μ (ds ++ es) (vs ++ ws)
  | _, _, _, _, .nil, s => s
  | _, _, _, _, .cons h r, s => .cons h (Reps.append r s)
theorem Reps.drop : ∀ {ds : List D} {vs : List V} (n : Nat), Reps K F μ ds vs → Reps K F μ (ds.drop n) (vs.drop n)
  | _, _, 0, r => r
  | _, _, n + 1, .nil => .nil
  | _, _, n + 1, .cons _ r => Reps.drop n r
theorem Reps.take : ∀ {ds : List D} {vs : List V} (n : Nat), Reps K F μ ds vs → Reps K F μ (ds.take n) (vs.take n)
  | _, _, 0, r => .nil
  | _, _, n + 1, .nil => .nil
  | _, _, n + 1, .cons h r => .cons h (Reps.take n r)
theorem Reps.set : ∀ {ds : List D} {vs : List V} {d : D} {v : V} (n : Nat), Reps K F μ ds vs → Rep K F μ d v → Reps K F μ (ds.set n d) (vs.set n v)
  | _, _, _, _, _, .nil, _ => .nil
  | _, _, _, _, 0, .cons h r, q => .cons q r
  | _, _, _, _, n + 1, .cons h r, q => .cons h (Reps.set n r q)
theorem Reps.eraseIdx : ∀ {ds : List D} {vs : List V} (n : Nat), Reps K F μ ds vs → Reps K F μ (ds.eraseIdx n) (vs.eraseIdx n)
  | _, _, _, .nil => .nil
  | _, _, 0, .cons h r => r
  | _, _, n + 1, .cons h r => .cons h (Reps.eraseIdx n r)
theorem Reps.reverse : ∀ {ds : List D} {vs : List V}, Reps K F μ ds vs → Reps K F μ ds.reverse vs.reverse
  | _, _, .nil => .nil
  | _, _, .cons h r => by
    rw [List.reverse_cons, List.reverse_cons]
    exact (Reps.reverse r).append (.cons h .nil)
theorem Reps.one (h : Rep K F μ d v) : Reps K F μ [d] [v] := .cons h .nil
end

/-! ### the store's relation to the heap -/
/-- the fields of an instance, the entries of a dict, as one list -/
def encF : List Str → List D → List D
  | f :: ns, d :: ds => .str f :: d :: encF ns ds
  | _, _ => []
def kD : Key → D
  | .inl i => .int i
  | .inr x => .str x
def encK : List Key → List D → List D
  | k :: ks, d :: ds => kD k :: d :: encK ks ds
  | _, _ => []
theorem pures_encF : ∀ {ns : List Str} {ds : List D}, ns.length = ds.length → D.pures (encF ns ds) = D.pures ds
  | [], [], _ => rfl
  | f :: ns, d :: ds, h => by
    simp only [encF, D.pures, D.pure, Bool.true_and]
    rw [pures_encF (ns := ns) (ds := ds) (by simpa using h)]
theorem pures_encK : ∀ {ks : List Key} {ds : List D}, ks.length = ds.length → D.pures (encK ks ds) = D.pures ds
  | [], [], _ => rfl
  | k :: ks, d :: ds, h => by
    have e : (kD k).pure = true := by cases k <;> rfl
    simp only [encK, D.pures, e, Bool.true_and]
    rw [pures_encK (ks := ks) (ds := ds) (by simpa using h)]
/-- what stands at a place of the store -/
inductive Cell (K : PySem.W.Frag) (F : Hp) (μ : List MA) (H : Hp) : MA → List D → Prop
  | lst {a : Addr} {ds : List D} {vs : List V} : H a = some (.lst vs) → Reps K F μ ds vs → Cell K F μ H ⟨a, .lst⟩ ds
  | ins {a dx : Addr} {c : Str} {ns : List Str} {es : List D} {vs : List V} : ns.length = es.length → H a = some (.ins (He.ga K c) dx (ns.zip vs)) → Reps K F μ es vs → Cell K F μ H ⟨a, .ins c⟩ (encF ns es)
  | dk {a : Addr} {ks : List Key} {es : List D} {vs : List V} : ks.length = es.length → H a = some (.dK (ks.zip vs)) → Reps K F μ es vs → Cell K F μ H ⟨a, .dk⟩ (encK ks es)
/-- what may change -/
def MutO (o : HO) : Prop := (∃ xs, o = .lst xs) ∨ (∃ C dx fs, o = .ins C dx fs) ∨ ∃ ks, o = .dK ks
section
variable {K : PySem.W.Frag} {F F' H H' : Hp} {μ μ' : List MA} {m : MA} {ds : List D}
theorem Cell.ho (h : Cell K F μ H m ds) : ∃ o, H m.a = some o ∧ MutO o := by
  cases h with
  | lst h _ => exact ⟨_, h, .inl ⟨_, rfl⟩⟩
  | ins _ h _ => exact ⟨_, h, .inr (.inl ⟨_, _, _, rfl⟩)⟩
  | dk _ h _ => exact ⟨_, h, .inr (.inr ⟨_, rfl⟩)⟩
theorem Cell.mono (h : Cell K F μ H m ds) (e : Ex F F') (p : μ <+: μ') (q : ∀ o, H m.a = some o → H' m.a = some o) : Cell K F' μ' H' m ds := by
  cases h with
  | lst h r => exact .lst (q _ h) (r.mono e p)
  | ins h1 h r => exact .ins h1 (q _ h) (r.mono e p)
  | dk h1 h r => exact .dk h1 (q _ h) (r.mono e p)
theorem Cell.free (h : Cell K F μ H m ds) (hp : D.pures ds = true) : Cell K F μ' H m ds := by
  cases h with
  | lst h r => exact .lst h (r.free hp)
  | ins h1 h r => exact .ins h1 h (r.free (by rw [pures_encF h1] at hp; exact hp))
  | dk h1 h r => exact .dk h1 h (r.free (by rw [pures_encK h1] at hp; exact hp))
end
/-- the address is none of the store's -/
def Out_ (a : Addr) (μ : List MA) : Prop := ∀ m ∈ μ, m.a ≠ a
/-- T: the tables of code objects (lambdas); F: what is frozen; μ: where the store's things stand -/
structure SR (K : PySem.W.Frag) (T : List (Addr × Str)) (F : Hp) (μ : List MA) (S : Store) (H : Hp) : Prop where
  ex : Ex F H
  len : μ.length = S.length
  nd : (μ.map MA.a).Nodup
  ob : ∀ (n : Nat) (m : MA) (ds : List D), μ[n]? = some m → S[n]? = some ds → F m.a = none ∧ D.pures ds = true ∧ Cell K F μ H m ds
  tab : LamX.Tabs T H
  tabF : ∀ p ∈ T, F p.1 = none

section
variable {K : PySem.W.Frag} {T : List (Addr × Str)} {F F' H H' : Hp} {μ μ' : List MA} {S : Store} {a : Addr} {o : HO}
theorem Tabs.keep {T : List (Addr × Str)} {H H' : Hp} (t : LamX.Tabs T H) (e : ∀ b o, H b = some o → ¬ MutO o → H' b = some o) : LamX.Tabs T H' := fun p hp => by
  obtain ⟨ps, h1, h2, h3⟩ := t p hp
  refine ⟨ps, e _ _ h1 (by rintro (⟨_, z⟩ | ⟨_, _, _, z⟩ | ⟨_, z⟩) <;> cases z), h2, fun pos cv hc => ?_⟩
  obtain ⟨c, e1, e2⟩ := h3 pos cv hc
  exact ⟨c, e1, e _ _ e2 (by rintro (⟨_, z⟩ | ⟨_, _, _, z⟩ | ⟨_, z⟩) <;> (unfold LamX.CodeO at z; cases z))⟩
theorem SR.at (s : SR K T F μ S H) {n : Nat} {m : MA} (hm : μ[n]? = some m) : ∃ ds, S[n]? = some ds ∧ F m.a = none ∧ D.pures ds = true ∧ Cell K F μ H m ds := by
  have hl : n < S.length := by rw [← s.len]; exact (List.getElem?_eq_some_iff.mp hm).1
  exact ⟨S[n], List.getElem?_eq_getElem hl, s.ob n m S[n] hm (List.getElem?_eq_getElem hl)⟩
/-- a new frozen object -/
theorem SR.new (s : SR K T F μ S H) (hn : H a = none) : SR K T (upd F a o) μ S (upd H a o) := by
  have hF : F a = none := fresh_back s.ex hn
  have hm : ∀ (n : Nat) (m : MA), μ[n]? = some m → m.a ≠ a := fun n m e z => by
    obtain ⟨ds, _, _, _, hc⟩ := s.at e
    obtain ⟨o, h, _⟩ := hc.ho
    rw [z, hn] at h; cases h
  refine ⟨fun b u e => ?_, s.len, s.nd, fun n m ds e1 e2 => ?_, s.tab.ext fun b u e => ?_, fun p hp => ?_⟩
  · by_cases hb : b = a
    · subst hb; rw [upd_same] at e ⊢; exact e
    · rw [upd_ne hb] at e ⊢; exact s.ex b u e
  · obtain ⟨h1, h2, h3⟩ := s.ob n m ds e1 e2
    have nb := hm n m e1
    exact ⟨by rw [upd_ne nb]; exact h1, h2, h3.mono (Ex.new hF) (List.prefix_refl _) fun o h => by rw [upd_ne nb]; exact h⟩
  · rw [upd_ne (ne_of_none e hn)]; exact e
  · obtain ⟨ps, h1, _⟩ := s.tab p hp
    rw [upd_ne (ne_of_none h1 hn)]; exact s.tabF p hp
/-- a new object that is not frozen yet -/
theorem SR.lay (s : SR K T F μ S H) (hn : H a = none) : SR K T F μ S (upd H a o) := by
  refine ⟨s.ex.trans (Ex.new hn), s.len, s.nd, fun n m ds e1 e2 => ?_, s.tab.ext fun b u e => ?_, s.tabF⟩
  · obtain ⟨h1, h2, h3⟩ := s.ob n m ds e1 e2
    exact ⟨h1, h2, h3.mono (Ex.refl _) (List.prefix_refl _) fun o h => by rw [upd_ne (ne_of_none h hn)]; exact h⟩
  · rw [upd_ne (ne_of_none e hn)]; exact e
/-- a thing that nobody else holds is frozen -/
theorem SR.freezeO (s : SR K T F μ S H) {o : HO} (hF : F a = none) (hm : Out_ a μ) (hH : H a = some o) (ho : MutO o) : SR K T (upd F a o) μ S H := by
  refine ⟨fun b u e => ?_, s.len, s.nd, fun n m ds e1 e2 => ?_, s.tab, fun p hp => ?_⟩
  · by_cases hb : b = a
    · subst hb; rw [upd_same] at e; cases e; exact hH
    · rw [upd_ne hb] at e; exact s.ex b u e
  · obtain ⟨h1, h2, h3⟩ := s.ob n m ds e1 e2
    have nb : m.a ≠ a := hm m (List.mem_of_getElem? e1)
    exact ⟨by rw [upd_ne nb]; exact h1, h2, h3.mono (Ex.new hF) (List.prefix_refl _) fun o h => h⟩
  · obtain ⟨ps, h1, _⟩ := s.tab p hp
    rw [upd_ne (fun z => by
      rw [z, hH] at h1; cases h1
      rcases ho with ⟨_, z⟩ | ⟨_, _, _, z⟩ | ⟨_, z⟩ <;> cases z)]
    exact s.tabF p hp
theorem SR.freeze (s : SR K T F μ S H) {xs : List V} (hF : F a = none) (hm : Out_ a μ) (hH : H a = some (.lst xs)) : SR K T (upd F a (.lst xs)) μ S H := s.freezeO hF hm hH (.inl ⟨_, rfl⟩)
/-- .. or becomes a thing of the store -/
theorem SR.allocM (s : SR K T F μ S H) {m : MA} {ds : List D} (hF : F m.a = none) (hm : Out_ m.a μ) (hc : Cell K F μ H m ds) (hp : D.pures ds = true) : SR K T F (μ ++ [m]) (S ++ [ds]) H := by
  refine ⟨s.ex, by simp [s.len], ?_, fun n b es e1 e2 => ?_, s.tab, s.tabF⟩
  · rw [List.map_append, List.nodup_append]
    refine ⟨s.nd, by simp, fun x hx y hy e => ?_⟩
    simp at hy; subst hy; subst e
    obtain ⟨b, hb, e⟩ := List.mem_map.mp hx
    exact hm b hb e
  · by_cases hn : n < μ.length
    · rw [List.getElem?_append_left hn] at e1
      rw [List.getElem?_append_left (by rw [← s.len]; exact hn)] at e2
      obtain ⟨h1, h2, h3⟩ := s.ob n b es e1 e2
      exact ⟨h1, h2, h3.mono (Ex.refl _) (List.prefix_append _ _) fun o h => h⟩
    · have hl := (List.getElem?_eq_some_iff.mp e1).1
      have en : n = μ.length := by simp at hl; omega
      subst en
      rw [List.getElem?_append_right (Nat.le_refl _)] at e1
      rw [s.len, List.getElem?_append_right (Nat.le_refl _)] at e2
      simp at e1 e2
      subst e1; subst e2
      exact ⟨hF, hp, hc.mono (Ex.refl _) (List.prefix_append _ _) fun o h => h⟩
theorem SR.alloc (s : SR K T F μ S H) {xs : List V} {ds : List D} (hF : F a = none) (hm : Out_ a μ) (hH : H a = some (.lst xs)) (hr : Reps K F μ ds xs) (hp : D.pures ds = true) : SR K T F (μ ++ [⟨a, .lst⟩]) (S ++ [ds]) H :=
  s.allocM (m := ⟨a, .lst⟩) hF hm (.lst hH hr) hp
/-- a thing of the store is changed -/
theorem SR.putM (s : SR K T F μ S H) {n : Nat} {m : MA} {o : HO} {ds : List D} (hm : μ[n]? = some m) (hc : Cell K F μ (upd H m.a o) m ds) (hp : D.pures ds = true) : SR K T F μ (S.set n ds) (upd H m.a o) := by
  obtain ⟨ds0, e0, hF, _, hc0⟩ := s.at hm
  obtain ⟨o0, ho0, hM⟩ := hc0.ho
  have hl : n < S.length := (List.getElem?_eq_some_iff.mp e0).1
  refine ⟨Ex.mut s.ex hF, by simp [s.len], s.nd, fun k b es e1 e2 => ?_, Tabs.keep s.tab fun b u e nl => ?_, s.tabF⟩
  · by_cases hb : k = n
    · subst hb
      rw [hm] at e1; cases e1
      rw [List.getElem?_set_self hl] at e2; cases e2
      exact ⟨hF, hp, hc⟩
    · rw [List.getElem?_set_ne (Ne.symm hb)] at e2
      obtain ⟨h1, h2, h3⟩ := s.ob k b es e1 e2
      have nb : b.a ≠ m.a := fun z => by
        have k1 := List.getElem?_eq_some_iff.mp e1
        have k2 := List.getElem?_eq_some_iff.mp hm
        have i1 : k < (μ.map MA.a).length := by rw [List.length_map]; exact k1.1
        have i2 : n < (μ.map MA.a).length := by rw [List.length_map]; exact k2.1
        have e3 : (μ.map MA.a)[k] = (μ.map MA.a)[n] := by
          rw [List.getElem_map, List.getElem_map, k1.2, k2.2, z]
        exact hb ((List.getElem_inj s.nd).mp e3)
      exact ⟨h1, h2, h3.mono (Ex.refl _) (List.prefix_refl _) fun o h => by rw [upd_ne nb]; exact h⟩
  · by_cases hb : b = m.a
    · subst hb; rw [ho0] at e; cases e; exact absurd hM nl
    · rw [upd_ne hb]; exact e
theorem SR.put (s : SR K T F μ S H) {n : Nat} {xs : List V} {ds : List D} (hm : μ[n]? = some ⟨a, .lst⟩) (hr : Reps K F μ ds xs) (hp : D.pures ds = true) : SR K T F μ (S.set n ds) (upd H a (.lst xs)) :=
  s.putM (m := ⟨a, .lst⟩) hm (.lst upd_same hr) hp
/-- the store's later things are forgotten -/
theorem SR.cut (s : SR K T F μ S H) (k : Nat) : SR K T F (μ.take k) (S.take k) H := by
  refine ⟨s.ex, by simp [s.len], by rw [List.map_take]; exact s.nd.sublist (List.take_sublist _ _), fun n a ds e1 e2 => ?_, s.tab, s.tabF⟩
  have hk : n < k := by
    have := (List.getElem?_eq_some_iff.mp e1).1
    rw [List.length_take] at this; omega
  rw [List.getElem?_take_of_lt hk] at e1 e2
  obtain ⟨h1, h2, h3⟩ := s.ob n a ds e1 e2
  exact ⟨h1, h2, h3.free h2⟩
theorem SR.get (s : SR K T F μ S H) {n : Nat} (hm : μ[n]? = some ⟨a, .lst⟩) : ∃ ds vs, S[n]? = some ds ∧ H a = some (.lst vs) ∧ Reps K F μ ds vs ∧ F a = none ∧ D.pures ds = true := by
  obtain ⟨ds, h0, h1, h2, hc⟩ := s.at hm
  cases hc with
  | lst h3 h4 => exact ⟨ds, _, h0, h3, h4, h1, h2⟩
theorem SR.sqT (s : SR K T F μ S H) {xs : List V} (h : SqT K F a xs) : SqT K H a xs := ex_t s.ex h
theorem SR.sqL (s : SR K T F μ S H) {xs : List V} (h : SqL K F a xs) : SqL K H a xs := ex_l s.ex h
end

/-! ### outcomes -/
/-- a list that was just made, held by nobody else -/
def Fresh (K : PySem.W.Frag) (F : Hp) (μ : List MA) (H : Hp) (d : D) (v : V) : Prop :=
  ∃ ds a vs, d = .lst ds ∧ v = .ref a ∧ F a = none ∧ Out_ a μ ∧ H a = some (.lst vs) ∧ Reps K F μ ds vs
def RX (K : PySem.W.Frag) (fr : Bool) (F : Hp) (μ : List MA) (H : Hp) (d : D) (v : V) : Prop := match fr with
  | true => Fresh K F μ H d v
  | false => Rep K F μ d v
/-- an exception of an own class that keeps what it was made with -/
def XRep (K : PySem.W.Frag) (mg : Str → Option Value) (F : Hp) (μ : List MA) (x : XV) (cls : Value) (dd : Option Addr) : Prop :=
  ∃ C, cls = .ref C ∧ mg x.cls = some (.ref C) ∧ (x.fields = [] ∨ ∃ d vs, dd = some d ∧ Reps K F μ (x.fields.map (·.2)) vs ∧ F d = some (.xd ((x.fields.map (·.1)).zip vs)))
def GP {α : Type} (K : PySem.W.Frag) (T : List (Addr × Str)) (F : Hp) (μ : List MA) (r : Out α) (ok : α → Hp → List MA → Hp → Store → Prop) (er : XV → Hp → List MA → Hp → Prop) : Prop :=
  match r with
  | none => False
  | some (.ok a, S) => ∀ F' μ' H', Ex F F' → μ <+: μ' → SR K T F' μ' S H' → ok a F' μ' H' S
  | some (.error x, S) => ∀ F' μ' H', Ex F F' → μ <+: μ' → SR K T F' μ' S H' → er x F' μ' H'
section
variable {α β : Type} {K : PySem.W.Frag} {T : List (Addr × Str)} {F F' H H' : Hp} {μ μ' : List MA} {S : Store} {r : Out α} {k : α → Store → Out β}
  {ok : β → Hp → List MA → Hp → Store → Prop} {ok1 ok2 : α → Hp → List MA → Hp → Store → Prop} {er : XV → Hp → List MA → Hp → Prop}
theorem GP.mono (h : GP K T F μ r ok1 er) (e : Ex F F') (p : μ <+: μ') : GP K T F' μ' r ok1 er := by
  match r, h with
  | some (.ok a, S), h => exact fun F2 μ2 H2 e2 p2 s2 => h F2 μ2 H2 (e.trans e2) (p.trans p2) s2
  | some (.error x, S), h => exact fun F2 μ2 H2 e2 p2 s2 => h F2 μ2 H2 (e.trans e2) (p.trans p2) s2
theorem GP.bind (h : GP K T F μ (bindO r k) ok er) : GP K T F μ r (fun a F' μ' H' S' => SR K T F' μ' S' H' ∧ Ex F F' ∧ μ <+: μ' ∧ GP K T F' μ' (k a S') ok er) er := by
  match r, h with
  | some (.ok a, S), h => exact fun F2 μ2 H2 e2 p2 s2 => ⟨s2, e2, p2, GP.mono h e2 p2⟩
  | some (.error x, S), h => exact h
theorem GP.imp (h : GP K T F μ r ok1 er) (f : ∀ a F' μ' H' S', Ex F F' → μ <+: μ' → SR K T F' μ' S' H' → ok1 a F' μ' H' S' → ok2 a F' μ' H' S') : GP K T F μ r ok2 er := by
  match r, h with
  | some (.ok a, S), h => exact fun F2 μ2 H2 e2 p2 s2 => f _ _ _ _ _ e2 p2 s2 (h F2 μ2 H2 e2 p2 s2)
  | some (.error x, S), h => exact h
/-- bind, and go on -/
theorem GP.seq (h : GP K T F μ (bindO r k) ok er) (f : ∀ a F' μ' H' S', Ex F F' → μ <+: μ' → SR K T F' μ' S' H' → GP K T F' μ' (k a S') ok er → ok2 a F' μ' H' S') : GP K T F μ r ok2 er :=
  GP.imp (GP.bind h) fun a F' μ' H' S' e p s ⟨_, _, _, q⟩ => f a F' μ' H' S' e p s q
theorem GP.here {a : α} (h : GP K T F μ (some (.ok a, S)) ok1 er) (s : SR K T F μ S H) : ok1 a F μ H S := h F μ H (Ex.refl _) (List.prefix_refl _) s
/-- a state that stands behind one that was reached -/
theorem GP.at {a : α} (h : GP K T F μ (some (.ok a, S)) ok1 er) (e : Ex F F') (p : μ <+: μ') (s : SR K T F' μ' S H') : ok1 a F' μ' H' S := h F' μ' H' e p s
end
/-- the slots -/
def EnvR (K : PySem.W.Frag) (F : Hp) (μ : List MA) (ρ : Env) (σ : L2.St) : Prop := ρ.length = σ.length ∧ ∀ (i : Nat) (d : D), ρ[i]? = some (some d) → ∃ v, σ[i]? = some (some v) ∧ Rep K F μ d v
section
variable {K : PySem.W.Frag} {F F' : Hp} {μ μ' : List MA} {ρ : Env} {σ : L2.St}
theorem EnvR.mono (h : EnvR K F μ ρ σ) (e : Ex F F') (p : μ <+: μ') : EnvR K F' μ' ρ σ := ⟨h.1, fun i d q => by
  obtain ⟨v, h1, h2⟩ := h.2 i d q
  exact ⟨v, h1, h2.mono e p⟩⟩
theorem EnvR.set (h : EnvR K F μ ρ σ) {i : Nat} {d : D} {v : V} (r : Rep K F μ d v) : EnvR K F μ (ρ.set i (some d)) (σ.set i (some v)) := ⟨by simp [h.1], fun j e q => by
  by_cases hj : j = i
  · subst hj
    have hl : j < ρ.length := by
      have := (List.getElem?_eq_some_iff.mp q).1
      simpa using this
    rw [List.getElem?_set_self hl] at q
    cases q
    exact ⟨v, by rw [List.getElem?_set_self (by rw [← h.1]; exact hl)], r⟩
  · rw [List.getElem?_set_ne (Ne.symm hj)] at q ⊢
    exact h.2 j e q⟩
theorem EnvR.none (h : EnvR K F μ ρ σ) (i : Nat) : EnvR K F μ (ρ.set i none) (σ.set i none) := ⟨by simp [h.1], fun j e q => by
  by_cases hj : j = i
  · subst hj
    have hl : j < ρ.length := by
      have := (List.getElem?_eq_some_iff.mp q).1
      simpa using this
    rw [List.getElem?_set_self hl] at q
    cases q
  · rw [List.getElem?_set_ne (Ne.symm hj)] at q ⊢
    exact h.2 j e q⟩
def wipeE (ρ : Env) : List Nat → Env
  | [] => ρ
  | v :: vs => (wipeE ρ vs).set v none
theorem EnvR.wipe (h : EnvR K F μ ρ σ) : ∀ vs : List Nat, EnvR K F μ (wipeE ρ vs) (wipe σ vs)
  | [] => h
  | v :: vs => (EnvR.wipe h vs).none v
end
end PF
set_option Elab.async false
set_option linter.all false
set_option maxRecDepth 100000
set_option maxHeartbeats 4000000
/-! PF2: expressions. -/
namespace PF
open PySem L2 Evl
section
variable (K : PySem.W.Frag) (mg : Str → Option Value)
def OkV (fr : Bool) (Q : VK) : D → Hp → List MA → Hp → Store → Prop := fun d F μ H _ => ∀ v, RX K fr F μ H d v → Q v H
def OkA (Q : List V → Hp → Prop) : List D → Hp → List MA → Hp → Store → Prop := fun ds F μ H _ => ∀ vs, Reps K F μ ds vs → Q vs H
def ErW (W : Value → Option Addr → Hp → Prop) : XV → Hp → List MA → Hp → Prop := fun x F μ H => ∀ cls dd, XRep K mg F μ x cls dd → W cls dd H
end
abbrev BX := Env → Store → Out Bool
def RE (T : List (Addr × Str)) (fr : Bool) (X : Cx) (W : WX) (e : Expr) (c : EX) : Prop := ∃ t, PE X e t ∧
  ∀ σ ρ F μ S H Q, SR X.K T F μ S H → EnvR X.K F μ ρ σ → GP X.K T F μ (c ρ S) (OkV X.K fr Q) (ErW X.K X.mg fun cls dd H' => W cls dd σ H') → t σ H Q
def RT (T : List (Addr × Str)) (X : Cx) (W : WX) (e : Expr) (c : BX) : Prop := ∃ t, PT X e t ∧
  ∀ σ ρ F μ S H (Q : Bool → Hp → Prop), SR X.K T F μ S H → EnvR X.K F μ ρ σ → GP X.K T F μ (c ρ S) (fun b _ _ H' _ => Q b H') (ErW X.K X.mg fun cls dd H' => W cls dd σ H') → t σ H Q
/-- a test within and, or -/
def RW (T : List (Addr × Str)) (X : Cx) (W : WX) (e : Expr) (c : BX) : Prop := ∃ t, PW X e t ∧
  ∀ σ ρ F μ S H (Q : Bool → Hp → Prop), SR X.K T F μ S H → EnvR X.K F μ ρ σ → GP X.K T F μ (c ρ S) (fun b _ _ H' _ => Q b H') (ErW X.K X.mg fun cls dd H' => W cls dd σ H') → t σ H Q
def RA (T : List (Addr × Str)) (X : Cx) (W : WX) (es : List Expr) (c : AX) : Prop := ∃ t, PA X es t ∧
  ∀ σ ρ F μ S H Q, SR X.K T F μ S H → EnvR X.K F μ ρ σ → GP X.K T F μ (c ρ S) (OkA X.K Q) (ErW X.K X.mg fun cls dd H' => W cls dd σ H') → t σ H Q
/-- keywords -/
def RK (T : List (Addr × Str)) (X : Cx) (W : WX) (kws : List Keyword) (c : AX) : Prop := ∃ t, PK X kws t ∧
  ∀ σ ρ F μ S H Q, SR X.K T F μ S H → EnvR X.K F μ ρ σ → GP X.K T F μ (c ρ S) (OkA X.K Q) (ErW X.K X.mg fun cls dd H' => W cls dd σ H') → t σ H Q

/-! ### ends -/
section
variable {K : PySem.W.Frag} {T : List (Addr × Str)} {F H : Hp} {μ : List MA} {S : Store} {Q : VK} {er : XV → Hp → List MA → Hp → Prop} {d : D} {v : V} {ds : List D} {vs : List V}
theorem gp_val (h : GP K T F μ (some (.ok d, S)) (OkV K false Q) er) (s : SR K T F μ S H) (r : Rep K F μ d v) : Q v H := h F μ H (Ex.refl _) (List.prefix_refl _) s v r
theorem gp_tup (h : GP K T F μ (some (.ok (.tup ds), S)) (OkV K false Q) er) (s : SR K T F μ S H) (r : Reps K F μ ds vs) : ∀ p, H p = none → Q (.ref p) (upd H p (.tup vs)) := fun p hp =>
  h (upd F p (.tup vs)) μ _ (Ex.new (fresh_back s.ex hp)) (List.prefix_refl _) (s.new hp) _ (.tup (st_of upd_same) (r.mono (Ex.new (fresh_back s.ex hp)) (List.prefix_refl _)))
theorem SR.notinO (s : SR K T F μ S H) {p : Addr} (hp : ∀ o, H p = some o → ¬ MutO o) : Out_ p μ := fun m hm z => by
  obtain ⟨n, hn, e⟩ := List.mem_iff_getElem.mp hm
  obtain ⟨_, _, _, _, hc⟩ := s.at (n := n) (m := m) (by rw [List.getElem?_eq_getElem hn, e])
  obtain ⟨o, h1, h2⟩ := hc.ho
  rw [z] at h1
  exact hp _ h1 h2
theorem SR.notin (s : SR K T F μ S H) {p : Addr} (hp : H p = none) : Out_ p μ := s.notinO fun o h => by rw [hp] at h; cases h
theorem gp_lst (h : GP K T F μ (some (.ok (.lst ds), S)) (OkV K true Q) er) (s : SR K T F μ S H) (r : Reps K F μ ds vs) : ∀ p, H p = none → Q (.ref p) (upd H p (.lst vs)) := fun p hp =>
  h F μ _ (Ex.refl _) (List.prefix_refl _) (s.lay hp) _ ⟨ds, p, vs, rfl, rfl, fresh_back s.ex hp, s.notin hp, upd_same, r⟩
/-- a list that was just made is a value -/
theorem ok_of_fresh {a : D} {F' H' : Hp} {μ' : List MA} {S' : Store} (s : SR K T F' μ' S' H') (h : GP K T F' μ' (some (.ok a, S')) (OkV K false Q) er) : OkV K true Q a F' μ' H' S' := fun v hf => by
  obtain ⟨es, p, ws, rfl, rfl, hF, hm, hH, r⟩ := hf
  exact h (upd F' p (.lst ws)) μ' H' (Ex.new hF) (List.prefix_refl _) (s.freeze hF hm hH) _ (.lst upd_same (r.mono (Ex.new hF) (List.prefix_refl _)))
theorem gp_freeze {r : Out D} (h : GP K T F μ r (OkV K false Q) er) : GP K T F μ r (OkV K true Q) er := by
  match r, h with
  | some (.ok a, S), h => exact fun F' μ' H' e p s => ok_of_fresh s (GP.mono h e p)
  | some (.error x, S), h => exact h
end

section
variable {T : List (Addr × Str)} {X : Cx} {W : WX} {fr : Bool}
theorem RE.frozen {e : Expr} {c : EX} (h : RE T true X W e c) : RE T false X W e c := by
  obtain ⟨t, p, f⟩ := h
  exact ⟨t, p, fun σ ρ F μ S H Q s hE g => f σ ρ F μ S H Q s hE (gp_freeze g)⟩
/-- a new list becomes a list of the store -/
def cAlloc (c : EX) : EX := fun ρ S => bindO (c ρ S) fun d S => match d with
  | .lst ds => if D.pures ds = true then some (.ok (.loc S.length), S ++ [ds]) else none
  | _ => none
theorem RE.alloc {e : Expr} {c : EX} (h : RE T true X W e c) : RE T false X W e (cAlloc c) := by
  obtain ⟨t, p, f⟩ := h
  refine ⟨t, p, fun σ ρ F μ S H Q s hE g => f σ ρ F μ S H Q s hE (GP.seq g fun d F' μ' H' S' e p s' q v hf => ?_)⟩
  obtain ⟨ds, a, vs, rfl, rfl, hF, hm, hH, r⟩ := hf
  dsimp only at q
  split at q
  · rename_i hp
    exact q F' (μ' ++ [⟨a, .lst⟩]) H' (Ex.refl _) (List.prefix_append _ _) (s'.alloc hF hm hH r hp) _ (.loc (by rw [← s'.len, List.getElem?_append_right (Nat.le_refl _)]; simp))
  · exact q.elim
/-- what was allocated meanwhile is forgotten -/
def cScope (c : EX) : EX := fun ρ S => match c ρ S with
  | none => none
  | some (.ok d, S') => if d.pure = true then some (.ok d, S'.take S.length) else none
  | some (.error x, S') => if D.pures (x.fields.map (·.2)) = true then some (.error x, S'.take S.length) else none
theorem take_pre {μ μ' : List MA} {S : Store} {K : PySem.W.Frag} {F H : Hp} (s : SR K T F μ S H) (p : μ <+: μ') : μ'.take S.length = μ := by
  obtain ⟨t, rfl⟩ := p
  rw [← s.len]; simp
theorem RE.scope {e : Expr} {c : EX} (h : RE T false X W e c) : RE T false X W e (cScope c) := by
  obtain ⟨t, p, f⟩ := h
  refine ⟨t, p, fun σ ρ F μ S H Q s hE g => f σ ρ F μ S H Q s hE ?_⟩
  unfold cScope at g
  match hc : c ρ S with
  | none => rw [hc] at g; exact g
  | some (.ok d, S') =>
    rw [hc] at g
    dsimp only at g
    split at g
    · rename_i hp
      intro F' μ' H' e p s' v r
      have s2 := s'.cut S.length
      rw [take_pre s p] at s2
      exact g F' μ H' e (List.prefix_refl _) s2 v (Rep.free r hp)
    · exact g.elim
  | some (.error x, S') =>
    rw [hc] at g
    dsimp only at g
    split at g
    · rename_i hp
      intro F' μ' H' e p s' cls dd r
      have s2 := s'.cut S.length
      rw [take_pre s p] at s2
      obtain ⟨C, h1, h2, h3⟩ := r
      refine g F' μ H' e (List.prefix_refl _) s2 cls dd ⟨C, h1, h2, h3.imp id fun ⟨d, vs, a1, a2, a3⟩ => ⟨d, vs, a1, a2.free hp, a3⟩⟩
    · exact g.elim

/-! ### names, constants -/
def cVar (i : Nat) : EX := fun ρ S => match ρ[i]? with
  | some (some d) => some (.ok d, S)
  | _ => none
theorem re_var {i : Nat} {x : Str} {pos : Pos} (hN : X.N[i]? = some x := by rfl) (hv : Vis X.env.scope x := by first | exact Or.inl rfl | exact Or.inr (Or.inl rfl) | exact Or.inr (Or.inr rfl)) (hd : (x == ("__debug__" : Str)) = false := by decide)
    (hcd : (x == ("__classdict__" : Str)) = false := by decide) : RE T false X W (.Name x pos) (cVar i) := by
  refine ⟨_, pe_var hN hv hd hcd, fun σ ρ F μ S H Q s hE g => ?_⟩
  unfold cVar at g
  split at g
  · rename_i d hd
    obtain ⟨v, h1, h2⟩ := hE.2 i d hd
    exact ⟨v, h1, gp_val g s h2⟩
  · exact g.elim
def cK (d : D) : EX := fun _ S => some (.ok d, S)
theorem re_int {i : Int} {j pos} : RE T false X W (.Constant (.int i) j pos) (cK (.int i)) := ⟨_, pe_int, fun σ ρ F μ S H Q s hE g => gp_val g s (.int i)⟩
theorem re_bl {b : Bool} {j pos} : RE T false X W (.Constant (.bool b) j pos) (cK (.bl b)) := ⟨_, pe_bl, fun σ ρ F μ S H Q s hE g => gp_val g s (.bl b)⟩
theorem re_non {j pos} : RE T false X W (.Constant .none j pos) (cK .non) := ⟨_, pe_non, fun σ ρ F μ S H Q s hE g => gp_val g s .non⟩
theorem re_str {x : Str} {j pos} : RE T false X W (.Constant (.str x) j pos) (cK (.str x)) := ⟨_, pe_str, fun σ ρ F μ S H Q s hE g => gp_val g s (.str x)⟩
/-- a module's constant: k says that K's value of the name is the datum -/
def GlobK (K : PySem.W.Frag) (mg : Str → Option Value) (x : Str) (d : D) : Prop := ∃ u v, mg x = some u ∧ RelV v u ∧ ∀ F μ, Rep K F μ d v
theorem re_glob {x : Str} {d : D} {pos : Pos} (k : GlobK X.K X.mg x d) (hg : Gl X x := by rfl) (hd : (x == ("__debug__" : Str)) = false := by decide) : RE T false X W (.Name x pos) (cK d) := by
  obtain ⟨u, v, h1, h2, h3⟩ := k
  exact ⟨_, pe_glob hg h1 h2 hd, fun σ ρ F μ S H Q s hE g => gp_val g s (h3 F μ)⟩

/-! ### operators -/
abbrev Op2 := D → D → Store → Out D
def OpOk (X : Cx) (T : List (Addr × Str)) (fr : Bool) (r : R2) (o : Op2) : Prop := ∀ F μ S H x y v u Q er, SR X.K T F μ S H → Rep X.K F μ x v → Rep X.K F μ y u → GP X.K T F μ (o x y S) (OkV X.K fr Q) er → r v u H Q
def cBin (o : Op2) (a b : EX) : EX := fun ρ S => bindO (a ρ S) fun x S => bindO (b ρ S) fun y S => o x y S
theorem two {e1 e2 : Expr} {a b : EX} {ta tb : TE} {r : R2} {o : Op2}
    (fa : ∀ σ ρ F μ S H Q, SR X.K T F μ S H → EnvR X.K F μ ρ σ → GP X.K T F μ (a ρ S) (OkV X.K false Q) (ErW X.K X.mg fun cls dd H' => W cls dd σ H') → ta σ H Q)
    (fb : ∀ σ ρ F μ S H Q, SR X.K T F μ S H → EnvR X.K F μ ρ σ → GP X.K T F μ (b ρ S) (OkV X.K false Q) (ErW X.K X.mg fun cls dd H' => W cls dd σ H') → tb σ H Q)
    (ho : OpOk X T fr r o) {σ ρ F μ S H Q} (s : SR X.K T F μ S H) (hE : EnvR X.K F μ ρ σ) (g : GP X.K T F μ (cBin o a b ρ S) (OkV X.K fr Q) (ErW X.K X.mg fun cls dd H' => W cls dd σ H')) :
    ta σ H fun x H1 => tb σ H1 fun y H2 => r x y H2 Q := by
  refine fa σ ρ F μ S H _ s hE (GP.seq g fun x F1 μ1 H1 S1 e1 p1 s1 g1 v rx => ?_)
  refine fb σ ρ F1 μ1 S1 H1 _ s1 (hE.mono e1 p1) (GP.seq g1 fun y F2 μ2 H2 S2 e2 p2 s2 g2 u ry => ?_)
  exact ho F2 μ2 S2 H2 x y v u Q _ s2 (Rep.mono e2 p2 rx) ry g2
theorem re_bin {op : Operator} {r : R2} {o : Op2} {e1 e2 : Expr} {a b : EX} {pos : Pos} (hr : OpR X (binaryOp op) r) (ho : OpOk X T fr r o) (ha : RE T false X W e1 a) (hb : RE T false X W e2 b) : RE T fr X W (.BinOp e1 op e2 pos) (cBin o a b) := by
  obtain ⟨ta, pa, fa⟩ := ha
  obtain ⟨tb, pb, fb⟩ := hb
  exact ⟨_, pe_op hr pa pb, fun σ ρ F μ S H Q s hE g => two (e1 := e1) (e2 := e2) fa fb ho s hE g⟩
theorem re_cmp {op : CmpOp} {r : R2} {o : Op2} {e1 e2 : Expr} {a b : EX} {pos : Pos} (hr : OpR X (compareOp op) r) (ho : OpOk X T false r o) (ha : RE T false X W e1 a) (hb : RE T false X W e2 b) (hm : behindInMarks op e2 = false) : RE T false X W (.Compare e1 [op] [e2] pos) (cBin o a b) := by
  obtain ⟨ta, pa, fa⟩ := ha
  obtain ⟨tb, pb, fb⟩ := hb
  exact ⟨_, pe_cmpR hr pa pb hm, fun σ ρ F μ S H Q s hE g => two (e1 := e1) (e2 := e2) fa fb ho s hE g⟩
/-- a value as a test -/
def cTest (c : EX) : BX := fun ρ S => bindO (c ρ S) fun d S => match d with
  | .bl b => some (.ok b, S)
  | _ => none
theorem testV {t : TE} {c : EX} {σ ρ F μ S H} {Q : Bool → Hp → Prop} (f : ∀ σ ρ F μ S H Q, SR X.K T F μ S H → EnvR X.K F μ ρ σ → GP X.K T F μ (c ρ S) (OkV X.K false Q) (ErW X.K X.mg fun cls dd H' => W cls dd σ H') → t σ H Q)
    (s : SR X.K T F μ S H) (hE : EnvR X.K F μ ρ σ) (g : GP X.K T F μ (cTest c ρ S) (fun b _ _ H' _ => Q b H') (ErW X.K X.mg fun cls dd H' => W cls dd σ H')) : t σ H fun x H' => ∃ k, x = .bl k ∧ Q k H' := by
  refine f σ ρ F μ S H _ s hE (GP.seq g fun x F1 μ1 H1 S1 e1 p1 s1 g1 v rx => ?_)
  cases rx with
  | bl b => exact ⟨b, rfl, GP.here g1 s1⟩
  | _ => exact g1.elim
theorem rt_cmp {op : CmpOp} {r : R2} {o : Op2} {e1 e2 : Expr} {a b : EX} {pos : Pos} (hr : OpR X (compareOp op) r) (ho : OpOk X T false r o) (ha : RE T false X W e1 a) (hb : RE T false X W e2 b) (hm : behindInMarks op e2 = false) : RT T X W (.Compare e1 [op] [e2] pos) (cTest (cBin o a b)) := by
  obtain ⟨ta, pa, fa⟩ := ha
  obtain ⟨tb, pb, fb⟩ := hb
  exact ⟨_, pt_cmpR hr pa pb hm, fun σ ρ F μ S H Q s hE g => testV (fun σ ρ F μ S H Q s hE g => two (e1 := e1) (e2 := e2) fa fb ho s hE g) s hE g⟩
theorem rt_val {e : Expr} {c : EX} (h : RE T false X W e c) (he : ∀ whole, isTrue e X.env whole = (do let v ← whole; standAt e.pos; holding [v] (truthy v)) := by intro _; rfl) : RT T X W e (cTest c) := by
  obtain ⟨t, p, f⟩ := h
  exact ⟨_, pt_val p he, fun σ ρ F μ S H Q s hE g => testV f s hE g⟩
/-- a < b < c -/
def cChain (o o' : Op2) (a b c : EX) : EX := fun ρ S => bindO (a ρ S) fun x S => bindO (b ρ S) fun y S => bindO (o x y S) fun z S => match z with
  | .bl true => bindO (c ρ S) fun w S => o' y w S
  | .bl false => some (.ok (.bl false), S)
  | _ => none
theorem chain3 {a b c : EX} {ta tb tc : TE} {r r' : R2} {o o' : Op2}
    (fa : ∀ σ ρ F μ S H Q, SR X.K T F μ S H → EnvR X.K F μ ρ σ → GP X.K T F μ (a ρ S) (OkV X.K false Q) (ErW X.K X.mg fun cls dd H' => W cls dd σ H') → ta σ H Q)
    (fb : ∀ σ ρ F μ S H Q, SR X.K T F μ S H → EnvR X.K F μ ρ σ → GP X.K T F μ (b ρ S) (OkV X.K false Q) (ErW X.K X.mg fun cls dd H' => W cls dd σ H') → tb σ H Q)
    (fc : ∀ σ ρ F μ S H Q, SR X.K T F μ S H → EnvR X.K F μ ρ σ → GP X.K T F μ (c ρ S) (OkV X.K false Q) (ErW X.K X.mg fun cls dd H' => W cls dd σ H') → tc σ H Q)
    (ho : OpOk X T false r o) (ho' : OpOk X T false r' o') {σ ρ F μ S H Q} (s : SR X.K T F μ S H) (hE : EnvR X.K F μ ρ σ) (g : GP X.K T F μ (cChain o o' a b c ρ S) (OkV X.K false Q) (ErW X.K X.mg fun cls dd H' => W cls dd σ H')) :
    tChain r r' ta tb tc σ H Q := by
  refine fa σ ρ F μ S H _ s hE (GP.seq g fun x F1 μ1 H1 S1 e1 p1 s1 g1 v rx => ?_)
  refine fb σ ρ F1 μ1 S1 H1 _ s1 (hE.mono e1 p1) (GP.seq g1 fun y F2 μ2 H2 S2 e2 p2 s2 g2 u ry => ?_)
  refine ho F2 μ2 S2 H2 x y v u _ _ s2 (Rep.mono e2 p2 rx) ry (GP.seq g2 fun z F3 μ3 H3 S3 e3 p3 s3 g3 w rz => ?_)
  cases rz with
  | bl k =>
    refine ⟨k, rfl, ?_⟩
    cases k with
    | true =>
      rw [if_pos rfl]
      refine fc σ ρ F3 μ3 S3 H3 _ s3 (((hE.mono e1 p1).mono e2 p2).mono e3 p3) (GP.seq g3 fun q F4 μ4 H4 S4 e4 p4 s4 g4 w' rw' => ?_)
      exact ho' F4 μ4 S4 H4 y q u w' Q _ s4 (Rep.mono e4 p4 (Rep.mono e3 p3 ry)) rw' g4
    | false =>
      rw [if_neg Bool.false_ne_true]
      exact gp_val g3 s3 (.bl false)
  | _ => exact g3.elim
theorem re_chain {op op' : CmpOp} {r r' : R2} {o o' : Op2} {e1 e2 e3 : Expr} {a b c : EX} {pos : Pos} (hr : OpR X (compareOp op) r) (hr' : OpR X (compareOp op') r') (ho : OpOk X T false r o) (ho' : OpOk X T false r' o')
    (ha : RE T false X W e1 a) (hb : RE T false X W e2 b) (hc : RE T false X W e3 c) (hm : lastMarks [op, op'] [e2, e3] = false := by with_unfolding_all rfl) : RE T false X W (.Compare e1 [op, op'] [e2, e3] pos) (cChain o o' a b c) := by
  obtain ⟨ta, pa, fa⟩ := ha
  obtain ⟨tb, pb, fb⟩ := hb
  obtain ⟨tc, pc, fc⟩ := hc
  exact ⟨_, pe_chain hr hr' pa pb pc hm, fun σ ρ F μ S H Q s hE g => chain3 fa fb fc ho ho' s hE g⟩
theorem rt_chain {op op' : CmpOp} {r r' : R2} {o o' : Op2} {e1 e2 e3 : Expr} {a b c : EX} {pos : Pos} (hr : OpR X (compareOp op) r) (hr' : OpR X (compareOp op') r') (ho : OpOk X T false r o) (ho' : OpOk X T false r' o')
    (ha : RE T false X W e1 a) (hb : RE T false X W e2 b) (hc : RE T false X W e3 c) (hm : lastMarks [op, op'] [e2, e3] = false := by with_unfolding_all rfl) : RT T X W (.Compare e1 [op, op'] [e2, e3] pos) (cTest (cChain o o' a b c)) := by
  obtain ⟨ta, pa, fa⟩ := ha
  obtain ⟨tb, pb, fb⟩ := hb
  obtain ⟨tc, pc, fc⟩ := hc
  exact ⟨_, pt_chain hr hr' pa pb pc hm, fun σ ρ F μ S H Q s hE g => testV (fun σ ρ F μ S H Q s hE g => chain3 fa fb fc ho ho' s hE g) s hE g⟩

/-! ### and, or, not -/
def bAnd (a b : BX) : BX := fun ρ S => bindO (a ρ S) fun x S => match x with
  | true => b ρ S
  | false => some (.ok false, S)
def bOr (a b : BX) : BX := fun ρ S => bindO (a ρ S) fun x S => match x with
  | true => some (.ok true, S)
  | false => b ρ S
def bNot (a : BX) : BX := fun ρ S => bindO (a ρ S) fun x S => some (.ok (!x), S)
theorem rw_and1 {e : Expr} {c : BX} {pos : Pos} (h : RT T X W e c) : RW T X W (.BoolOp .And [e] pos) c := let ⟨t, p, f⟩ := h; ⟨t, pw_and1 p, f⟩
theorem rw_or1 {e : Expr} {c : BX} {pos : Pos} (h : RT T X W e c) : RW T X W (.BoolOp .Or [e] pos) c := let ⟨t, p, f⟩ := h; ⟨t, pw_or1 p, f⟩
theorem rw_and {e e2 : Expr} {es : List Expr} {a b : BX} {pos : Pos} (h : RT T X W e a) (h2 : RW T X W (.BoolOp .And (e2 :: es) pos) b) : RW T X W (.BoolOp .And (e :: e2 :: es) pos) (bAnd a b) := by
  obtain ⟨ta, pa, fa⟩ := h
  obtain ⟨tb, pb, fb⟩ := h2
  refine ⟨_, pw_and pa pb, fun σ ρ F μ S H Q s hE g => ?_⟩
  refine fa σ ρ F μ S H _ s hE (GP.seq g fun x F1 μ1 H1 S1 e1 p1 s1 g1 => ?_)
  cases x with
  | true => rw [if_pos rfl]; exact fb σ ρ F1 μ1 S1 H1 Q s1 (hE.mono e1 p1) g1
  | false => rw [if_neg Bool.false_ne_true]; exact GP.here g1 s1
theorem rw_or {e e2 : Expr} {es : List Expr} {a b : BX} {pos : Pos} (h : RT T X W e a) (h2 : RW T X W (.BoolOp .Or (e2 :: es) pos) b) : RW T X W (.BoolOp .Or (e :: e2 :: es) pos) (bOr a b) := by
  obtain ⟨ta, pa, fa⟩ := h
  obtain ⟨tb, pb, fb⟩ := h2
  refine ⟨_, pw_or pa pb, fun σ ρ F μ S H Q s hE g => ?_⟩
  refine fa σ ρ F μ S H _ s hE (GP.seq g fun x F1 μ1 H1 S1 e1 p1 s1 g1 => ?_)
  cases x with
  | true => rw [if_pos rfl]; exact GP.here g1 s1
  | false => rw [if_neg Bool.false_ne_true]; exact fb σ ρ F1 μ1 S1 H1 Q s1 (hE.mono e1 p1) g1
theorem RW.t {e : Expr} {c : BX} (h : RW T X W e c) : RT T X W e c := let ⟨t, p, f⟩ := h; ⟨t, p.pt, f⟩
theorem rt_not {e : Expr} {c : BX} {pos : Pos} (h : RT T X W e c) : RT T X W (.UnaryOp .Not e pos) (bNot c) := by
  obtain ⟨ta, pa, fa⟩ := h
  refine ⟨_, pt_not pa, fun σ ρ F μ S H Q s hE g => ?_⟩
  exact fa σ ρ F μ S H _ s hE (GP.seq g fun x F1 μ1 H1 S1 e1 p1 s1 g1 => GP.here g1 s1)
/-- as values: the first ones are bools -/
def cAnd (a b : EX) : EX := fun ρ S => bindO (a ρ S) fun x S => match x with
  | .bl true => b ρ S
  | .bl false => some (.ok (.bl false), S)
  | _ => none
def cOr (a b : EX) : EX := fun ρ S => bindO (a ρ S) fun x S => match x with
  | .bl true => some (.ok (.bl true), S)
  | .bl false => b ρ S
  | _ => none
def cNot (a : EX) : EX := fun ρ S => bindO (a ρ S) fun x S => match x with
  | .bl b => some (.ok (.bl (!b)), S)
  | _ => none
theorem re_one {e : Expr} {c : EX} {op} {pos : Pos} (h : RE T false X W e c) : RE T false X W (.BoolOp op [e] pos) c := let ⟨t, p, f⟩ := h; ⟨t, pe_one p, f⟩
theorem re_and {e e2 : Expr} {es : List Expr} {a b : EX} {pos : Pos} (h : RE T false X W e a) (h2 : RE T false X W (.BoolOp .And (e2 :: es) pos) b) : RE T false X W (.BoolOp .And (e :: e2 :: es) pos) (cAnd a b) := by
  obtain ⟨ta, pa, fa⟩ := h
  obtain ⟨tb, pb, fb⟩ := h2
  refine ⟨_, pe_and pa pb, fun σ ρ F μ S H Q s hE g => ?_⟩
  refine fa σ ρ F μ S H _ s hE (GP.seq g fun x F1 μ1 H1 S1 e1 p1 s1 g1 v rv => ?_)
  cases rv with
  | bl k =>
    refine ⟨k, rfl, ?_⟩
    cases k with
    | true => rw [if_pos rfl]; exact fb σ ρ F1 μ1 S1 H1 Q s1 (hE.mono e1 p1) g1
    | false => rw [if_neg Bool.false_ne_true]; exact gp_val g1 s1 (.bl false)
  | _ => exact g1.elim
theorem re_or {e e2 : Expr} {es : List Expr} {a b : EX} {pos : Pos} (h : RE T false X W e a) (h2 : RE T false X W (.BoolOp .Or (e2 :: es) pos) b) : RE T false X W (.BoolOp .Or (e :: e2 :: es) pos) (cOr a b) := by
  obtain ⟨ta, pa, fa⟩ := h
  obtain ⟨tb, pb, fb⟩ := h2
  refine ⟨_, pe_or pa pb, fun σ ρ F μ S H Q s hE g => ?_⟩
  refine fa σ ρ F μ S H _ s hE (GP.seq g fun x F1 μ1 H1 S1 e1 p1 s1 g1 v rv => ?_)
  cases rv with
  | bl k =>
    refine ⟨k, rfl, ?_⟩
    cases k with
    | true => rw [if_pos rfl]; exact gp_val g1 s1 (.bl true)
    | false => rw [if_neg Bool.false_ne_true]; exact fb σ ρ F1 μ1 S1 H1 Q s1 (hE.mono e1 p1) g1
  | _ => exact g1.elim
theorem re_not {e : Expr} {c : EX} {pos : Pos} (h : RE T false X W e c) : RE T false X W (.UnaryOp .Not e pos) (cNot c) := by
  obtain ⟨ta, pa, fa⟩ := h
  refine ⟨_, pe_not pa, fun σ ρ F μ S H Q s hE g => ?_⟩
  refine fa σ ρ F μ S H _ s hE (GP.seq g fun x F1 μ1 H1 S1 e1 p1 s1 g1 v rv => ?_)
  cases rv with
  | bl k => exact ⟨k, rfl, gp_val g1 s1 (.bl _)⟩
  | _ => exact g1.elim
def cIfE (c : BX) (a b : EX) : EX := fun ρ S => bindO (c ρ S) fun x S => match x with
  | true => a ρ S
  | false => b ρ S
theorem re_if {t e1 e2 : Expr} {c : BX} {a b : EX} {pos : Pos} (h : RT T X W t c) (ha : RE T fr X W e1 a) (hb : RE T fr X W e2 b) : RE T fr X W (.IfExp t e1 e2 pos) (cIfE c a b) := by
  obtain ⟨tc, pc, fc⟩ := h
  obtain ⟨ta, pa, fa⟩ := ha
  obtain ⟨tb, pb, fb⟩ := hb
  refine ⟨_, pe_ifExp pc pa pb, fun σ ρ F μ S H Q s hE g => ?_⟩
  refine fc σ ρ F μ S H _ s hE (GP.seq g fun x F1 μ1 H1 S1 e1 p1 s1 g1 => ?_)
  cases x with
  | true => rw [if_pos rfl]; exact fa σ ρ F1 μ1 S1 H1 Q s1 (hE.mono e1 p1) g1
  | false => rw [if_neg Bool.false_ne_true]; exact fb σ ρ F1 μ1 S1 H1 Q s1 (hE.mono e1 p1) g1
/-- -a -/
def oNeg : D → Store → Out D
  | .int i, S => some (.ok (.int (-i)), S)
  | _, _ => none
def cUn (o : D → Store → Out D) (a : EX) : EX := fun ρ S => bindO (a ρ S) fun x S => o x S
theorem re_neg {e : Expr} {c : EX} {pos : Pos} (h : RE T false X W e c) : RE T false X W (.UnaryOp .USub e pos) (cUn oNeg c) := by
  obtain ⟨ta, pa, fa⟩ := h
  refine ⟨_, pe_un un_neg pa, fun σ ρ F μ S H Q s hE g => ?_⟩
  refine fa σ ρ F μ S H _ s hE (GP.seq g fun x F1 μ1 H1 S1 e1 p1 s1 g1 v rv => ?_)
  cases rv with
  | int i => exact ⟨i, rfl, gp_val g1 s1 (.int _)⟩
  | _ => exact g1.elim

/-! ### argument lists, displays -/
def aNil : AX := fun _ S => some (.ok [], S)
def aCons (a : EX) (r : AX) : AX := fun ρ S => bindO (a ρ S) fun x S => bindO (r ρ S) fun xs S => some (.ok (x :: xs), S)
theorem ra_nil : RA T X W [] aNil := ⟨_, pa_nil, fun σ ρ F μ S H Q s hE g => GP.here g s [] .nil⟩
theorem acons {a : EX} {r : AX} {ta : TE} {tr : TA}
    (fa : ∀ σ ρ F μ S H Q, SR X.K T F μ S H → EnvR X.K F μ ρ σ → GP X.K T F μ (a ρ S) (OkV X.K false Q) (ErW X.K X.mg fun cls dd H' => W cls dd σ H') → ta σ H Q)
    (fr : ∀ σ ρ F μ S H Q, SR X.K T F μ S H → EnvR X.K F μ ρ σ → GP X.K T F μ (r ρ S) (OkA X.K Q) (ErW X.K X.mg fun cls dd H' => W cls dd σ H') → tr σ H Q)
    {σ ρ F μ S H Q} (s : SR X.K T F μ S H) (hE : EnvR X.K F μ ρ σ) (g : GP X.K T F μ (aCons a r ρ S) (OkA X.K Q) (ErW X.K X.mg fun cls dd H' => W cls dd σ H')) : tCons ta tr σ H Q := by
  refine fa σ ρ F μ S H _ s hE (GP.seq g fun x F1 μ1 H1 S1 e1 p1 s1 g1 v rx => ?_)
  refine fr σ ρ F1 μ1 S1 H1 _ s1 (hE.mono e1 p1) (GP.seq g1 fun xs F2 μ2 H2 S2 e2 p2 s2 g2 vs rs => ?_)
  exact GP.here g2 s2 _ (.cons (Rep.mono e2 p2 rx) rs)
theorem ra_cons {e : Expr} {es : List Expr} {a : EX} {r : AX} (h : RE T false X W e a) (hr : RA T X W es r) (hs : starEach (e :: es) X.env = (false, eval e X.env) :: starEach es X.env := by rfl) : RA T X W (e :: es) (aCons a r) := by
  obtain ⟨ta, pa, fa⟩ := h
  obtain ⟨tr, pr, fr⟩ := hr
  exact ⟨_, pa_cons pa pr hs, fun σ ρ F μ S H Q s hE g => acons fa fr s hE g⟩
theorem rk_nil : RK T X W [] aNil := ⟨_, pk_nil, fun σ ρ F μ S H Q s hE g => GP.here g s [] .nil⟩
theorem rk_cons {e : Expr} {nm : Option Str} {kpos : Pos} {es : List Keyword} {a : EX} {r : AX} (h : RE T false X W e a) (hr : RK T X W es r) : RK T X W (⟨nm, e, kpos⟩ :: es) (aCons a r) := by
  obtain ⟨ta, pa, fa⟩ := h
  obtain ⟨tr, pr, fr⟩ := hr
  exact ⟨_, pk_cons pa pr, fun σ ρ F μ S H Q s hE g => acons fa fr s hE g⟩
/-- sizes that are let -/
abbrev lim : Nat := 1000000
theorem lim_ok {n : Nat} (h : n ≤ lim) : n ≤ sizeLine := Nat.le_trans h (by decide)
def cTup (r : AX) : EX := fun ρ S => bindO (r ρ S) fun xs S => if xs.length ≤ lim then some (.ok (.tup xs), S) else none
def cLst (r : AX) : EX := fun ρ S => bindO (r ρ S) fun xs S => if xs.length ≤ lim then some (.ok (.lst xs), S) else none
theorem re_tup {es : List Expr} {x1 : Nat} {pos : Pos} {r : AX} (h : RA T X W es r) : RE T false X W (.Tuple es x1 pos) (cTup r) := by
  obtain ⟨t, p, f⟩ := h
  refine ⟨_, pe_tup p, fun σ ρ F μ S H Q s hE g => ?_⟩
  refine f σ ρ F μ S H _ s hE (GP.seq g fun xs F1 μ1 H1 S1 e1 p1 s1 g1 vs rs => ?_)
  split at g1
  · rename_i hz
    exact ⟨by rw [← rs.length]; exact lim_ok hz, gp_tup g1 s1 rs⟩
  · exact g1.elim
theorem re_lst {es : List Expr} {pos : Pos} {r : AX} (h : RA T X W es r) : RE T true X W (.List es pos) (cLst r) := by
  obtain ⟨t, p, f⟩ := h
  refine ⟨_, pe_lst p, fun σ ρ F μ S H Q s hE g => ?_⟩
  refine f σ ρ F μ S H _ s hE (GP.seq g fun xs F1 μ1 H1 S1 e1 p1 s1 g1 vs rs => ?_)
  split at g1
  · rename_i hz
    exact ⟨by rw [← rs.length]; exact lim_ok hz, gp_lst g1 s1 rs⟩
  · exact g1.elim
end
end PF
set_option Elab.async false
set_option linter.all false
set_option maxRecDepth 100000
set_option maxHeartbeats 4000000
/-! PF3: operators by data, indexes, slices, built-in functions. -/
namespace PF
open PySem L2 Evl
/-! ### sequences -/
def asL : D → Store → Option (List D)
  | .lst xs, _ => some xs
  | .loc n, S => S[n]?
  | .fz xs, _ => some xs
  | _, _ => none
def asT : D → Option (List D)
  | .tup xs => some xs
  | _ => none
def asS : D → Store → Option (List D)
  | .tup xs, _ => some xs
  | d, S => asL d S
section
variable {K : PySem.W.Frag} {T : List (Addr × Str)} {F H : Hp} {μ : List MA} {S : Store} {d : D} {v : V} {ds : List D}
theorem asL_ok (s : SR K T F μ S H) (r : Rep K F μ d v) (h : asL d S = some ds) : ∃ a vs, v = .ref a ∧ SqL K H a vs ∧ Reps K F μ ds vs := by
  cases r with
  | lst hq rs => simp [asL] at h; subst h; exact ⟨_, _, rfl, sq_of (s.ex _ _ hq), rs⟩
  | fz hq rs => simp [asL] at h; subst h; exact ⟨_, _, rfl, s.sqL hq, rs⟩
  | loc hm =>
    simp [asL] at h
    obtain ⟨es, vs, h1, h2, h3, _⟩ := s.get hm
    rw [h1] at h; cases h
    exact ⟨_, vs, rfl, sq_of h2, h3⟩
  | _ => simp [asL] at h
theorem asT_ok (s : SR K T F μ S H) (r : Rep K F μ d v) (h : asT d = some ds) : ∃ a vs, v = .ref a ∧ SqT K H a vs ∧ Reps K F μ ds vs := by
  cases r with
  | tup hq rs => simp [asT] at h; subst h; exact ⟨_, _, rfl, s.sqT hq, rs⟩
  | _ => simp [asT] at h
theorem asS_ok (s : SR K T F μ S H) (r : Rep K F μ d v) (h : asS d S = some ds) : ∃ a vs, v = .ref a ∧ (SqL K H a vs ∨ SqT K H a vs) ∧ Reps K F μ ds vs := by
  cases r with
  | tup hq rs => simp [asS] at h; subst h; exact ⟨_, _, rfl, .inr (s.sqT hq), rs⟩
  | lst hq rs =>
    obtain ⟨a, vs, h1, h2, h3⟩ := asL_ok s (.lst hq rs) (ds := ds) (by simpa [asS] using h)
    exact ⟨a, vs, h1, .inl h2, h3⟩
  | fz hq rs =>
    obtain ⟨a, vs, h1, h2, h3⟩ := asL_ok s (.fz hq rs) (ds := ds) (by simpa [asS] using h)
    exact ⟨a, vs, h1, .inl h2, h3⟩
  | loc hm =>
    obtain ⟨a, vs, h1, h2, h3⟩ := asL_ok s (.loc hm) (ds := ds) (by simpa [asS] using h)
    exact ⟨a, vs, h1, .inl h2, h3⟩
  | _ => simp [asS, asL] at h
end
section
variable {X : Cx} {T : List (Addr × Str)}
/-! ### numbers -/
def oI (C : Int → Int → Bool) (g : Int → Int → D) : Op2 := fun x y S => match x, y with
  | .int i, .int j => if C i j = true then some (.ok (g i j), S) else none
  | _, _ => none
theorem oI_ok {C : Int → Int → Bool} {P : Int → Int → Prop} {g : Int → Int → V} {g' : Int → Int → D} (hC : ∀ i j, C i j = true → P i j) (hg : ∀ K F μ i j, Rep K F μ (g' i j) (g i j)) : OpOk X T false (rI P g) (oI C g') := by
  intro F μ S H x y v u Q er s rx ry h
  unfold oI at h
  cases rx with
  | int i =>
    cases ry with
    | int j =>
      dsimp only at h
      split at h
      · rename_i hc
        exact ⟨i, j, rfl, rfl, hC i j hc, gp_val h s (hg _ _ _ i j)⟩
      · exact h.elim
    | _ => exact h.elim
  | _ => exact h.elim
theorem oI0_ok {g : Int → Int → V} {g' : Int → Int → D} (hg : ∀ K F μ i j, Rep K F μ (g' i j) (g i j)) : OpOk X T false (rI0 g) (oI (fun _ _ => true) g') := by
  intro F μ S H x y v u Q er s rx ry h
  unfold oI at h
  cases rx with
  | int i =>
    cases ry with
    | int j => exact ⟨i, j, rfl, rfl, gp_val h s (hg _ _ _ i j)⟩
    | _ => exact h.elim
  | _ => exact h.elim
abbrev lim64 : Nat := 18446744073709551616
def oSub : Op2 := oI (fun _ _ => true) fun i j => .int (i - j)
theorem oSub_ok : OpOk X T false (rI0 fun i j => .int (i - j)) oSub := oI0_ok fun _ _ _ _ _ => .int _
def oMul : Op2 := oI (fun i j => decide (i.natAbs < lim64 ∨ j.natAbs < lim64)) fun i j => .int (i * j)
theorem oMul_ok : OpOk X T false (rI CMul fun i j => .int (i * j)) oMul := oI_ok (fun i j h => by
  have h := of_decide_eq_true h
  unfold CMul
  unfold lim64 at h
  rcases h with h | h
  · left; omega
  · right; omega) fun _ _ _ _ _ => .int _
def oDiv : Op2 := oI (fun _ j => decide (j ≠ 0 ∧ j.natAbs < 1073741824)) fun i j => .int (i.fdiv j)
theorem oDiv_ok : OpOk X T false (rI CDivN fun i j => .int (i.fdiv j)) oDiv := oI_ok (fun i j h => (of_decide_eq_true h : j ≠ 0 ∧ j.natAbs < 1073741824)) fun _ _ _ _ _ => .int _
def oMod : Op2 := oI (fun _ j => decide (j ≠ 0)) fun i j => .int (i.fmod j)
theorem oMod_ok : OpOk X T false (rI (fun _ j => j ≠ 0) fun i j => .int (i.fmod j)) oMod := oI_ok (fun i j h => of_decide_eq_true h) fun _ _ _ _ _ => .int _
def oPow : Op2 := oI (fun i j => decide (0 ≤ j ∧ j ≤ 1000 ∧ i.natAbs < lim64)) fun i j => .int (i ^ j.toNat)
theorem oPow_ok : OpOk X T false (rI CPow fun i j => .int (i ^ j.toNat)) oPow := oI_ok (fun i j h => by
  have h := of_decide_eq_true h
  unfold lim64 at h
  exact ⟨h.1, by omega, by omega⟩) fun _ _ _ _ _ => .int _
def oLt : Op2 := oI (fun _ _ => true) fun i j => .bl (decide (i < j))
theorem oLt_ok : OpOk X T false (rI0 fun i j => .bl (decide (i < j))) oLt := oI0_ok fun _ _ _ _ _ => .bl _
def oLe : Op2 := oI (fun _ _ => true) fun i j => .bl (decide (i ≤ j))
theorem oLe_ok : OpOk X T false (rI0 fun i j => .bl (decide (i ≤ j))) oLe := oI0_ok fun _ _ _ _ _ => .bl _
def oGt : Op2 := oI (fun _ _ => true) fun i j => .bl (decide (j < i))
theorem oGt_ok : OpOk X T false (rI0 fun i j => .bl (decide (j < i))) oGt := oI0_ok fun _ _ _ _ _ => .bl _
def oGe : Op2 := oI (fun _ _ => true) fun i j => .bl (decide (j ≤ i))
theorem oGe_ok : OpOk X T false (rI0 fun i j => .bl (decide (j ≤ i))) oGe := oI0_ok fun _ _ _ _ _ => .bl _
theorem OpOk.or {fr : Bool} {r r' : R2} {o o' : Op2} {o2 : Op2} (h : OpOk X T fr r o) (h' : OpOk X T fr r' o') (e : ∀ x y S, o2 x y S = o x y S ∨ o2 x y S = o' x y S) : OpOk X T fr (fun x y H Q => r x y H Q ∨ r' x y H Q) o2 := by
  intro F μ S H x y v u Q er s rx ry g
  rcases e x y S with q | q
  · rw [q] at g; exact .inl (h F μ S H x y v u Q er s rx ry g)
  · rw [q] at g; exact .inr (h' F μ S H x y v u Q er s rx ry g)
/-! ### + -/
def oAdd : Op2 := fun x y S => match x, y with
  | .int i, .int j => some (.ok (.int (i + j)), S)
  | .str i, .str j => if i.length + j.length ≤ lim then some (.ok (.str (i ++ j)), S) else none
  | .tup i, .tup j => if i.length + j.length ≤ lim then some (.ok (.tup (i ++ j)), S) else none
  | _, _ => none
def rAdd3 (K : PySem.W.Frag) : R2 := fun x y H Q => (∃ i j, x = .int i ∧ y = .int j ∧ Q (.int (i + j)) H) ∨ (∃ i j, x = .str i ∧ y = .str j ∧ i.length + j.length ≤ sizeLine ∧ Q (.str (i ++ j)) H) ∨ rCatA K x y H Q
theorem op_add3 : OpR X (binaryOp .Add) (rAdd3 X.K) := op_add.or (op_add_str.or op_catA)
theorem oAdd_ok : OpOk X T false (rAdd3 X.K) oAdd := by
  intro F μ S H x y v u Q er s rx ry h
  unfold oAdd at h
  cases rx with
  | int i =>
    cases ry with
    | int j => exact .inl ⟨i, j, rfl, rfl, gp_val h s (.int _)⟩
    | _ => exact h.elim
  | str i =>
    cases ry with
    | str j =>
      dsimp only at h
      split at h
      · rename_i hz
        exact .inr (.inl ⟨i, j, rfl, rfl, lim_ok hz, gp_val h s (.str _)⟩)
      · exact h.elim
    | _ => exact h.elim
  | @tup a xs ds h1 r1 =>
    cases ry with
    | @tup b ys es h2 r2 =>
      dsimp only at h
      split at h
      · rename_i hz
        refine .inr (.inr ⟨a, b, xs, ys, rfl, rfl, s.sqT h1, s.sqT h2, by rw [← r1.length, ← r2.length]; exact lim_ok hz, fun z => ?_, fun _ z => ?_, fun _ _ => gp_tup h s (r1.append r2)⟩)
        · subst z
          have e : ds = [] := by cases r1; rfl
          subst e
          exact gp_val h s (.tup h2 (by simpa using r2))
        · subst z
          have e : es = [] := by cases r2; rfl
          subst e
          exact gp_val h s (.tup h1 (by simpa using r1))
      · exact h.elim
    | _ => exact h.elim
  | _ => exact h.elim
/-- two lists: a new one -/
def asM : D → Store → Option (List D)
  | .lst xs, _ => some xs
  | .loc n, S => S[n]?
  | _, _ => none
theorem asM_ok {K : PySem.W.Frag} {F H : Hp} {μ : List MA} {S : Store} {d : D} {v : V} {ds : List D} (s : SR K T F μ S H) (r : Rep K F μ d v) (h : asM d S = some ds) : ∃ a vs, v = .ref a ∧ H a = some (.lst vs) ∧ Reps K F μ ds vs := by
  cases r with
  | lst hq rs => simp [asM] at h; subst h; exact ⟨_, _, rfl, s.ex _ _ hq, rs⟩
  | loc hm =>
    simp [asM] at h
    obtain ⟨es, vs, h1, h2, h3, _⟩ := s.get hm
    rw [h1] at h; cases h
    exact ⟨_, vs, rfl, h2, h3⟩
  | _ => simp [asM] at h
def oCat : Op2 := fun x y S => match asM x S with
  | some i => (match asM y S with
    | some j => if i.length + j.length ≤ lim then some (.ok (.lst (i ++ j)), S) else none
    | none => none)
  | none => none
theorem oCat_ok : OpOk X T true rCat oCat := by
  intro F μ S H x y v u Q er s rx ry h
  unfold oCat at h
  split at h
  · rename_i i hi
    split at h
    · rename_i j hj
      split at h
      · rename_i hz
        obtain ⟨a, xs, rfl, h1, r1⟩ := asM_ok s rx hi
        obtain ⟨b, ys, rfl, h2, r2⟩ := asM_ok s ry hj
        exact ⟨a, b, xs, ys, rfl, rfl, h1, h2, by rw [← r1.length, ← r2.length]; exact lim_ok hz, gp_lst h s (r1.append r2)⟩
      · exact h.elim
    · exact h.elim
  · exact h.elim
/-- xs * k -/
def oRepL : Op2 := fun x y S => match asM x S, y with
  | some i, .int k => if k ≤ 10000 ∧ -10000 ≤ k ∧ i.length * k.toNat ≤ lim then some (.ok (.lst (List.replicate k.toNat i).flatten), S) else none
  | _, _ => none
theorem Reps.rep {K : PySem.W.Frag} {F : Hp} {μ : List MA} {ds : List D} {vs : List V} (r : Reps K F μ ds vs) : ∀ k : Nat, Reps K F μ (List.replicate k ds).flatten (List.replicate k vs).flatten
  | 0 => .nil
  | k + 1 => by
    rw [List.replicate_succ, List.replicate_succ, List.flatten_cons, List.flatten_cons]
    exact r.append (Reps.rep r k)
theorem oRepL_ok : OpOk X T true rRep oRepL := by
  intro F μ S H x y v u Q er s rx ry h
  unfold oRepL at h
  split at h
  · rename_i i k hi
    split at h
    · rename_i hz
      obtain ⟨a, xs, rfl, h1, r1⟩ := asM_ok s rx hi
      cases ry
      exact ⟨a, k, xs, rfl, rfl, h1, by omega, by omega, by rw [← r1.length]; exact lim_ok hz.2.2, gp_lst h s (r1.rep _)⟩
    · exact h.elim
  · exact h.elim
/-! ### == -/
mutual
def D.eqv : D → D → Bool
  | .non, .non => true
  | .bl a, .bl b => a == b
  | .bl a, .int j => (if a then 1 else 0) == j
  | .int i, .bl b => i == (if b then 1 else 0)
  | .int i, .int j => i == j
  | .str x, .str y => x == y
  | .lst xs, .lst ys => D.eqvs xs ys
  | .tup xs, .tup ys => D.eqvs xs ys
  | .tpn xs, .tpn ys => D.eqvs xs ys
  | .tup xs, .tpn ys => D.eqvs xs ys
  | .tpn xs, .tup ys => D.eqvs xs ys
  | _, _ => false
def D.eqvs : List D → List D → Bool
  | [], [] => true
  | x :: xs, y :: ys => D.eqv x y && D.eqvs xs ys
  | _, _ => false
end
mutual
def D.py : D → PyData
  | .non => .none
  | .bl b => .bool b
  | .int i => .int i
  | .str x => .str x
  | .tup xs => .tuple (D.pys xs)
  | .lst xs => .list (D.pys xs)
  | .loc _ => .none
  | .fz _ => .none
  | .fn _ => .none
  | .tpn xs => .tuple (D.pys xs)
  | .dct _ => .none
  | .ins _ _ _ => .none
  | .dks _ _ => .none
  | .obj _ _ => .none
  | .dkc _ => .none
  | .gfn _ => .none
def D.pys : List D → List PyData
  | [] => []
  | x :: xs => D.py x :: D.pys xs
end
mutual
theorem py_eqv : ∀ (d e : D), d.pure = true → e.pure = true → PyData.eqv d.py e.py = D.eqv d e
  | .tup xs, .tup ys, h, k => by
    rw [D.pure] at h k
    simp only [D.py, PyData.eqv, D.eqv]; exact pys_eqv xs ys h k
  | .lst xs, .lst ys, h, k => by
    rw [D.pure] at h k
    simp only [D.py, PyData.eqv, D.eqv]; exact pys_eqv xs ys h k
  | .non, e, h, k => by cases e <;> simp [D.py, PyData.eqv, D.eqv, D.pure] at k ⊢
  | .bl b, e, h, k => by cases e <;> simp [D.py, PyData.eqv, D.eqv, D.pure] at k ⊢
  | .int b, e, h, k => by cases e <;> simp [D.py, PyData.eqv, D.eqv, D.pure] at k ⊢
  | .str b, e, h, k => by cases e <;> simp [D.py, PyData.eqv, D.eqv, D.pure] at k ⊢
  | .loc n, e, h, k => by simp [D.pure] at h
  | .fz n, e, h, k => by simp [D.pure] at h
  | .fn n, e, h, k => by simp [D.pure] at h
  | .dct n, e, h, k => by simp [D.pure] at h
  | .ins n n2 n3, e, h, k => by simp [D.pure] at h
  | .dks n n2, e, h, k => by simp [D.pure] at h
  | .obj n n2, e, h, k => by simp [D.pure] at h
  | .dkc n, e, h, k => by simp [D.pure] at h
  | .gfn n, e, h, k => by simp [D.pure] at h
  | .tup xs, .dct b, h, k => by simp [D.pure] at k
  | .tup xs, .ins b _ _, h, k => by simp [D.pure] at k
  | .tup xs, .dks b _, h, k => by simp [D.pure] at k
  | .tup xs, .obj b _, h, k => by simp [D.pure] at k
  | .tup xs, .dkc b, h, k => by simp [D.pure] at k
  | .tup xs, .gfn b, h, k => by simp [D.pure] at k
  | .lst xs, .dct b, h, k => by simp [D.pure] at k
  | .lst xs, .ins b _ _, h, k => by simp [D.pure] at k
  | .lst xs, .dks b _, h, k => by simp [D.pure] at k
  | .lst xs, .obj b _, h, k => by simp [D.pure] at k
  | .lst xs, .dkc b, h, k => by simp [D.pure] at k
  | .lst xs, .gfn b, h, k => by simp [D.pure] at k
  | .tpn xs, .dct b, h, k => by simp [D.pure] at k
  | .tpn xs, .ins b _ _, h, k => by simp [D.pure] at k
  | .tpn xs, .dks b _, h, k => by simp [D.pure] at k
  | .tpn xs, .obj b _, h, k => by simp [D.pure] at k
  | .tpn xs, .dkc b, h, k => by simp [D.pure] at k
  | .tpn xs, .gfn b, h, k => by simp [D.pure] at k
  | .tup xs, .fn b, h, k => by simp [D.pure] at k
  | .lst xs, .fn b, h, k => by simp [D.pure] at k
  | .tup xs, .fz b, h, k => by simp [D.pure] at k
  | .lst xs, .fz b, h, k => by simp [D.pure] at k
  | .tup xs, .non, h, k => by simp [D.py, PyData.eqv, D.eqv]
  | .tup xs, .bl b, h, k => by simp [D.py, PyData.eqv, D.eqv]
  | .tup xs, .int b, h, k => by simp [D.py, PyData.eqv, D.eqv]
  | .tup xs, .str b, h, k => by simp [D.py, PyData.eqv, D.eqv]
  | .tup xs, .lst b, h, k => by simp [D.py, PyData.eqv, D.eqv]
  | .tup xs, .loc b, h, k => by simp [D.pure] at k
  | .lst xs, .non, h, k => by simp [D.py, PyData.eqv, D.eqv]
  | .lst xs, .bl b, h, k => by simp [D.py, PyData.eqv, D.eqv]
  | .lst xs, .int b, h, k => by simp [D.py, PyData.eqv, D.eqv]
  | .lst xs, .str b, h, k => by simp [D.py, PyData.eqv, D.eqv]
  | .lst xs, .tup b, h, k => by simp [D.py, PyData.eqv, D.eqv]
  | .lst xs, .loc b, h, k => by simp [D.pure] at k
  | .tpn xs, .tpn ys, h, k => by
    rw [D.pure] at h k
    simp only [D.py, PyData.eqv, D.eqv]; exact pys_eqv xs ys h k
  | .tup xs, .tpn ys, h, k => by
    rw [D.pure] at h
    rw [D.pure] at k
    simp only [D.py, PyData.eqv, D.eqv]; exact pys_eqv xs ys h k
  | .tpn xs, .tup ys, h, k => by
    rw [D.pure] at h
    rw [D.pure] at k
    simp only [D.py, PyData.eqv, D.eqv]; exact pys_eqv xs ys h k
  | .lst xs, .tpn b, h, k => by simp [D.py, PyData.eqv, D.eqv]
  | .tpn xs, .lst b, h, k => by simp [D.py, PyData.eqv, D.eqv]
  | .tpn xs, .non, h, k => by simp [D.py, PyData.eqv, D.eqv]
  | .tpn xs, .bl b, h, k => by simp [D.py, PyData.eqv, D.eqv]
  | .tpn xs, .int b, h, k => by simp [D.py, PyData.eqv, D.eqv]
  | .tpn xs, .str b, h, k => by simp [D.py, PyData.eqv, D.eqv]
  | .tpn xs, .loc b, h, k => by simp [D.pure] at k
  | .tpn xs, .fz b, h, k => by simp [D.pure] at k
  | .tpn xs, .fn b, h, k => by simp [D.pure] at k
theorem pys_eqv : ∀ (xs ys : List D), D.pures xs = true → D.pures ys = true → PyData.eqvAll (D.pys xs) (D.pys ys) = D.eqvs xs ys
  | [], [], _, _ => by simp [D.pys, PyData.eqvAll, D.eqvs]
  | [], y :: ys, _, _ => by simp [D.pys, PyData.eqvAll, D.eqvs]
  | x :: xs, [], _, _ => by simp [D.pys, PyData.eqvAll, D.eqvs]
  | x :: xs, y :: ys, h, k => by
    simp only [D.pures, Bool.and_eq_true] at h k
    simp only [D.pys, PyData.eqvAll, D.eqvs]
    rw [py_eqv x y h.1 k.1, pys_eqv xs ys h.2 k.2]
end
/-- the datum with the store's list at its top told -/
def told (S : Store) : D → D
  | .loc n => match S[n]? with
    | some ds => .lst ds
    | none => .loc n
  | d => d
mutual
theorem dp_of {K : PySem.W.Frag} {F H : Hp} {μ : List MA} (e : Ex F H) : ∀ {d : D} {v : V}, Rep K F μ d v → d.pure = true → Dp K H v d.py
  | _, _, .non, _ => by rw [D.py]; exact .non
  | _, _, .bl b, _ => by rw [D.py]; exact .bl b
  | _, _, .int i, _ => by rw [D.py]; exact .int i
  | _, _, .str x, _ => by rw [D.py]; exact .str x
  | _, _, .tup h r, p => by rw [D.pure] at p; rw [D.py]; exact .tup (ex_t e h) (dps_of e r p)
  | _, _, .lst h r, p => by rw [D.pure] at p; rw [D.py]; exact .lst (sq_of (e _ _ h)) (dps_of e r p)
  | _, _, .loc h, p => by simp [D.pure] at p
  | _, _, .fz h r, p => by simp [D.pure] at p
  | _, _, .fn h r, p => by simp [D.pure] at p
  | _, _, .dct h, p => by simp [D.pure] at p
  | _, _, .ins h k r, p => by simp [D.pure] at p
  | _, _, .dks h k r, p => by simp [D.pure] at p
  | _, _, .obj h, p => by simp [D.pure] at p
  | _, _, .dkc h, p => by simp [D.pure] at p
  | _, _, .gfn, p => by simp [D.pure] at p
  | _, _, .tpn h k r, p => by rw [D.pure] at p; rw [D.py]; exact .tup (ex_t e (.inl (.inr ⟨_, h⟩))) (dps_of e r p)
theorem dps_of {K : PySem.W.Frag} {F H : Hp} {μ : List MA} (e : Ex F H) : ∀ {ds : List D} {vs : List V}, Reps K F μ ds vs → D.pures ds = true → DpAll K H vs (D.pys ds)
  | _, _, .nil, _ => by rw [D.pys]; exact .nil
  | _, _, .cons h r, p => by
    simp only [D.pures, Bool.and_eq_true] at p
    rw [D.pys]; exact .cons (dp_of e h p.1) (dps_of e r p.2)
end
theorem dp_told {K : PySem.W.Frag} {F H : Hp} {μ : List MA} {S : Store} {d : D} {v : V} (s : SR K T F μ S H) (r : Rep K F μ d v) (p : (told S d).pure = true) : Dp K H v (told S d).py := by
  cases r with
  | loc hm =>
    obtain ⟨es, vs, h1, h2, h3, _⟩ := s.get hm
    simp only [told, h1] at p ⊢
    rw [D.pure] at p
    rw [D.py]
    exact .lst (sq_of h2) (dps_of s.ex h3 p)
  | tup h r => exact dp_of s.ex (.tup h r) p
  | tpn h k r => exact dp_of s.ex (.tpn h k r) p
  | lst h r => exact dp_of s.ex (.lst h r) p
  | fz h r => simp [told, D.pure] at p
  | fn h r => simp [told, D.pure] at p
  | dct h => simp [told, D.pure] at p
  | ins h k r => simp [told, D.pure] at p
  | dks h k r => simp [told, D.pure] at p
  | obj h => simp [told, D.pure] at p
  | dkc h => simp [told, D.pure] at p
  | gfn => simp [told, D.pure] at p
  | non => exact dp_of (μ := μ) s.ex .non p
  | bl b => exact dp_of (μ := μ) s.ex (.bl b) p
  | int b => exact dp_of (μ := μ) s.ex (.int b) p
  | str b => exact dp_of (μ := μ) s.ex (.str b) p
def eqOk (d : D) : Bool := d.pure && SeqAt.shaped d.py
def oEq : Op2 := fun x y S => if eqOk (told S x) = true ∧ eqOk (told S y) = true then some (.ok (.bl (D.eqv (told S x) (told S y))), S) else none
def oNe : Op2 := fun x y S => if eqOk (told S x) = true ∧ eqOk (told S y) = true then some (.ok (.bl (!D.eqv (told S x) (told S y))), S) else none
theorem oEq_ok : OpOk X T false (rEqD X.K) oEq := by
  intro F μ S H x y v u Q er s rx ry h
  unfold oEq at h
  split at h
  · rename_i hc
    obtain ⟨h1, h2⟩ := hc
    unfold eqOk at h1 h2
    rw [Bool.and_eq_true] at h1 h2
    refine ⟨_, _, dp_told s rx h1.1, dp_told s ry h2.1, h1.2, h2.2, ?_⟩
    rw [py_eqv _ _ h1.1 h2.1]
    exact gp_val h s (.bl _)
  · exact h.elim
theorem oNe_ok : OpOk X T false (rNeD X.K) oNe := by
  intro F μ S H x y v u Q er s rx ry h
  unfold oNe at h
  split at h
  · rename_i hc
    obtain ⟨h1, h2⟩ := hc
    unfold eqOk at h1 h2
    rw [Bool.and_eq_true] at h1 h2
    refine ⟨_, _, dp_told s rx h1.1, dp_told s ry h2.1, h1.2, h2.2, ?_⟩
    rw [py_eqv _ _ h1.1 h2.1]
    exact gp_val h s (.bl _)
  · exact h.elim
/-- is None, is not None -/
def oIsN : Op2 := fun x y S => match y with
  | .non => some (.ok (.bl (match x with | .non => true | _ => false)), S)
  | _ => none
def oNotN : Op2 := fun x y S => match y with
  | .non => some (.ok (.bl (match x with | .non => false | _ => true)), S)
  | _ => none
theorem oIsN_ok : OpOk X T false (fun x y H Q => y = .non ∧ Q (.bl (decide (x = .non))) H) oIsN := by
  intro F μ S H x y v u Q er s rx ry h
  unfold oIsN at h
  cases ry with
  | non =>
    refine ⟨rfl, ?_⟩
    cases rx <;> exact gp_val h s (.bl _)
  | _ => exact h.elim
theorem oNotN_ok : OpOk X T false (fun x y H Q => y = .non ∧ Q (.bl (!decide (x = .non))) H) oNotN := by
  intro F μ S H x y v u Q er s rx ry h
  unfold oNotN at h
  cases ry with
  | non =>
    refine ⟨rfl, ?_⟩
    cases rx <;> exact gp_val h s (.bl _)
  | _ => exact h.elim
/-! ### in, not in: flat things -/
def flatD : D → Bool
  | .non => true
  | .bl _ => true
  | .int _ => true
  | .str _ => true
  | _ => false
theorem flat_rep {K : PySem.W.Frag} {F : Hp} {μ : List MA} {d : D} {v : V} (r : Rep K F μ d v) (h : flatD d = true) : flatV v = true := by cases r <;> first | rfl | cases h
theorem flats_rep {K : PySem.W.Frag} {F : Hp} {μ : List MA} : ∀ {ds : List D} {vs : List V}, Reps K F μ ds vs → ds.all flatD = true → vs.all flatV = true
  | _, _, .nil, _ => rfl
  | _, _, .cons h r, p => by
    simp only [List.all_cons, Bool.and_eq_true] at p ⊢
    exact ⟨flat_rep h p.1, flats_rep r p.2⟩
theorem eqv_flat {K : PySem.W.Frag} {F : Hp} {μ : List MA} {d e : D} {v u : V} (r : Rep K F μ d v) (q : Rep K F μ e u) (h : flatD d = true) (k : flatD e = true) : eqV v u = D.eqv d e := by
  cases r <;> cases q <;> first | cases h | cases k | skip
  all_goals simp [eqV, D.eqv]
theorem inV_rep {K : PySem.W.Frag} {F : Hp} {μ : List MA} {d : D} {v : V} (r : Rep K F μ d v) (h : flatD d = true) : ∀ {ds : List D} {vs : List V}, Reps K F μ ds vs → ds.all flatD = true → inV v vs = ds.any fun e => D.eqv e d
  | _, _, .nil, _ => rfl
  | _, _, .cons h1 r1, p => by
    simp only [List.all_cons, Bool.and_eq_true] at p
    have ih := inV_rep r h r1 p.2
    unfold inV at ih ⊢
    simp only [List.any_cons, ih, eqv_flat h1 r p.1 h]
def oIn (neg : Bool) : Op2 := fun x y S => match asS y S with
  | some ds => if flatD x = true ∧ ds.all flatD = true then some (.ok (.bl (if neg then !(ds.any fun e => D.eqv e x) else ds.any fun e => D.eqv e x)), S) else none
  | none => none
theorem oIn_ok {neg : Bool} : OpOk X T false (rIn X.K neg) (oIn neg) := by
  intro F μ S H x y v u Q er s rx ry h
  unfold oIn at h
  split at h
  · rename_i ds hq
    split at h
    · rename_i hc
      obtain ⟨a, vs, rfl, h1, h2⟩ := asS_ok s ry hq
      refine ⟨a, vs, rfl, h1, flat_rep rx hc.1, flats_rep h2 hc.2, ?_⟩
      rw [inV_rep rx hc.1 h2 hc.2]
      exact gp_val h s (.bl _)
    · exact h.elim
  · exact h.elim
/-- a sign in a text -/
def oInS (neg : Bool) : Op2 := fun x y S => match x, y with
  | .str i, .str j => some (.ok (.bl (if neg then !(!(Builtin.Str.occurrences j i 0 j.length 1).isEmpty) else !(Builtin.Str.occurrences j i 0 j.length 1).isEmpty)), S)
  | _, _ => none

/-! ### indexes -/
def oIx : Op2 := fun x y S => match y with
  | .int i => (match x with
    | .str z => if z.length ≤ lim then (match atI z.cps.toList i with
      | some c => some (.ok (.str ⟨#[c]⟩), S)
      | none => none) else none
    | x => match asS x S with
      | some ds => (match atI ds i with
        | some d => some (.ok d, S)
        | none => none)
      | none => none)
  | _ => none
theorem atI_rep {K : PySem.W.Frag} {F : Hp} {μ : List MA} {ds : List D} {vs : List V} {i : Int} {d : D} (r : Reps K F μ ds vs) (h : atI ds i = some d) : ∃ v, atI vs i = some v ∧ Rep K F μ d v := by
  unfold atI at h ⊢
  rw [← r.length]
  cases q : ixN ds.length i with
  | none => rw [q] at h; cases h
  | some j =>
    rw [q] at h
    exact r.get (i := j) (by simpa using h)
theorem oIx_ok : OpOk X T false (rIx X.K) oIx := by
  intro F μ S H x y v u Q er s rx ry h
  unfold oIx at h
  cases ry with
  | int i =>
    dsimp only at h
    split at h
    · rename_i z
      cases rx
      split at h
      · rename_i hz
        split at h
        · rename_i c hc
          exact .inr (.inr ⟨z, i, c, rfl, rfl, lim_ok hz, hc, gp_val h s (.str _)⟩)
        · exact h.elim
      · exact h.elim
    · split at h
      · rename_i ds hq
        split at h
        · rename_i d hd
          obtain ⟨a, vs, rfl, h1, h2⟩ := asS_ok s rx hq
          obtain ⟨w, e1, e2⟩ := atI_rep h2 hd
          rcases h1 with h1 | h1
          · exact .inl ⟨a, vs, i, w, rfl, rfl, h1, e1, gp_val h s e2⟩
          · exact .inr (.inl ⟨a, vs, i, w, rfl, rfl, h1, e1, gp_val h s e2⟩)
        · exact h.elim
      · exact h.elim
  | _ => exact h.elim
variable {W : WX}
theorem re_ix {e1 e2 : Expr} {a b : EX} {pos : Pos} (ha : RE T false X W e1 a) (hb : RE T false X W e2 b) (hs : PlainIx e2) : RE T false X W (.Subscript e1 e2 pos) (cBin oIx a b) := by
  obtain ⟨ta, pa, fa⟩ := ha
  obtain ⟨tb, pb, fb⟩ := hb
  exact ⟨_, pe_ix ix_seq pa pb hs, fun σ ρ F μ S H Q s hE g => two (e1 := e1) (e2 := e2) fa fb oIx_ok s hE g⟩

/-! ### slices -/
def cutL {α : Type} (xs : List α) (lo hi : Option Int) : List α := (xs.drop (HT.sIx xs.length 0 lo)).take (HT.sIx xs.length xs.length hi - HT.sIx xs.length 0 lo)
abbrev OX := Env → Store → Out (Option Int)
def RO (T : List (Addr × Str)) (X : Cx) (W : WX) (e : Option Expr) (c : OX) : Prop := ∃ t, PO X e t ∧
  ∀ σ ρ F μ S H (Q : Option Int → Hp → Prop), SR X.K T F μ S H → EnvR X.K F μ ρ σ → GP X.K T F μ (c ρ S) (fun o _ _ H' _ => Q o H') (ErW X.K X.mg fun cls dd H' => W cls dd σ H') → t σ H Q
def cNo : OX := fun _ S => some (.ok none, S)
def cPart (c : EX) : OX := fun ρ S => bindO (c ρ S) fun d S => match d with
  | .int i => some (.ok (some i), S)
  | _ => none
theorem ro_none : RO T X W none cNo := ⟨_, po_none, fun σ ρ F μ S H Q s hE g => GP.here g s⟩
theorem ro_some {e : Expr} {c : EX} (h : RE T false X W e c) : RO T X W (some e) (cPart c) := by
  obtain ⟨t, p, f⟩ := h
  refine ⟨_, po_some p, fun σ ρ F μ S H Q s hE g => f σ ρ F μ S H _ s hE (GP.seq g fun d F1 μ1 H1 S1 e1 p1 s1 g1 v r => ?_)⟩
  cases r with
  | int i => exact ⟨i, rfl, GP.here g1 s1⟩
  | _ => exact g1.elim
/-- t[lo:hi], a tuple or a text -/
def cSlice (a : EX) (lo hi : OX) : EX := fun ρ S => bindO (a ρ S) fun x S => bindO (lo ρ S) fun l S => bindO (hi ρ S) fun h S => match x with
  | .tup xs => some (.ok (.tup (cutL xs l h)), S)
  | .str z => if z.length ≤ lim then some (.ok (.str (cutS z l h)), S) else none
  | _ => none
/-- xs[lo:hi], a list: a new one -/
def cSliceL (a : EX) (lo hi : OX) : EX := fun ρ S => bindO (a ρ S) fun x S => bindO (lo ρ S) fun l S => bindO (hi ρ S) fun h S => match asL x S with
  | some xs => some (.ok (.lst (cutL xs l h)), S)
  | none => none
theorem sIx_all {n : Nat} {lo hi : Option Int} (h : HT.sIx n 0 lo = 0 ∧ HT.sIx n n hi = n) {α : Type} {xs : List α} (e : xs.length = n) : cutL xs lo hi = xs := by
  unfold cutL
  rw [e, h.1, h.2, List.drop_zero, Nat.sub_zero, ← e, List.take_length]
theorem Reps.cut {K : PySem.W.Frag} {F : Hp} {μ : List MA} {ds : List D} {vs : List V} (r : Reps K F μ ds vs) (lo hi : Option Int) : Reps K F μ (cutL ds lo hi) (cutV vs lo hi) := by
  unfold cutL cutV
  rw [r.length]
  exact (r.drop _).take _
theorem re_slice {e : Expr} {lo hi : Option Expr} {a : EX} {cl ch : OX} {pos p2 : Pos} (ha : RE T false X W e a) (hl : RO T X W lo cl) (hh : RO T X W hi ch) : RE T false X W (.Subscript e (.Slice lo hi none p2) pos) (cSlice a cl ch) := by
  obtain ⟨ta, pa, fa⟩ := ha
  obtain ⟨tl, pl, fl⟩ := hl
  obtain ⟨th, ph, fh⟩ := hh
  refine ⟨_, pe_slice (sl_tupA.or sl_str) pa pl ph, fun σ ρ F μ S H Q s hE g => ?_⟩
  refine fa σ ρ F μ S H _ s hE (GP.seq g fun x F1 μ1 H1 S1 e1 p1 s1 g1 v rx => ?_)
  refine fl σ ρ F1 μ1 S1 H1 _ s1 (hE.mono e1 p1) (GP.seq g1 fun l F2 μ2 H2 S2 e2 p2 s2 g2 => ?_)
  refine fh σ ρ F2 μ2 S2 H2 _ s2 ((hE.mono e1 p1).mono e2 p2) (GP.seq g2 fun h F3 μ3 H3 S3 e3 p3 s3 g3 => ?_)
  have rx := Rep.mono e3 p3 (Rep.mono e2 p2 rx)
  cases rx with
  | @tup a xs ds hq rs =>
    refine .inl ⟨a, xs, rfl, s3.sqT hq, fun hw => ?_, fun _ => gp_tup g3 s3 (rs.cut _ _)⟩
    dsimp only at g3
    rw [sIx_all hw rs.length] at g3
    exact gp_val g3 s3 (.tup hq rs)
  | str z =>
    dsimp only at g3
    split at g3
    · rename_i hz
      exact .inr ⟨z, rfl, lim_ok hz, gp_val g3 s3 (.str _)⟩
    · exact g3.elim
  | _ => exact g3.elim
theorem re_sliceL {e : Expr} {lo hi : Option Expr} {a : EX} {cl ch : OX} {pos p2 : Pos} (ha : RE T false X W e a) (hl : RO T X W lo cl) (hh : RO T X W hi ch) : RE T true X W (.Subscript e (.Slice lo hi none p2) pos) (cSliceL a cl ch) := by
  obtain ⟨ta, pa, fa⟩ := ha
  obtain ⟨tl, pl, fl⟩ := hl
  obtain ⟨th, ph, fh⟩ := hh
  refine ⟨_, pe_slice sl_list pa pl ph, fun σ ρ F μ S H Q s hE g => ?_⟩
  refine fa σ ρ F μ S H _ s hE (GP.seq g fun x F1 μ1 H1 S1 e1 p1 s1 g1 v rx => ?_)
  refine fl σ ρ F1 μ1 S1 H1 _ s1 (hE.mono e1 p1) (GP.seq g1 fun l F2 μ2 H2 S2 e2 p2 s2 g2 => ?_)
  refine fh σ ρ F2 μ2 S2 H2 _ s2 ((hE.mono e1 p1).mono e2 p2) (GP.seq g2 fun h F3 μ3 H3 S3 e3 p3 s3 g3 => ?_)
  have rx := Rep.mono e3 p3 (Rep.mono e2 p2 rx)
  split at g3
  · rename_i xs hq
    obtain ⟨a, vs, rfl, h1, h2⟩ := asL_ok s3 rx hq
    exact ⟨a, vs, rfl, h1, gp_lst g3 s3 (h2.cut _ _)⟩
  · exact g3.elim

/-! ### built-in functions -/
abbrev OpB := List D → Store → Out D
def BltOk (X : Cx) (T : List (Addr × Str)) (fr : Bool) (r : List V → Hp → VK → Prop) (o : OpB) : Prop := ∀ F μ S H ds vs Q er, SR X.K T F μ S H → Reps X.K F μ ds vs → GP X.K T F μ (o ds S) (OkV X.K fr Q) er → r vs H Q
def cBlt (o : OpB) (r : AX) : EX := fun ρ S => bindO (r ρ S) fun ds S => o ds S
section
variable {x : Str} {p pos : Pos} {e : Expr} {es : List Expr} {c : AX} {fr : Bool} {id Ty : String} {r : List V → Hp → VK → Prop} {o : OpB}
theorem re_callB (hc : CallR X (.builtin id) r) (ho : BltOk X T fr r o) (hm : X.mg x = none) (hv : bootBuiltins x = some (.builtin id)) (ha : RA T X W (e :: es) c) (hg : Gl X x := by rfl) (hn : x ≠ "__name__" := by decide) (hdb : (x == ("__debug__" : Str)) = false := by decide)
    (he : starEach (e :: es) X.env = (false, eval e X.env) :: starEach es X.env := by rfl) (hpl : (backTo pos (starEach es X.env)).any (·.1) = false := by rfl) : RE T fr X W (.Call (.Name x p) (e :: es) [] pos) (cBlt o c) := by
  obtain ⟨t, pa, f⟩ := ha
  exact ⟨_, pe_callB hc hg hm hv pa hn hdb he hpl, fun σ ρ F μ S H Q s hE g => f σ ρ F μ S H _ s hE (GP.seq g fun ds F1 μ1 H1 S1 e1 p1 s1 g1 vs rs => ho F1 μ1 S1 H1 ds vs Q _ s1 rs g1)⟩
theorem re_callTy (hc : CallR X (.type Ty) r) (ho : BltOk X T fr r o) (hm : X.mg x = none) (hv : bootBuiltins x = some (.type Ty)) (ha : RA T X W (e :: es) c) (hg : Gl X x := by rfl) (hn : x ≠ "__name__" := by decide) (hdb : (x == ("__debug__" : Str)) = false := by decide)
    (he : starEach (e :: es) X.env = (false, eval e X.env) :: starEach es X.env := by rfl) (hpl : (backTo pos (starEach es X.env)).any (·.1) = false := by rfl) : RE T fr X W (.Call (.Name x p) (e :: es) [] pos) (cBlt o c) := by
  obtain ⟨t, pa, f⟩ := ha
  exact ⟨_, pe_callTy hc hg hm hv pa hn hdb he hpl, fun σ ρ F μ S H Q s hE g => f σ ρ F μ S H _ s hE (GP.seq g fun ds F1 μ1 H1 S1 e1 p1 s1 g1 vs rs => ho F1 μ1 S1 H1 ds vs Q _ s1 rs g1)⟩
end
def bLen : OpB := fun ds S => match ds with
  | [.str z] => if z.length ≤ lim then some (.ok (.int z.length), S) else none
  | [d] => (match asS d S with
    | some xs => some (.ok (.int xs.length), S)
    | none => none)
  | _ => none
theorem Reps.inv1 {K : PySem.W.Frag} {F : Hp} {μ : List MA} {d : D} {vs : List V} (h : Reps K F μ [d] vs) : ∃ v, vs = [v] ∧ Rep K F μ d v := by
  cases h with
  | cons h r => cases r; exact ⟨_, rfl, h⟩
theorem Reps.inv2 {K : PySem.W.Frag} {F : Hp} {μ : List MA} {d e : D} {vs : List V} (h : Reps K F μ [d, e] vs) : ∃ v u, vs = [v, u] ∧ Rep K F μ d v ∧ Rep K F μ e u := by
  cases h with
  | cons h r =>
    obtain ⟨u, rfl, h2⟩ := r.inv1
    exact ⟨_, u, rfl, h, h2⟩
theorem bLen_ok : BltOk X T false (fun xs H Q => ∃ x n, xs = [x] ∧ LenV X.K x H n ∧ Q (.int n) H) bLen := by
  intro F μ S H ds vs Q er s rs h
  unfold bLen at h
  split at h
  · rename_i z
    obtain ⟨v, rfl, r⟩ := rs.inv1
    cases r
    split at h
    · rename_i hz
      exact ⟨_, z.length, rfl, ⟨lim_ok hz, rfl⟩, gp_val h s (.int _)⟩
    · exact h.elim
  · rename_i d _
    obtain ⟨v, rfl, r⟩ := rs.inv1
    split at h
    · rename_i xs hq
      obtain ⟨a, ws, rfl, h1, h2⟩ := asS_ok s r hq
      refine ⟨_, xs.length, rfl, ?_, gp_val h s (.int _)⟩
      rcases h1 with h1 | h1
      · exact .inl ⟨ws, h1, h2.length⟩
      · exact .inr ⟨ws, h1, h2.length⟩
    · exact h.elim
  · exact h.elim
def bAbs : OpB := fun ds S => match ds with
  | [.int i] => some (.ok (.int (if i < 0 then -i else i)), S)
  | _ => none
theorem bAbs_ok : BltOk X T false (fun xs H Q => ∃ i, xs = [.int i] ∧ Q (.int (if i < 0 then -i else i)) H) bAbs := by
  intro F μ S H ds vs Q er s rs h
  unfold bAbs at h
  split at h
  · obtain ⟨v, rfl, r⟩ := rs.inv1
    cases r
    exact ⟨_, rfl, gp_val h s (.int _)⟩
  · exact h.elim
def bInt : OpB := fun ds S => match ds with
  | [.int i] => some (.ok (.int i), S)
  | [.bl k] => some (.ok (.int (if k then 1 else 0)), S)
  | _ => none
theorem bInt_ok : BltOk X T false (fun xs H Q => (∃ i, xs = [.int i] ∧ Q (.int i) H) ∨ ∃ k, xs = [.bl k] ∧ Q (.int (if k then 1 else 0)) H) bInt := by
  intro F μ S H ds vs Q er s rs h
  unfold bInt at h
  split at h
  · obtain ⟨v, rfl, r⟩ := rs.inv1
    cases r
    exact .inl ⟨_, rfl, gp_val h s (.int _)⟩
  · obtain ⟨v, rfl, r⟩ := rs.inv1
    cases r
    exact .inr ⟨_, rfl, gp_val h s (.int _)⟩
  · exact h.elim
def bMin2 : OpB := fun ds S => match ds with
  | [.int i, .int j] => some (.ok (.int (if j < i then j else i)), S)
  | _ => none
def bMax2 : OpB := fun ds S => match ds with
  | [.int i, .int j] => some (.ok (.int (if j > i then j else i)), S)
  | _ => none
theorem bMin2_ok : BltOk X T false (fun xs H Q => ∃ i j, xs = [.int i, .int j] ∧ Q (.int (if j < i then j else i)) H) bMin2 := by
  intro F μ S H ds vs Q er s rs h
  unfold bMin2 at h
  split at h
  · obtain ⟨v, u, rfl, r1, r2⟩ := rs.inv2
    cases r1; cases r2
    exact ⟨_, _, rfl, gp_val h s (.int _)⟩
  · exact h.elim
theorem bMax2_ok : BltOk X T false (fun xs H Q => ∃ i j, xs = [.int i, .int j] ∧ Q (.int (if j > i then j else i)) H) bMax2 := by
  intro F μ S H ds vs Q er s rs h
  unfold bMax2 at h
  split at h
  · obtain ⟨v, u, rfl, r1, r2⟩ := rs.inv2
    cases r1; cases r2
    exact ⟨_, _, rfl, gp_val h s (.int _)⟩
  · exact h.elim
/-- lists of ints, of bools -/
def intsOf : List D → Option (List Int)
  | [] => some []
  | .int i :: ds => (intsOf ds).map (i :: ·)
  | _ => none
def blsOf : List D → Option (List Bool)
  | [] => some []
  | .bl i :: ds => (blsOf ds).map (i :: ·)
  | _ => none
theorem ints_rep {K : PySem.W.Frag} {F : Hp} {μ : List MA} : ∀ {ds : List D} {vs : List V} {ns : List Int}, Reps K F μ ds vs → intsOf ds = some ns → vs = ns.map V.int
  | _, _, _, .nil, h => by simp [intsOf] at h; subst h; rfl
  | _, _, _, .cons h1 r, h => by
    cases h1 with
    | int i =>
      simp only [intsOf, Option.map_eq_some_iff] at h
      obtain ⟨ms, h2, rfl⟩ := h
      rw [ints_rep r h2]; rfl
    | _ => simp [intsOf] at h
theorem bls_rep {K : PySem.W.Frag} {F : Hp} {μ : List MA} : ∀ {ds : List D} {vs : List V} {ns : List Bool}, Reps K F μ ds vs → blsOf ds = some ns → vs = ns.map V.bl
  | _, _, _, .nil, h => by simp [blsOf] at h; subst h; rfl
  | _, _, _, .cons h1 r, h => by
    cases h1 with
    | bl i =>
      simp only [blsOf, Option.map_eq_some_iff] at h
      obtain ⟨ms, h2, rfl⟩ := h
      rw [bls_rep r h2]; rfl
    | _ => simp [blsOf] at h
theorem reps_ints {K : PySem.W.Frag} {F : Hp} {μ : List MA} : ∀ (ns : List Int), Reps K F μ (ns.map D.int) (ns.map V.int)
  | [] => .nil
  | n :: ns => .cons (.int n) (reps_ints ns)
/-- a list by its ints -/
def bL1 {α : Type} (of : List D → Option (List α)) (g : List α → Option D) : OpB := fun ds S => match ds with
  | [d] => (match asL d S with
    | some xs => (match of xs with
      | some ns => (match g ns with
        | some z => some (.ok z, S)
        | none => none)
      | none => none)
    | none => none)
  | _ => none
theorem bL1_ok {α : Type} {of : List D → Option (List α)} {g : List α → Option D} {F : Hp} {μ : List MA} {S : Store} {H : Hp} {ds : List D} {vs : List V} {fr : Bool} {Q : VK} {er}
    (s : SR X.K T F μ S H) (rs : Reps X.K F μ ds vs) (h : GP X.K T F μ (bL1 of g ds S) (OkV X.K fr Q) er) :
    ∃ a ws xs ns z, vs = [.ref a] ∧ SqL X.K H a ws ∧ Reps X.K F μ xs ws ∧ of xs = some ns ∧ g ns = some z ∧ GP X.K T F μ (some (.ok z, S)) (OkV X.K fr Q) er := by
  unfold bL1 at h
  split at h
  · obtain ⟨v, rfl, r⟩ := rs.inv1
    split at h
    · rename_i xs hq
      split at h
      · rename_i ns hn
        split at h
        · rename_i z hz
          obtain ⟨a, ws, rfl, h1, h2⟩ := asL_ok s r hq
          exact ⟨a, ws, xs, ns, z, rfl, h1, h2, hn, hz, h⟩
        · exact h.elim
      · exact h.elim
    · exact h.elim
  · exact h.elim
def bSum : OpB := bL1 intsOf fun ns => some (.int ns.sum)
theorem bSum_ok : BltOk X T false (rSum X.K) bSum := by
  intro F μ S H ds vs Q er s rs h
  obtain ⟨a, ws, xs, ns, z, rfl, h1, h2, h3, h4, h5⟩ := bL1_ok s rs h
  cases h4
  rw [ints_rep h2 h3] at h1
  exact ⟨a, ns, rfl, h1, gp_val h5 s (.int _)⟩
def bAll : OpB := bL1 blsOf fun ns => some (.bl (ns.all id))
theorem bAll_ok : BltOk X T false (rAll X.K) bAll := by
  intro F μ S H ds vs Q er s rs h
  obtain ⟨a, ws, xs, ns, z, rfl, h1, h2, h3, h4, h5⟩ := bL1_ok s rs h
  cases h4
  rw [bls_rep h2 h3] at h1
  exact ⟨a, ns, rfl, h1, gp_val h5 s (.bl _)⟩
def bAny : OpB := bL1 blsOf fun ns => some (.bl (ns.any id))
theorem bAny_ok : BltOk X T false (rAny X.K) bAny := by
  intro F μ S H ds vs Q er s rs h
  obtain ⟨a, ws, xs, ns, z, rfl, h1, h2, h3, h4, h5⟩ := bL1_ok s rs h
  cases h4
  rw [bls_rep h2 h3] at h1
  exact ⟨a, ns, rfl, h1, gp_val h5 s (.bl _)⟩
def bMax : OpB := bL1 intsOf fun ns => ns.max?.map D.int
def bMin : OpB := bL1 intsOf fun ns => ns.min?.map D.int
theorem bMax_ok : BltOk X T false (rMax X.K) bMax := by
  intro F μ S H ds vs Q er s rs h
  obtain ⟨a, ws, xs, ns, z, rfl, h1, h2, h3, h4, h5⟩ := bL1_ok s rs h
  rw [Option.map_eq_some_iff] at h4
  obtain ⟨m, h6, rfl⟩ := h4
  rw [ints_rep h2 h3] at h1
  obtain ⟨q1, q2⟩ := List.max?_eq_some_iff.mp h6
  refine ⟨a, ns, rfl, h1, List.length_pos_of_mem q1, fun m' k1 k2 => ?_⟩
  have e : m' = m := Int.le_antisymm (q2 m' k1) (k2 m q1)
  subst e
  exact gp_val h5 s (.int _)
theorem bMin_ok : BltOk X T false (rMin X.K) bMin := by
  intro F μ S H ds vs Q er s rs h
  obtain ⟨a, ws, xs, ns, z, rfl, h1, h2, h3, h4, h5⟩ := bL1_ok s rs h
  rw [Option.map_eq_some_iff] at h4
  obtain ⟨m, h6, rfl⟩ := h4
  rw [ints_rep h2 h3] at h1
  obtain ⟨q1, q2⟩ := List.min?_eq_some_iff.mp h6
  refine ⟨a, ns, rfl, h1, List.length_pos_of_mem q1, fun m' k1 k2 => ?_⟩
  have e : m' = m := Int.le_antisymm (k2 m q1) (q2 m' k1)
  subst e
  exact gp_val h5 s (.int _)
/-- sorted ints -/
def insI (x : Int) : List Int → List Int
  | [] => [x]
  | y :: ys => if x ≤ y then x :: y :: ys else y :: insI x ys
def sortI : List Int → List Int
  | [] => []
  | x :: xs => insI x (sortI xs)
theorem insI_perm (x : Int) : ∀ ys, (insI x ys).Perm (x :: ys)
  | [] => .refl _
  | y :: ys => by
    unfold insI
    split
    · exact .refl _
    · exact ((insI_perm x ys).cons y).trans (.swap x y ys)
theorem sortI_perm : ∀ xs, (sortI xs).Perm xs
  | [] => .refl _
  | x :: xs => (insI_perm x _).trans ((sortI_perm xs).cons x)
theorem insI_sorted (x : Int) : ∀ {ys : List Int}, ys.Pairwise (· ≤ ·) → (insI x ys).Pairwise (· ≤ ·)
  | [], _ => by simp [insI]
  | y :: ys, h => by
    unfold insI
    split
    · rename_i hxy
      rw [List.pairwise_cons] at h ⊢
      refine ⟨fun z hz => ?_, List.pairwise_cons.mpr h⟩
      rcases List.mem_cons.mp hz with e | hz
      · rw [e]; exact hxy
      · exact Int.le_trans hxy (h.1 z hz)
    · rename_i hxy
      rw [List.pairwise_cons] at h ⊢
      refine ⟨fun z hz => ?_, insI_sorted x h.2⟩
      rcases List.mem_cons.mp ((insI_perm x ys).mem_iff.mp hz) with e | hz
      · rw [e]; omega
      · exact h.1 z hz
theorem sortI_sorted : ∀ xs, (sortI xs).Pairwise (· ≤ ·)
  | [] => .nil
  | x :: xs => insI_sorted x (sortI_sorted xs)
theorem sorted_unique {xs ys : List Int} (h : xs.Perm ys) (h1 : xs.Pairwise (· ≤ ·)) (h2 : ys.Pairwise (· ≤ ·)) : xs = ys :=
  h.eq_of_pairwise (fun a b _ _ h1 h2 => Int.le_antisymm h1 h2) h1 h2
def bSorted : OpB := bL1 intsOf fun ns => some (.lst ((sortI ns).map D.int))
theorem bSorted_ok : BltOk X T true (rSortedI X.K) bSorted := by
  intro F μ S H ds vs Q er s rs h
  obtain ⟨a, ws, xs, ns, z, rfl, h1, h2, h3, h4, h5⟩ := bL1_ok s rs h
  cases h4
  rw [ints_rep h2 h3] at h1
  refine ⟨a, ns, rfl, h1, fun ns' p k1 k2 hp => ?_⟩
  have e : ns' = sortI ns := sorted_unique (k1.trans (sortI_perm ns).symm) k2 (sortI_sorted ns)
  subst e
  exact gp_lst h5 s (reps_ints _) p hp
/-- list(xs), tuple(xs) -/
def bList : OpB := fun ds S => match ds with
  | [d] => (match asS d S with
    | some xs => some (.ok (.lst xs), S)
    | none => none)
  | _ => none
def bTuple : OpB := fun ds S => match ds with
  | [d] => (match asS d S with
    | some xs => some (.ok (.tup xs), S)
    | none => none)
  | _ => none
theorem bList_ok : BltOk X T true (fun xs H Q => ∃ p ys, xs = [.ref p] ∧ (SqL X.K H p ys ∨ SqT X.K H p ys) ∧ ∀ l, H l = none → Q (.ref l) (upd H l (.lst ys))) bList := by
  intro F μ S H ds vs Q er s rs h
  unfold bList at h
  split at h
  · obtain ⟨v, rfl, r⟩ := rs.inv1
    split at h
    · rename_i xs hq
      obtain ⟨a, ws, rfl, h1, h2⟩ := asS_ok s r hq
      exact ⟨a, ws, rfl, h1, gp_lst h s h2⟩
    · exact h.elim
  · exact h.elim
theorem bTuple_ok : BltOk X T false (fun xs H Q => ∃ p ys, xs = [.ref p] ∧ ((SqL X.K H p ys ∧ ∀ l, H l = none → Q (.ref l) (upd H l (.tup ys))) ∨ (SqT X.K H p ys ∧ Q (.ref p) H))) bTuple := by
  intro F μ S H ds vs Q er s rs h
  unfold bTuple at h
  split at h
  · obtain ⟨v, rfl, r⟩ := rs.inv1
    split at h
    · rename_i xs hq
      cases r with
      | @tup a ws es hT r2 =>
        simp [asS] at hq
        subst hq
        exact ⟨a, ws, rfl, .inr ⟨s.sqT hT, gp_val h s (.tup hT r2)⟩⟩
      | lst hl r2 =>
        obtain ⟨a, ws, e, h1, h2⟩ := asL_ok s (.lst hl r2) (ds := xs) (by simpa [asS] using hq)
        cases e
        exact ⟨_, ws, rfl, .inl ⟨h1, gp_tup h s h2⟩⟩
      | fz hl r2 =>
        obtain ⟨a, ws, e, h1, h2⟩ := asL_ok s (.fz hl r2) (ds := xs) (by simpa [asS] using hq)
        cases e
        exact ⟨_, ws, rfl, .inl ⟨h1, gp_tup h s h2⟩⟩
      | loc hl =>
        obtain ⟨a, ws, e, h1, h2⟩ := asL_ok s (.loc hl) (ds := xs) (by simpa [asS] using hq)
        cases e
        exact ⟨_, ws, rfl, .inl ⟨h1, gp_tup h s h2⟩⟩
      | _ => simp [asS, asL] at hq
    · exact h.elim
  · exact h.elim
def bDivmod : OpB := fun ds S => match ds with
  | [.int i, .int j] => if 0 < j ∧ j < 1073741824 then some (.ok (.tup [.int (i / j), .int (i % j)]), S) else none
  | _ => none
theorem bDivmod_ok : BltOk X T false (fun xs H Q => ∃ i j, xs = [.int i, .int j] ∧ CDiv i j ∧ ∀ p, H p = none → Q (.ref p) (upd H p (.tup [.int (i / j), .int (i % j)]))) bDivmod := by
  intro F μ S H ds vs Q er s rs h
  unfold bDivmod at h
  split at h
  · obtain ⟨v, u, rfl, r1, r2⟩ := rs.inv2
    cases r1; cases r2
    split at h
    · rename_i hc
      exact ⟨_, _, rfl, hc, gp_tup h s (.cons (.int _) (.cons (.int _) .nil))⟩
    · exact h.elim
  · exact h.elim
/-! isinstance of the built-in types -/
inductive Ty where | int | bool | str | tuple | list | dict
def Ty.nm : Ty → String
  | .int => "int" | .bool => "bool" | .str => "str" | .tuple => "tuple" | .list => "list" | .dict => "dict"
def isTy : D → Ty → Bool
  | .int _, .int => true
  | .bl _, .int => true
  | .bl _, .bool => true
  | .str _, .str => true
  | .tup _, .tuple => true
  | .tpn _, .tuple => true
  | .lst _, .list => true
  | .loc _, .list => true
  | .fz _, .list => true
  | _, _ => false
def tyNm : D → String
  | .non => "NoneType" | .bl _ => "bool" | .int _ => "int" | .str _ => "str" | .tup _ => "tuple" | .lst _ => "list" | .loc _ => "list" | .fz _ => "list" | .fn _ => "function" | .tpn _ => "tuple" | .dct _ => "dict" | .ins _ _ _ => "object" | .dks _ _ => "dict" | .obj _ _ => "object" | .dkc _ => "dict" | .gfn _ => "function"
def D.isFn : D → Bool
  | .fn _ => true
  | .dct _ => true
  | .ins _ _ _ => true
  | .dks _ _ => true
  | .obj _ _ => true
  | .dkc _ => true
  | .gfn _ => true
  | _ => false
theorem kit_is (d : D) (t : Ty) (hf : d.isFn = false) : kitB (tyNm d) t.nm = some (isTy d t) := by
  cases d <;> first | (cases hf; done) | (cases t <;> (dsimp only [tyNm, isTy, Ty.nm]; decide +kernel))
theorem tyx_of {K : PySem.W.Frag} {F H : Hp} {μ : List MA} {S : Store} {d : D} {v : V} (s : SR K T F μ S H) (r : Rep K F μ d v) (hf : d.isFn = false) : TyX K H v (.type (tyNm d)) := by
  cases r with
  | fn h _ => cases hf
  | dct h => cases hf
  | ins h k r => cases hf
  | dks h k r => cases hf
  | obj h => cases hf
  | dkc h => cases hf
  | gfn => cases hf
  | tpn h _ _ => exact .fTuple (s.ex _ _ h)
  | non => exact .base .non
  | bl b => exact .base (.bl b)
  | int i => exact .base (.int i)
  | str x => exact .base (.str x)
  | tup h _ =>
    rcases h with (h | ⟨o, h⟩) | ⟨o, its, n, h1, h2, _⟩
    · exact .base (.tup (s.ex _ _ h))
    · exact .fTuple (s.ex _ _ h)
    · exact .kTuple h1 h2
  | lst h _ => exact .base (.lst (s.ex _ _ h))
  | fz h _ =>
    rcases h with (h | ⟨o, h⟩) | ⟨o, its, n, h1, h2, _⟩
    · exact .base (.lst (s.ex _ _ h))
    · exact .base (.frz (s.ex _ _ h))
    · exact .kList h1 h2
  | loc hm =>
    obtain ⟨es, vs, h1, h2, _⟩ := s.get hm
    exact .base (.lst h2)
def cIsi (t : Ty) (a : EX) : EX := fun ρ S => bindO (a ρ S) fun x S => if x.isFn = false then some (.ok (.bl (isTy x t)), S) else none
theorem re_isi {t : Ty} {tn : Str} {e : Expr} {a : EX} {p p2 pos : Pos} (ha : RE T false X W e a) (hm : X.mg "isinstance" = none) (hmt : X.mg tn = none) (hbt : bootBuiltins tn = some (.type t.nm)) (hg : Gl X "isinstance" := by rfl) (hgt : Gl X tn := by rfl)
    (hdt : (tn == ("__debug__" : Str)) = false := by decide) (hnt : tn ≠ "__name__" := by decide)
    (he : starEach [e, .Name tn p2] X.env = (false, eval e X.env) :: starEach [.Name tn p2] X.env := by rfl) (hpl : (backTo pos (starEach [.Name tn p2] X.env)).any (·.1) = false := by rfl) :
    RE T false X W (.Call (.Name "isinstance" p) [e, .Name tn p2] [] pos) (cIsi t a) := by
  obtain ⟨ta, pa, fa⟩ := ha
  refine ⟨_, pe_callB call_isi hg hm (by decide +kernel) (pa_cons pa (pa_cons (pe_bltn (v := .ty t.nm) hgt hmt hbt rfl hnt hdt) pa_nil) he) (by decide) (by decide) he hpl, fun σ ρ F μ S H Q s hE g => ?_⟩
  refine fa σ ρ F μ S H _ s hE (GP.seq g fun x F1 μ1 H1 S1 e1 p1 s1 g1 v rx => ?_)
  split at g1
  · rename_i hf
    exact ⟨v, .ty t.nm, _, _, isTy x t, rfl, .ty _, tyx_of s1 rx hf, kit_ty (kit_is x t hf), gp_val g1 s1 (.bl _)⟩
  · exact g1.elim
end
end PF
set_option Elab.async false
set_option linter.all false
set_option maxRecDepth 100000
set_option maxHeartbeats 4000000
/-! PF4: what a def promises (told while no text of an object is under way: the repr of data needs that), calls, repr. -/
namespace PF
open PySem L2 Evl PySem.Spec PyProof.Rows
/-- like the layer's FnOk, asked where no repr is running -/
structure FnG (P : Program) (w : World) (K : PySem.W.Frag) (mg : Str → Option Value) (base : Heap) (k : Nat) (f : Addr) (fd : FuncData) (ps : List Str) (sp : Sp) : Prop where
  len : ∀ vs H Q E, sp vs H Q E → vs.length = ps.length
  run : ∀ (A : Around) (outer : List PySem.Env) (s : Shared) (H : Hp) (args : Args) (us : List Value) (vs : List V) (Q : VK) (E : XK), Room k A → A.guards = some [] →
    Env0 P w K mg base A outer s H → BindsTo s fd args (ps.zip us) → Vals vs us → sp vs H Q E → codeAny (model P w) A (.call (.ref f) args) (CR (L2.CX P w) outer P w H s Q E) s
section
variable {P : Program} {w : World} {K : PySem.W.Frag} {mg : Str → Option Value} {base : Heap} {f : Addr} {ps : List Str} {sp : Sp} {k : Nat}
theorem FnG.mono {fd : FuncData} {j : Nat} (F : FnG P w K mg base j f fd ps sp) (h : j ≤ k) : FnG P w K mg base k f fd ps sp :=
  { len := F.len, run := fun A outer s H args us vs Q E r => F.run A outer s H args us vs Q E (Room.mono r h) }
/-- a def of the text, by its body -/
theorem fn_gT {x qual : Str} {params : Arguments} {body : List Stmt} {scope : Scope} {dvs : List V} {kws : List (Str × V)} {fd : FuncData} {N : List Str} (D : FunD K x qual params body scope dvs kws f fd) (sc : FnScope N ps scope) (hl : ∀ vs H Q E, sp vs H Q E → vs.length = ps.length)
    (bd : ∀ (cdv : Value) (A : Around) (outer : List PySem.Env) (s : Shared) (H : Hp) (vs : List V) (Q : VK) (E : XK), fd.code = cdv → Room k (A.deeper (envOfC qual scope s.heap.objs.size f cdv)) → A.guards = some [] → sp vs H Q E →
      ∃ t, PSs (cxOf (L2.CX P w) P w K mg base N qual scope f cdv A outer s H E) body t ∧ t { nx := fun _ H' => Q .non H', rt := Q } (start N vs) H) : FnG P w K mg base (k + 1) f fd ps sp := by
  obtain ⟨oc, od, dV, kV, doc, pm, an, cdv, ct, osl, rfl, lk, hcode, _, _⟩ := D.ex
  refine ⟨hl, fun A outer s H args us vs Q E room gu env bi rel want => ?_⟩
  have inK : K.In s.heap := PySem.W.Frag.In.keeps env.mod.kin fun b o q => (env.bs b o q).1
  have nolim : s.heap.NoLimit := Heap.NoLimit.keeps env.mod.nolimit fun b o q => (env.bs b o q).1
  have kinds : ∀ z ∈ ps.zip us, scope.names.lookup z.1 = some .local ∨ (scope.names.lookup z.1 = some .cell ∧ ((cellsFrom (s.heap.objs.size + 1) scope.names []).lookup z.1).isSome = true) := by
    rintro ⟨n, v⟩ hz
    have hn : n ∈ ps := (List.of_mem_zip hz).1
    cases sc.par n hn with
    | inl q => exact Or.inl q
    | inr q => exact Or.inr ⟨q, PySem.W.cellsFrom_some _ _ _ (Or.inl q)⟩
  refine codeAny_call_function room.depth (inK _ _ lk) rfl sc.co sc.gen rfl (PySem.W.codeRec_of inK hcode) (bi _ _ _ _ ?_)
  refine wpAny_newFunctionEnv_cells sc.kind kinds fun env' he s1 hs1 => ?_
  subst he
  refine ⟨Heap.NoLimit.keeps nolim hs1.toInCall.keep, codeAny_func ?_⟩
  obtain ⟨t, pt, rd⟩ := bd cdv A outer s H vs Q E rfl (Room.deeper room _) gu want
  have I0 := inv_start (CX := L2.CX P w) (mg := mg) (qual := qual) (f := f) (cd := cdv) (E := E) sc room.hd env (hl _ _ _ _ want) rel hs1
  refine wpAny_mono (pt.run [] s1 _ H _ I0 rd) ?_ (fun e s' q => q)
  intro fl s' q
  have close : ∀ (σ' : L2.St) (H' : Hp) (v : V) (u : Value), Inv (cxOf (L2.CX P w) P w K mg base N qual scope f cdv A outer s H E) [] σ' H' s' → RelV v u → Q v H' → CE outer P w H s Q u s' :=
    fun σ' H' v u J rv qq => Exists.intro v (Exists.intro H' ⟨J.os, J.bare, J.base, J.hok, rv, qq⟩)
  match fl, q with
  | .ret u, ⟨v, σ', H', J, rv, qq⟩ => exact close σ' H' v u J rv qq
  | .next, ⟨σ', H', J, qq⟩ => exact close σ' H' .non Value.none J rfl qq
  | .brk, ⟨_, _, _, z⟩ => exact z.elim
  | .cont, ⟨_, _, _, z⟩ => exact z.elim
end
/-- the callee runs -/
theorem run_g {X : Cx} {k : Nat} {f : Addr} {fd : FuncData} {ps : List Str} {sp : Sp} {E : XK} {pins : List (Addr × Obj)} {σ : L2.St} {H : Hp} {s : Shared} {Q : VK} {pos us : List Value} {kw : List (Str × Value)} {vs : List V}
    (F : FnG X.prog X.w X.K X.mg X.base k f fd ps sp) (hr : Room k X.A) (hg : X.A.guards = some []) (hb : BindsTo s fd ⟨pos, kw⟩ (ps.zip us)) (hx : PassesAt (L2.CX X.prog X.w) X σ E) (I : Inv X pins σ H s) (r : Vals vs us) (h : sp vs H Q E) :
    wpAny (model X.prog X.w) X.A (call (.ref f) pos kw) (EP X pins σ Q) X.xe s := by
  refine wpAny_call (codeAny_mono (F.run X.A X.stack s H ⟨pos, kw⟩ us vs Q E hr hg I.env0 hb r h) ?_)
  intro r s' q
  match r, q with
  | .error e, q => exact hx pins H s e s' I q
  | .ok (.ret u), q => exact Inv.after I q
  | .ok .next, q => exact q.elim
  | .ok .brk, q => exact q.elim
  | .ok .cont, q => exact q.elim

/-! ### the promise by a function of data -/
def spOf (K : PySem.W.Frag) (mg : Str → Option Value) (T : List (Addr × Str)) (fr : Bool) (n : Nat) (f : OpB) : Sp := fun vs H Q E =>
  ∃ F μ S ds, SR K T F μ S H ∧ Reps K F μ ds vs ∧ vs.length = n ∧ GP K T F μ (f ds S) (OkV K fr Q) (ErW K mg E)
/-- the def x of the module (no defaults) does f -/
structure DefG (P : Program) (w : World) (K : PySem.W.Frag) (mg : Str → Option Value) (base : Heap) (T : List (Addr × Str)) (k : Nat) (x : Str) (params : Arguments) (body : List Stmt) (scope : Scope) (ps : List Str) (fr : Bool) (o : OpB) : Prop where
  ex : ∃ f fd, FunD K x x params body scope [] [] f fd ∧ mg x = some (.ref f) ∧ FnG P w K mg base k f fd ps (spOf K mg T fr ps.length o)
theorem DefG.mono {P : Program} {w : World} {K : PySem.W.Frag} {mg : Str → Option Value} {base : Heap} {T : List (Addr × Str)} {j k : Nat} {x : Str} {params : Arguments} {body : List Stmt} {scope : Scope} {ps : List Str} {fr : Bool} {o : OpB}
    (h : DefG P w K mg base T j x params body scope ps fr o) (l : j ≤ k) : DefG P w K mg base T k x params body scope ps fr o := by
  obtain ⟨f, fd, a, b, c⟩ := h.ex
  exact ⟨f, fd, a, b, c.mono l⟩
/-- how positional values bind -/
def Posn (params : Arguments) (body : List Stmt) (scope : Scope) (x : Str) (ps : List Str) : Prop := ∀ (kV doc pm : Value) (an : Option Addr) (cdv ct : Value) (us : List Value), us.length = ps.length → bindArgs (PySem.W.fnOf x x params body scope .none kV doc pm an cdv ct) ⟨us, []⟩ = pure (ps.zip us)
/-- how keywords bind: g puts positional values and keywords' values in the parameters' order -/
def Keyn (params : Arguments) (body : List Stmt) (scope : Scope) (x : Str) (ps ks : List Str) (n : Nat) (g : {α : Type} → List α → List α → List α) : Prop := ∀ (kV doc pm : Value) (an : Option Addr) (cdv ct : Value) (us ws : List Value), us.length = n → ws.length = ks.length →
  bindArgs (PySem.W.fnOf x x params body scope .none kV doc pm an cdv ct) ⟨us, ks.zip ws⟩ = pure (ps.zip (g us ws))
theorem FunD.to {K : PySem.W.Frag} {x qual : Str} {params : Arguments} {body : List Stmt} {scope : Scope} {f : Addr} {fd : FuncData} (F : FunD K x qual params body scope [] [] f fd) : ∃ kV doc pm an cdv ct, fd = PySem.W.fnOf x qual params body scope .none kV doc pm an cdv ct := by
  obtain ⟨oc, od, dV, kV, doc, pm, an, cdv, ct, osl, rfl, lk, hcd, hD, hK⟩ := F.ex
  rcases hD with ⟨_, rfl⟩ | ⟨e, _⟩
  · exact ⟨kV, doc, pm, an, cdv, ct, rfl⟩
  · exact absurd rfl e
section
variable {X : Cx} {T : List (Addr × Str)} {W : WX} {k : Nat} {x : Str} {params : Arguments} {body : List Stmt} {scope : Scope} {ps ks : List Str} {fr : Bool} {o : OpB} {p pos : Pos} {e : Expr} {es : List Expr} {kws : List Keyword} {c cs : AX}
def cCall (n : Nat) (o : OpB) (r : AX) : EX := fun ρ S => bindO (r ρ S) fun ds S => if ds.length = n then o ds S else none
/-- f(e, ..) -/
theorem re_call (G : DefG X.prog X.w X.K X.mg X.base T k x params body scope ps fr o) (hp : Posn params body scope x ps) (hr : Room k X.A) (hgu : X.A.guards = some []) (hx : ∀ σ, PassesAt (L2.CX X.prog X.w) X σ fun cls d H => W cls d σ H)
    (ha : RA T X W (e :: es) c) (hg : Gl X x := by rfl) (hdb : (x == ("__debug__" : Str)) = false := by decide) (he : starEach (e :: es) X.env = (false, eval e X.env) :: starEach es X.env := by rfl) (hpl : (backTo pos (starEach es X.env)).any (·.1) = false := by rfl) :
    RE T fr X W (.Call (.Name x p) (e :: es) [] pos) (cCall ps.length o c) := by
  obtain ⟨f, fd, FD, hm, FG⟩ := G.ex
  obtain ⟨t, pa, rd⟩ := ha
  refine ⟨fun σ H Q => t σ H fun vs H1 => spOf X.K X.mg T fr ps.length o vs H1 Q (fun cls d H => W cls d σ H), ⟨fun pins s σ H Q I h => ?_⟩, fun σ ρ F μ S H Q s hE g => ?_⟩
  · refine wpAny_Call_Name_kw (ld_glob I hg hm ?_ hdb)
    refine PySem.W.callWith_K (h₀ := X.base) I.ok.mod.kin FD.kp (thn (pa.run pos pins s σ H _ I h) fun us s1 ⟨vs, H1, I1, r, q⟩ => ⟨I1.kIn, ?_⟩) he hpl
    obtain ⟨kV, doc, pm, an, cdv, ct, rfl⟩ := FunD.to FD
    have hl : us.length = ps.length := by
      obtain ⟨_, _, _, _, _, _, hl, _⟩ := id q
      rw [← r.length]; exact hl
    exact run_g (us := us) FG hr hgu (.of_eq (hp _ _ _ _ _ _ us hl)) (hx σ) I1 r q
  · refine rd σ ρ F μ S H _ s hE (GP.seq g fun ds F1 μ1 H1 S1 e1 p1 s1 g1 vs rs => ?_)
    split at g1
    · rename_i hn
      exact ⟨F1, μ1, S1, ds, s1, rs, by rw [← rs.length]; exact hn, g1⟩
    · exact g1.elim
/-- f(e, .., k = v, ..); n positional values -/
def cCallK (n m : Nat) (g : List D → List D → List D) (o : OpB) (r rk : AX) : EX := fun ρ S => bindO (r ρ S) fun ds S => bindO (rk ρ S) fun es S => if ds.length = n ∧ es.length = m then o (g ds es) S else none
theorem re_callK {n : Nat} {g : {α : Type} → List α → List α → List α} (G : DefG X.prog X.w X.K X.mg X.base T k x params body scope ps fr o) (hp : Keyn params body scope x ps ks n g) (hgr : ∀ {K F μ} {ds es : List D} {vs us : List V}, ds.length = n → es.length = ks.length → Reps K F μ ds vs → Reps K F μ es us → Reps K F μ (g ds es) (g vs us))
    (hgv : ∀ {vs us : List V} {ws zs : List Value}, vs.length = n → us.length = ks.length → Vals vs ws → Vals us zs → Vals (g vs us) (g ws zs)) (hgl : ∀ {ds es : List V}, ds.length = n → es.length = ks.length → (g ds es).length = ps.length)
    (hr : Room k X.A) (hgu : X.A.guards = some []) (hx : ∀ σ, PassesAt (L2.CX X.prog X.w) X σ fun cls d H => W cls d σ H)
    (ha : RA T X W (e :: es) c) (hkw : RK T X W kws cs) (hg : Gl X x := by rfl) (hall : (backToKw pos (keywordEach kws X.env)).all (·.1.isSome) = true := by rfl) (hks : (backToKw pos (keywordEach kws X.env)).filterMap (·.1) = ks := by rfl)
    (hdb : (x == ("__debug__" : Str)) = false := by decide) (he : starEach (e :: es) X.env = (false, eval e X.env) :: starEach es X.env := by rfl)
    (hpl : ((backTo pos (starEach (e :: es) X.env)).any (·.1) || (backToKw pos (keywordEach kws X.env)).any (·.1.isNone)) = false := by rfl) :
    RE T fr X W (.Call (.Name x p) (e :: es) kws pos) (cCallK n ks.length g o c cs) := by
  obtain ⟨f, fd, FD, hm, FG⟩ := G.ex
  obtain ⟨t, pa, rd⟩ := ha
  obtain ⟨t2, pk, rd2⟩ := hkw
  refine ⟨fun σ H Q => t σ H fun vs H1 => t2 σ H1 fun us H2 => vs.length = n ∧ us.length = ks.length ∧ spOf X.K X.mg T fr ps.length o (g vs us) H2 Q (fun cls d H => W cls d σ H), ⟨fun pins s σ H Q I h => ?_⟩, fun σ ρ F μ S H Q s hE g => ?_⟩
  · refine wpAny_Call_Name_kw (ld_glob I hg hm ?_ hdb)
    refine PySem.W.callWith_KW (h₀ := X.base) I.ok.mod.kin FD.kp hall (thn (pa.run pos pins s σ H _ I h) fun us s1 ⟨vs, H1, I1, r, q⟩ => ?_) hpl he
    refine thn (pk.run pos pins s1 σ H1 _ I1 q) fun ws s2 ⟨zs, H2, I2, rz, l1, l2, q2⟩ => ⟨I2.kIn, ?_⟩
    obtain ⟨kV, doc, pm, an, cdv, ct, rfl⟩ := FunD.to FD
    rw [hks]
    exact run_g (us := g us ws) FG hr hgu (.of_eq (hp _ _ _ _ _ _ us ws (by rw [← r.length]; exact l1) (by rw [← rz.length]; exact l2))) (hx σ) I2 (hgv l1 l2 r rz) q2
  · refine rd σ ρ F μ S H _ s hE (GP.seq g fun ds F1 μ1 H1 S1 e1 p1 s1 g1 vs rs => ?_)
    refine rd2 σ ρ F1 μ1 S1 H1 _ s1 (hE.mono e1 p1) (GP.seq g1 fun es F2 μ2 H2 S2 e2 p2 s2 g2 us ru => ?_)
    split at g2
    · rename_i hn
      have l1 : vs.length = n := by rw [← rs.length]; exact hn.1
      have l2 : us.length = ks.length := by rw [← ru.length]; exact hn.2
      exact ⟨l1, l2, F2, μ2, S2, _, s2, hgr hn.1 hn.2 (rs.mono e2 p2) ru, hgl l1 l2, g2⟩
    · exact g2.elim
/-- f(k = v, ..) -/
theorem re_callK0 {g : {α : Type} → List α → List α → List α} (G : DefG X.prog X.w X.K X.mg X.base T k x params body scope ps fr o) (hp : Keyn params body scope x ps ks 0 g) (hgr : ∀ {K F μ} {ds es : List D} {vs us : List V}, ds.length = 0 → es.length = ks.length → Reps K F μ ds vs → Reps K F μ es us → Reps K F μ (g ds es) (g vs us))
    (hgv : ∀ {vs us : List V} {ws zs : List Value}, vs.length = 0 → us.length = ks.length → Vals vs ws → Vals us zs → Vals (g vs us) (g ws zs)) (hgl : ∀ {ds es : List V}, ds.length = 0 → es.length = ks.length → (g ds es).length = ps.length)
    (hr : Room k X.A) (hgu : X.A.guards = some []) (hx : ∀ σ, PassesAt (L2.CX X.prog X.w) X σ fun cls d H => W cls d σ H)
    (hkw : RK T X W kws cs) (hg : Gl X x := by rfl) (hall : (backToKw pos (keywordEach kws X.env)).all (·.1.isSome) = true := by rfl) (hks : (backToKw pos (keywordEach kws X.env)).filterMap (·.1) = ks := by rfl)
    (hdb : (x == ("__debug__" : Str)) = false := by decide)
    (hpl : ((backTo pos (starEach [] X.env)).any (·.1) || (backToKw pos (keywordEach kws X.env)).any (·.1.isNone)) = false := by rfl) :
    RE T fr X W (.Call (.Name x p) [] kws pos) (cCallK 0 ks.length g o aNil cs) := by
  obtain ⟨f, fd, FD, hm, FG⟩ := G.ex
  obtain ⟨t2, pk, rd2⟩ := hkw
  refine ⟨fun σ H Q => t2 σ H fun us H2 => us.length = ks.length ∧ spOf X.K X.mg T fr ps.length o (g [] us) H2 Q (fun cls d H => W cls d σ H), ⟨fun pins s σ H Q I h => ?_⟩, fun σ ρ F μ S H Q s hE g => ?_⟩
  · refine wpAny_Call_Name_kw (ld_glob I hg hm ?_ hdb)
    refine PySem.W.callWith_KW0 (h₀ := X.base) I.ok.mod.kin FD.kp hall ?_ hpl
    refine thn (pk.run pos pins s σ H _ I h) fun ws s2 ⟨zs, H2, I2, rz, l2, q2⟩ => ⟨I2.kIn, ?_⟩
    obtain ⟨kV, doc, pm, an, cdv, ct, rfl⟩ := FunD.to FD
    rw [hks]
    exact run_g (us := g [] ws) FG hr hgu (.of_eq (hp _ _ _ _ _ _ [] ws rfl (by rw [← rz.length]; exact l2))) (hx σ) I2 (hgv rfl l2 .nil rz) q2
  · have g0 := g
    unfold cCallK aNil at g
    rw [bindO_ok] at g
    refine rd2 σ ρ F μ S H _ s hE (GP.seq g fun es F2 μ2 H2 S2 e2 p2 s2 g2 us ru => ?_)
    split at g2
    · rename_i hn
      have l2 : us.length = ks.length := by rw [← ru.length]; exact hn.2
      exact ⟨l2, F2, μ2, S2, _, s2, hgr rfl hn.2 .nil ru, hgl rfl l2, g2⟩
    · exact g2.elim
/-- the orders that come up: two by two -/
def kSwap {α : Type} : List α → List α → List α
  | [], [a, b] => [b, a]
  | xs, ys => xs ++ ys
def kSame {α : Type} (xs ys : List α) : List α := xs ++ ys
end

/-! ### repr -/
def reprOk (d : D) : Bool := d.pure && d.py.showable && decide (d.py.depth ≤ 60) && decide (d.py.shown.length ≤ sizeLine)
def bRepr : OpB := fun ds S => match ds with
  | [d] => if reprOk (told S d) = true then some (.ok (.str (told S d).py.shown), S) else none
  | _ => none
mutual
theorem py_nodict : ∀ d : D, d.py.hasDict = false
  | .non => by simp [D.py, PyData.hasDict]
  | .bl b => by simp [D.py, PyData.hasDict]
  | .int i => by simp [D.py, PyData.hasDict]
  | .str x => by simp [D.py, PyData.hasDict]
  | .tup xs => by simp [D.py, PyData.hasDict, pys_nodict xs]
  | .lst xs => by simp [D.py, PyData.hasDict, pys_nodict xs]
  | .loc n => by simp [D.py, PyData.hasDict]
  | .fz n => by simp [D.py, PyData.hasDict]
  | .fn n => by simp [D.py, PyData.hasDict]
  | .dct n => by simp [D.py, PyData.hasDict]
  | .ins n _ _ => by simp [D.py, PyData.hasDict]
  | .dks n _ => by simp [D.py, PyData.hasDict]
  | .obj n _ => by simp [D.py, PyData.hasDict]
  | .dkc n => by simp [D.py, PyData.hasDict]
  | .gfn n => by simp [D.py, PyData.hasDict]
  | .tpn xs => by simp [D.py, PyData.hasDict, pys_nodict xs]
theorem pys_nodict : ∀ xs : List D, PyData.hasDictAll (D.pys xs) = false
  | [] => by simp [D.pys, PyData.hasDictAll]
  | x :: xs => by simp [D.pys, PyData.hasDictAll, py_nodict x, pys_nodict xs]
end
/-- the text of data -/
def rRepr (K : PySem.W.Frag) : List V → Hp → VK → Prop := fun vs H Q => ∃ v d, vs = [v] ∧ Dp K H v d ∧ d.showable = true ∧ d.hasDict = false ∧ d.depth ≤ 60 ∧ d.shown.length ≤ sizeLine ∧ Q (.str d.shown) H
theorem call_repr {X : Cx} (hg : X.A.guards = some []) (hu : X.A.units + 64 < cLine) : CallR X (.builtin "repr") (rRepr X.K) := by
  intro pins s σ H xs us Q I r h
  obtain ⟨v, d, rfl, hd, h1, h2, h3, h4, q⟩ := h
  obtain ⟨u, rfl, ru⟩ := vals1 r
  have fin : ∀ (t : Tok) (s' : Shared), Inv X pins σ H s' → EP X pins σ Q (.str d.shown t) s' := fun t s' J => ⟨.str d.shown, H, J, ⟨t, rfl⟩, q⟩
  cases hd with
  | non => cases ru; exact PySem.P.repr_of_none (fin _ _ (I.tok _))
  | bl b =>
    cases ru
    refine PySem.P.repr_of_bool ?_
    cases b <;> exact fin _ _ (I.tok _)
  | int i =>
    obtain ⟨t, rfl⟩ := ru
    have h1' : i.natAbs.log2 < 1920 := by simpa [PyData.showable] using h1
    exact PySem.P.repr_of_int h1' (fin _ _ (I.tok _))
  | str x =>
    obtain ⟨t, rfl⟩ := ru
    exact PySem.P.repr_of_str (fin _ _ (I.tok _)) h4
  | lst hs ha =>
    have rv := ru
    cases ru
    obtain ⟨as, rd⟩ := Dp.reads I _ _ _ (.lst hs ha) rv
    exact repr_of_reads' rd h1 (fun z => by rw [h2] at z; cases z) hg (by omega) (fun b o e => e) (fun h' t tk kk => fin _ _ (I.kept kk)) h4
  | tup hs ha =>
    have rv := ru
    cases ru
    obtain ⟨as, rd⟩ := Dp.reads I _ _ _ (.tup hs ha) rv
    exact repr_of_reads' rd h1 (fun z => by rw [h2] at z; cases z) hg (by omega) (fun b o e => e) (fun h' t tk kk => fin _ _ (I.kept kk)) h4
theorem bRepr_ok {X : Cx} {T : List (Addr × Str)} : BltOk X T false (rRepr X.K) bRepr := by
  intro F μ S H ds vs Q er s rs h
  unfold bRepr at h
  split at h
  · obtain ⟨v, rfl, r⟩ := rs.inv1
    split at h
    · rename_i d hc
      unfold reprOk at hc
      simp only [Bool.and_eq_true, decide_eq_true_eq] at hc
      obtain ⟨⟨⟨h1, h2⟩, h3⟩, h4⟩ := hc
      exact ⟨v, _, rfl, dp_told s r h1, h2, py_nodict _, h3, h4, gp_val h s (.str _)⟩
    · exact h.elim
  · exact h.elim
end PF
set_option Elab.async false
set_option linter.all false
set_option maxRecDepth 100000
set_option maxHeartbeats 4000000
/-! PF5: what is walked, targets, comprehensions. -/
namespace PF
open PySem L2 Evl PySem.Spec PyProof.Rows
/-! ### what is walked -/
inductive Src where
  | items (ds : List D) | cell (n : Nat) | enum (s : Src) | zip (a b : Src)
def numb : Nat → List D → List D
  | _, [] => []
  | i, d :: ds => .tup [.int i, d] :: numb (i + 1) ds
theorem numb_get : ∀ (ds : List D) (k i : Nat), (numb k ds)[i]? = (ds[i]?).map fun d => .tup [.int ((k + i : Nat) : Int), d]
  | [], _, _ => by simp [numb]
  | d :: ds, k, 0 => by simp [numb]
  | d :: ds, k, i + 1 => by
    simp only [numb, List.getElem?_cons_succ, numb_get ds (k + 1) i]
    have : k + 1 + i = k + (i + 1) := by omega
    rw [this]
theorem numb_len : ∀ (ds : List D) (k : Nat), (numb k ds).length = ds.length
  | [], _ => rfl
  | d :: ds, k => by simp [numb, numb_len ds (k + 1)]
def zipD : List D → List D → List D
  | d :: ds, e :: es => .tup [d, e] :: zipD ds es
  | _, _ => []
theorem zipD_get : ∀ (ds es : List D) (i : Nat) (x : D), (zipD ds es)[i]? = some x → ∃ d e, ds[i]? = some d ∧ es[i]? = some e ∧ x = .tup [d, e]
  | d :: ds, e :: es, 0, x, h => by simp [zipD] at h; exact ⟨d, e, rfl, rfl, h.symm⟩
  | d :: ds, e :: es, i + 1, x, h => by
    simp only [zipD, List.getElem?_cons_succ] at h ⊢
    exact zipD_get ds es i x h
  | [], _, i, x, h => by simp [zipD] at h
  | _ :: _, [], i, x, h => by simp [zipD] at h
theorem zipD_len : ∀ (ds es : List D), (zipD ds es).length = min ds.length es.length
  | d :: ds, e :: es => by simp [zipD, zipD_len ds es]
  | [], es => by simp [zipD]
  | _ :: _, [] => by simp [zipD]
def srcAt : Src → Store → Option (List D)
  | .items ds, _ => some ds
  | .cell n, S => S[n]?
  | .enum s, S => (srcAt s S).map (numb 0)
  | .zip a b, S => match srcAt a S, srcAt b S with
    | some xs, some ys => some (zipD xs ys)
    | _, _ => none
/-- J walks it, whatever has happened meanwhile -/
def Walks (K : PySem.W.Frag) (T : List (Addr × Str)) (F0 : Hp) (μ0 : List MA) (src : Src) (J : It) : Prop :=
  ∀ F μ S H ds i, Ex F0 F → μ0 <+: μ → SR K T F μ S H → srcAt src S = some ds →
    (∀ d, ds[i]? = some d → J.go i H ∧ ∀ x H', J.yld i H x H' → ∃ F', Ex F F' ∧ SR K T F' μ S H' ∧ Rep K F' μ d x) ∧ (ds.length ≤ i → J.stop i H)
abbrev IX := PF.Env → Store → Out Src
def RI (T : List (Addr × Str)) (X : Cx) (W : WX) (tg e : Expr) (c : IX) : Prop := ∃ wi, PI X tg e wi ∧
  ∀ σ ρ F μ S H (R : It → Hp → Prop), SR X.K T F μ S H → EnvR X.K F μ ρ σ → GP X.K T F μ (c ρ S) (fun src F' μ' H' _ => ∀ J, Walks X.K T F' μ' src J → R J H') (ErW X.K X.mg fun cls dd H' => W cls dd σ H') → wi σ H R
/-- a list or a tuple as a value tells what is walked -/
def srcOf : D → Option Src
  | .tup ds => some (.items ds)
  | .lst ds => some (.items ds)
  | .fz ds => some (.items ds)
  | .loc n => some (.cell n)
  | _ => none
section
variable {K : PySem.W.Frag} {T : List (Addr × Str)} {F H : Hp} {μ : List MA} {S : Store} {d : D} {v : V} {src src2 : Src} {a b : Addr}
/-- at each later state a is a list (a tuple) of what src has -/
def StandL (K : PySem.W.Frag) (T : List (Addr × Str)) (F0 : Hp) (μ0 : List MA) (src : Src) (a : Addr) : Prop := ∀ F μ S H ds, Ex F0 F → μ0 <+: μ → SR K T F μ S H → srcAt src S = some ds → ∃ vs, SqL K H a vs ∧ Reps K F μ ds vs
def StandT (K : PySem.W.Frag) (T : List (Addr × Str)) (F0 : Hp) (μ0 : List MA) (src : Src) (a : Addr) : Prop := ∀ F μ S H ds, Ex F0 F → μ0 <+: μ → SR K T F μ S H → srcAt src S = some ds → ∃ vs, SqT K H a vs ∧ Reps K F μ ds vs
theorem StandL.mono {F' : Hp} {μ' : List MA} (h : StandL K T F μ src a) (e : Ex F F') (p : μ <+: μ') : StandL K T F' μ' src a := fun F2 μ2 S H ds e2 p2 s q => h F2 μ2 S H ds (e.trans e2) (p.trans p2) s q
theorem StandT.mono {F' : Hp} {μ' : List MA} (h : StandT K T F μ src a) (e : Ex F F') (p : μ <+: μ') : StandT K T F' μ' src a := fun F2 μ2 S H ds e2 p2 s q => h F2 μ2 S H ds (e.trans e2) (p.trans p2) s q
theorem walks_l (h : StandL K T F μ src a) : Walks K T F μ src (Itl K a) := by
  intro F' μ' S H ds i e p s q
  obtain ⟨vs, h1, h2⟩ := h F' μ' S H ds e p s q
  refine ⟨fun d hd => ?_, fun hl => ⟨vs, h1, by rw [← h2.length]; exact hl⟩⟩
  obtain ⟨v, k1, k2⟩ := h2.get hd
  refine ⟨⟨vs, v, h1, k1⟩, fun x H' y => ?_⟩
  obtain ⟨rfl, y⟩ := y
  have := (y vs h1).symm.trans k1
  cases this
  exact ⟨F', Ex.refl _, s, k2⟩
theorem walks_t (h : StandT K T F μ src a) : Walks K T F μ src (Itt K a) := by
  intro F' μ' S H ds i e p s q
  obtain ⟨vs, h1, h2⟩ := h F' μ' S H ds e p s q
  refine ⟨fun d hd => ?_, fun hl => ⟨vs, h1, by rw [← h2.length]; exact hl⟩⟩
  obtain ⟨v, k1, k2⟩ := h2.get hd
  refine ⟨⟨vs, v, h1, k1⟩, fun x H' y => ?_⟩
  obtain ⟨rfl, y⟩ := y
  have := (y vs h1).symm.trans k1
  cases this
  exact ⟨F', Ex.refl _, s, k2⟩
def ranged (lo : Int) : Nat → List D
  | 0 => []
  | n + 1 => .int lo :: ranged (lo + 1) n
theorem ranged_get : ∀ (n : Nat) (lo : Int) (i : Nat), i < n → (ranged lo n)[i]? = some (.int (lo + i))
  | n + 1, lo, 0, _ => by simp [ranged]
  | n + 1, lo, i + 1, h => by
    simp only [ranged, List.getElem?_cons_succ]
    rw [ranged_get n (lo + 1) i (by omega)]
    have : lo + 1 + (i : Int) = lo + ((i + 1 : Nat) : Int) := by omega
    rw [this]
theorem ranged_len : ∀ (n : Nat) (lo : Int), (ranged lo n).length = n
  | 0, _ => rfl
  | n + 1, lo => by simp [ranged, ranged_len n]
theorem walks_r {lo : Int} {n : Nat} : Walks K T F μ (.items (ranged lo n)) (Itr lo n) := by
  intro F' μ' S H ds i e p s q
  cases q
  refine ⟨fun d hd => ?_, fun hl => by rw [ranged_len] at hl; exact hl⟩
  have hi : i < n := by
    have := (List.getElem?_eq_some_iff.mp hd).1
    rw [ranged_len] at this; exact this
  rw [ranged_get n lo i hi] at hd
  cases hd
  refine ⟨hi, fun x H' y => ?_⟩
  obtain ⟨rfl, rfl⟩ := y
  exact ⟨F', Ex.refl _, s, .int _⟩
theorem walks_e (h : StandL K T F μ src a) : Walks K T F μ (.enum src) (Ite K a) := by
  intro F' μ' S H ds i e p s q
  simp only [srcAt, Option.map_eq_some_iff] at q
  obtain ⟨es, q, rfl⟩ := q
  obtain ⟨vs, h1, h2⟩ := h F' μ' S H es e p s q
  refine ⟨fun d hd => ?_, fun hl => ⟨vs, h1, by rw [← h2.length]; rw [numb_len] at hl; exact hl⟩⟩
  rw [numb_get, Option.map_eq_some_iff] at hd
  obtain ⟨d', hd, rfl⟩ := hd
  obtain ⟨v, k1, k2⟩ := h2.get hd
  refine ⟨⟨vs, v, h1, k1⟩, fun x H' y => ?_⟩
  obtain ⟨A, w, rfl, hA, rfl, y⟩ := y
  have := (y vs h1).symm.trans k1
  cases this
  have hF := fresh_back s.ex hA
  rw [Nat.zero_add]
  exact ⟨upd F' A (.tup [.int (i : Nat), _]), Ex.new hF, s.new hA, .tup (st_of upd_same) (.cons (.int _) (.cons (k2.mono (Ex.new hF) (List.prefix_refl _)) .nil))⟩
theorem walks_z (h : StandL K T F μ src a) (k : StandL K T F μ src2 b) : Walks K T F μ (.zip src src2) (Itz K a b) := by
  intro F' μ' S H ds i e p s q
  simp only [srcAt] at q
  split at q
  · rename_i es fs q1 q2
    cases q
    obtain ⟨vs, h1, h2⟩ := h F' μ' S H es e p s q1
    obtain ⟨us, k1, k2⟩ := k F' μ' S H fs e p s q2
    refine ⟨fun d hd => ?_, fun hl => ⟨vs, us, h1, k1, by rw [zipD_len] at hl; rw [← h2.length, ← k2.length]; omega⟩⟩
    obtain ⟨x, y, e1, e2, rfl⟩ := zipD_get _ _ _ _ hd
    obtain ⟨v, a1, a2⟩ := h2.get e1
    obtain ⟨u, b1, b2⟩ := k2.get e2
    refine ⟨⟨vs, us, v, u, h1, k1, a1, b1⟩, fun x H' z => ?_⟩
    obtain ⟨A, x', y', rfl, hA, rfl, z1, z2⟩ := z
    have t1 := (z1 vs h1).symm.trans a1
    have t2 := (z2 us k1).symm.trans b1
    cases t1; cases t2
    have hF := fresh_back s.ex hA
    exact ⟨upd F' A (.tup [_, _]), Ex.new hF, s.new hA, .tup (st_of upd_same) (.cons (a2.mono (Ex.new hF) (List.prefix_refl _)) (.cons (b2.mono (Ex.new hF) (List.prefix_refl _)) .nil))⟩
  · cases q
theorem walks_zT (h : StandT K T F μ src a) (k : StandT K T F μ src2 b) : Walks K T F μ (.zip src src2) (RZ.ItzT K a b) := by
  intro F' μ' S H ds i e p s q
  simp only [srcAt] at q
  split at q
  · rename_i es fs q1 q2
    cases q
    obtain ⟨vs, h1, h2⟩ := h F' μ' S H es e p s q1
    obtain ⟨us, k1, k2⟩ := k F' μ' S H fs e p s q2
    refine ⟨fun d hd => ?_, fun hl => ⟨vs, us, h1, k1, by rw [zipD_len] at hl; rw [← h2.length, ← k2.length]; omega⟩⟩
    obtain ⟨x, y, e1, e2, rfl⟩ := zipD_get _ _ _ _ hd
    obtain ⟨v, a1, a2⟩ := h2.get e1
    obtain ⟨u, b1, b2⟩ := k2.get e2
    refine ⟨⟨vs, us, v, u, h1, k1, a1, b1⟩, fun x H' z => ?_⟩
    obtain ⟨A, x', y', rfl, hA, rfl, z1, z2⟩ := z
    have t1 := (z1 vs h1).symm.trans a1
    have t2 := (z2 us k1).symm.trans b1
    cases t1; cases t2
    have hF := fresh_back s.ex hA
    exact ⟨upd F' A (.tup [_, _]), Ex.new hF, s.new hA, .tup (st_of upd_same) (.cons (a2.mono (Ex.new hF) (List.prefix_refl _)) (.cons (b2.mono (Ex.new hF) (List.prefix_refl _)) .nil))⟩
  · cases q
/-- a list or tuple value stands -/
theorem stand (s : SR K T F μ S H) (r : Rep K F μ d v) (h : srcOf d = some src) : ∃ a, v = .ref a ∧ (((∃ vs, SqL K H a vs) ∧ StandL K T F μ src a) ∨ ((∃ vs, SqT K H a vs) ∧ StandT K T F μ src a)) := by
  cases r with
  | @tup a xs ds hq rs =>
    cases h
    exact ⟨a, rfl, .inr ⟨⟨xs, s.sqT hq⟩, fun F' μ' S' H' es e p s' q => by cases q; exact ⟨xs, s'.sqT (ex_t e hq), rs.mono e p⟩⟩⟩
  | @lst a xs ds hq rs =>
    cases h
    exact ⟨a, rfl, .inl ⟨⟨xs, sq_of (s.ex _ _ hq)⟩, fun F' μ' S' H' es e p s' q => by cases q; exact ⟨xs, sq_of (s'.ex _ _ (e _ _ hq)), rs.mono e p⟩⟩⟩
  | @fz a xs ds hq rs =>
    cases h
    exact ⟨a, rfl, .inl ⟨⟨xs, s.sqL hq⟩, fun F' μ' S' H' es e p s' q => by cases q; exact ⟨xs, s'.sqL (ex_l e hq), rs.mono e p⟩⟩⟩
  | @loc n a hm =>
    cases h
    obtain ⟨ds, vs, h1, h2, h3, _⟩ := s.get hm
    refine ⟨a, rfl, .inl ⟨⟨vs, sq_of h2⟩, fun F' μ' S' H' es e p s' q => ?_⟩⟩
    obtain ⟨ds', vs', k1, k2, k3, _⟩ := s'.get (pre_get p hm)
    simp only [srcAt] at q
    rw [k1] at q; cases q
    exact ⟨vs', sq_of k2, k3⟩
  | _ => cases h
end
/-! ### what a for, a comprehension walks -/
section
variable {X : Cx} {T : List (Addr × Str)} {W : WX} {tg e e2 : Expr} {c : EX} {ca : AX} {p pos : Pos}
def cSeqI (c : EX) : IX := fun ρ S => bindO (c ρ S) fun d S => match srcOf d with
  | some src => some (.ok src, S)
  | none => none
theorem ri_seq (h : RE T false X W e c) : RI T X W tg e (cSeqI c) := by
  obtain ⟨t, pe, f⟩ := h
  refine ⟨fun σ H R => t σ H fun x H1 => ∃ a, x = .ref a ∧ (((∃ vs, SqL X.K H1 a vs) ∧ R (Itl X.K a) H1) ∨ ((∃ vs, SqT X.K H1 a vs) ∧ R (Itt X.K a) H1)), ⟨fun pins s σ H R I h => ?_⟩, fun σ ρ F μ S H R s hE g => ?_⟩
  · refine thn (pe.run pins s σ H _ I h) ?_
    rintro v s1 ⟨x, H1, I1, r1, a, rfl, q1⟩
    cases r1
    have newest : ∀ (ob : Obj), Inv X pins σ H1 { s1 with heap := s1.heap.push ob } := fun ob => Inv.kept (t' := s1.toks) I1 fun b o q => Heap.get?_push_of_some _ q
    have foot : ∀ b ∈ [s1.heap.objs.size], FpOk X pins H1 b := fun b hb => by
      rw [List.mem_singleton] at hb
      subst hb
      exact Inv.fpOk I1 (Nat.le_refl _) (HOk.fresh I1.hok (Nat.le_refl _))
    rcases q1 with ⟨⟨vs, hq⟩, q⟩ | ⟨⟨vs, hq⟩, q⟩
    · obtain ⟨its, _, pl, _⟩ := Inv.list I1 hq
      exact wpAny_pyIter_list pl.isList ⟨_, _, _, _, H1, rfl, newest _, turn_list a _, ⟨_, Heap.get?_push_size _ rfl, rfl, rfl⟩, foot, q⟩
    · obtain ⟨its, _, pt, _⟩ := Inv.tuple I1 hq
      exact wpAny_pyIter_tuple (items := its.toArray) pt ⟨_, _, _, _, H1, rfl, newest _, turn_tuple a _, ⟨_, Heap.get?_push_size _ rfl, rfl, rfl⟩, foot, q⟩
  · refine f σ ρ F μ S H _ s hE (GP.seq g fun d F1 μ1 H1 S1 e1 p1 s1 g1 v rv => ?_)
    split at g1
    · rename_i src hs
      obtain ⟨a, rfl, hh⟩ := stand s1 rv hs
      have fin := GP.here g1 s1
      refine ⟨a, rfl, ?_⟩
      rcases hh with ⟨h1, h2⟩ | ⟨h1, h2⟩
      · exact .inl ⟨h1, fin _ (walks_l h2)⟩
      · exact .inr ⟨h1, fin _ (walks_t h2)⟩
    · exact g1.elim
/-- range(n) -/
def cRange1 (c : AX) : IX := fun ρ S => bindO (c ρ S) fun ds S => match ds with
  | [.int n] => if n < 1000000000 ∧ -1000000000 < n then some (.ok (.items (ranged 0 n.toNat)), S) else none
  | _ => none
def cRange2 (c : AX) : IX := fun ρ S => bindO (c ρ S) fun ds S => match ds with
  | [.int m, .int n] => if (n < 1000000000 ∧ -1000000000 < n) ∧ (m < 1000000000 ∧ -1000000000 < m) then some (.ok (.items (ranged m (n - m).toNat)), S) else none
  | _ => none
theorem ri_range1 (ha : RA T X W [e] ca) (hm : X.mg "range" = none) (hg : Gl X "range" := by rfl) (hs : starEach [e] X.env = [(false, eval e X.env)] := by rfl) : RI T X W tg (.Call (.Name "range" p) [e] [] pos) (cRange1 ca) := by
  obtain ⟨t, pa, f⟩ := ha
  refine ⟨_, pi_range1 hg hm pa hs, fun σ ρ F μ S H R s hE g => f σ ρ F μ S H _ s hE (GP.seq g fun ds F1 μ1 H1 S1 e1 p1 s1 g1 vs rs => ?_)⟩
  split at g1
  · rename_i n
    split at g1
    · rename_i hn
      obtain ⟨v, rfl, rv⟩ := rs.inv1
      cases rv
      exact ⟨n, rfl, by omega, by omega, GP.here g1 s1 _ walks_r⟩
    · exact g1.elim
  · exact g1.elim
theorem ri_range2 (ha : RA T X W [e, e2] ca) (hm : X.mg "range" = none) (hg : Gl X "range" := by rfl) (hs : starEach [e, e2] X.env = [(false, eval e X.env), (false, eval e2 X.env)] := by rfl) (hs2 : starEach [e2] X.env = [(false, eval e2 X.env)] := by rfl) :
    RI T X W tg (.Call (.Name "range" p) [e, e2] [] pos) (cRange2 ca) := by
  obtain ⟨t, pa, f⟩ := ha
  refine ⟨_, pi_range2 hg hm pa hs hs2, fun σ ρ F μ S H R s hE g => f σ ρ F μ S H _ s hE (GP.seq g fun ds F1 μ1 H1 S1 e1 p1 s1 g1 vs rs => ?_)⟩
  split at g1
  · rename_i m n
    split at g1
    · rename_i hn
      obtain ⟨v, u, rfl, rv, ru⟩ := rs.inv2
      cases rv; cases ru
      exact ⟨m, n, rfl, ⟨by omega, by omega, by omega, by omega⟩, GP.here g1 s1 _ walks_r⟩
    · exact g1.elim
  · exact g1.elim
/-- enumerate(xs), a list -/
def isL : D → Bool
  | .lst _ => true
  | .fz _ => true
  | .loc _ => true
  | _ => false
def cEnumL (c : AX) : IX := fun ρ S => bindO (c ρ S) fun ds S => match ds with
  | [d] => if isL d = true then (match srcOf d with
    | some src => some (.ok (.enum src), S)
    | none => none) else none
  | _ => none
theorem stand_l {K : PySem.W.Frag} {F H : Hp} {μ : List MA} {S : Store} {d : D} {v : V} {src : Src} (s : SR K T F μ S H) (r : Rep K F μ d v) (h : srcOf d = some src) (hl : isL d = true) : ∃ a, v = .ref a ∧ (∃ vs, SqL K H a vs) ∧ StandL K T F μ src a := by
  cases r with
  | @lst a xs ds hq rs =>
    cases h
    exact ⟨a, rfl, ⟨xs, sq_of (s.ex _ _ hq)⟩, fun F' μ' S' H' es e p s' q => by cases q; exact ⟨xs, sq_of (s'.ex _ _ (e _ _ hq)), rs.mono e p⟩⟩
  | @fz a xs ds hq rs =>
    cases h
    exact ⟨a, rfl, ⟨xs, s.sqL hq⟩, fun F' μ' S' H' es e p s' q => by cases q; exact ⟨xs, s'.sqL (ex_l e hq), rs.mono e p⟩⟩
  | @loc n a hm =>
    cases h
    obtain ⟨ds, vs, h1, h2, h3, _⟩ := s.get hm
    refine ⟨a, rfl, ⟨vs, sq_of h2⟩, fun F' μ' S' H' es e p s' q => ?_⟩
    obtain ⟨ds', vs', k1, k2, k3, _⟩ := s'.get (pre_get p hm)
    simp only [srcAt] at q
    rw [k1] at q; cases q
    exact ⟨vs', sq_of k2, k3⟩
  | _ => cases hl
theorem ri_enumL {elts : List Expr} {kk : Nat} {tpos : Pos} (ha : RA T X W [e] ca) (hm : X.mg "enumerate" = none) (hg : Gl X "enumerate" := by rfl) (hs : starEach [e] X.env = [(false, eval e X.env)] := by rfl) : RI T X W (.Tuple elts kk tpos) (.Call (.Name "enumerate" p) [e] [] pos) (cEnumL ca) := by
  obtain ⟨t, pa, f⟩ := ha
  refine ⟨_, pi_enum hg hm pa hs, fun σ ρ F μ S H R s hE g => f σ ρ F μ S H _ s hE (GP.seq g fun ds F1 μ1 H1 S1 e1 p1 s1 g1 vs rs => ?_)⟩
  split at g1
  · rename_i d
    split at g1
    · rename_i hl
      split at g1
      · rename_i src hsrc
        obtain ⟨v, rfl, rv⟩ := rs.inv1
        obtain ⟨a, rfl, ⟨ws, h1⟩, h2⟩ := stand_l s1 rv hsrc hl
        exact ⟨a, ws, rfl, h1, GP.here g1 s1 _ (walks_e h2)⟩
      · exact g1.elim
    · exact g1.elim
  · exact g1.elim
/-- zip of two lists, of two tuples -/
def cZip (c : AX) : IX := fun ρ S => bindO (c ρ S) fun ds S => match ds with
  | [d, e] => if isL d = isL e then (match srcOf d with
    | some src => (match srcOf e with
      | some src2 => some (.ok (.zip src src2), S)
      | none => none)
    | none => none) else none
  | _ => none
theorem stand_t {K : PySem.W.Frag} {F H : Hp} {μ : List MA} {S : Store} {d : D} {v : V} {src : Src} (s : SR K T F μ S H) (r : Rep K F μ d v) (h : srcOf d = some src) (hl : isL d = false) : ∃ a, v = .ref a ∧ (∃ vs, SqT K H a vs) ∧ StandT K T F μ src a := by
  cases r with
  | @tup a xs ds hq rs =>
    cases h
    exact ⟨a, rfl, ⟨xs, s.sqT hq⟩, fun F' μ' S' H' es e p s' q => by cases q; exact ⟨xs, s'.sqT (ex_t e hq), rs.mono e p⟩⟩
  | lst => cases hl
  | fz => cases hl
  | loc => cases hl
  | _ => cases h
theorem ri_zip {elts : List Expr} {kk : Nat} {tpos : Pos} (ha : RA T X W [e, e2] ca) (hm : X.mg "zip" = none) (hg : Gl X "zip" := by rfl) (hs : starEach [e, e2] X.env = (false, eval e X.env) :: starEach [e2] X.env := by rfl) (hpl : (backTo pos (starEach [e2] X.env)).any (·.1) = false := by rfl) :
    RI T X W (.Tuple elts kk tpos) (.Call (.Name "zip" p) [e, e2] [] pos) (cZip ca) := by
  obtain ⟨t, pa, f⟩ := ha
  refine ⟨_, RZ.pi_zipA hg hm pa hs hpl, fun σ ρ F μ S H R s hE g => f σ ρ F μ S H _ s hE (GP.seq g fun ds F1 μ1 H1 S1 e1 p1 s1 g1 vs rs => ?_)⟩
  split at g1
  · rename_i d d2
    split at g1
    · rename_i hl
      split at g1
      · rename_i src hsrc
        split at g1
        · rename_i src2 hsrc2
          obtain ⟨v, u, rfl, rv, ru⟩ := rs.inv2
          cases hk : isL d2 with
          | true =>
            rw [hk] at hl
            obtain ⟨a, rfl, ⟨ws, h1⟩, h2⟩ := stand_l s1 rv hsrc hl
            obtain ⟨b, rfl, ⟨zs, k1⟩, k2⟩ := stand_l s1 ru hsrc2 hk
            exact ⟨a, b, ws, zs, rfl, .inl ⟨h1, k1, GP.here g1 s1 _ (walks_z h2 k2)⟩⟩
          | false =>
            rw [hk] at hl
            obtain ⟨a, rfl, ⟨ws, h1⟩, h2⟩ := stand_t s1 rv hsrc hl
            obtain ⟨b, rfl, ⟨zs, k1⟩, k2⟩ := stand_t s1 ru hsrc2 hk
            exact ⟨a, b, ws, zs, rfl, .inr ⟨h1, k1, GP.here g1 s1 _ (walks_zT h2 k2)⟩⟩
        · exact g1.elim
      · exact g1.elim
    · exact g1.elim
  · exact g1.elim
end

/-! ### targets -/
abbrev TX := D → PF.Env → Store → Out PF.Env
abbrev TXs := List D → PF.Env → Store → Out PF.Env
def NoEr : XV → Hp → List MA → Hp → Prop := fun _ _ _ _ => False
/-- σ' has other values at the slots js alone -/
def Agree (js : List Nat) (σ σ' : L2.St) : Prop := σ'.length = σ.length ∧ ∀ j, j ∉ js → σ'[j]? = σ[j]?
theorem Agree.refl {js : List Nat} {σ : L2.St} : Agree js σ σ := ⟨rfl, fun _ _ => rfl⟩
theorem Agree.trans {js : List Nat} {σ σ1 σ2 : L2.St} (a : Agree js σ σ1) (b : Agree js σ1 σ2) : Agree js σ σ2 := ⟨b.1.trans a.1, fun j h => (b.2 j h).trans (a.2 j h)⟩
theorem Agree.mono {js ks : List Nat} {σ σ1 : L2.St} (a : Agree js σ σ1) (h : ∀ j ∈ js, j ∈ ks) : Agree ks σ σ1 := ⟨a.1, fun j hj => a.2 j fun z => hj (h j z)⟩
def RG (T : List (Addr × Str)) (X : Cx) (js : List Nat) (tg : Expr) (c : TX) : Prop := ∃ g, PG X tg g ∧
  ∀ d v σ ρ F μ S H (Q : L2.St → Hp → Prop), SR X.K T F μ S H → EnvR X.K F μ ρ σ → Rep X.K F μ d v → GP X.K T F μ (c d ρ S) (fun ρ' F' μ' H' _ => ∀ σ', EnvR X.K F' μ' ρ' σ' → Agree js σ σ' → Q σ' H') NoEr → g v σ H Q
def RGs (T : List (Addr × Str)) (X : Cx) (js : List Nat) (tgs : List Expr) (c : TXs) : Prop := ∃ g, PGs X tgs g ∧
  ∀ ds vs σ ρ F μ S H (Q : L2.St → Hp → Prop), SR X.K T F μ S H → EnvR X.K F μ ρ σ → Reps X.K F μ ds vs → GP X.K T F μ (c ds ρ S) (fun ρ' F' μ' H' _ => ∀ σ', EnvR X.K F' μ' ρ' σ' → Agree js σ σ' → Q σ' H') NoEr → g vs σ H Q
section
variable {X : Cx} {T : List (Addr × Str)} {pos : Pos}
def tName (i : Nat) : TX := fun d ρ S => some (.ok (ρ.set i (some d)), S)
theorem rg_name {i : Nat} {x : Str} (hN : X.N.Nodup) (hi : X.N[i]? = some x := by rfl) (hx : Loc X.env.scope x := by first | exact Or.inl rfl | exact Or.inr rfl) (hf : X.fn x = true ∨ X.env.scope.names.lookup x = some .local := by first | exact .inl rfl | exact .inr rfl) : RG T X [i] (.Name x pos) (tName i) := by
  refine ⟨_, pg_name hN hi hx hf, fun d v σ ρ F μ S H Q s hE r g => ?_⟩
  refine GP.here g s _ (hE.set r) ⟨by simp, fun j hj => ?_⟩
  rw [List.getElem?_set_ne (by simp at hj; exact fun z => hj z.symm)]
def tsNil : TXs := fun ds ρ S => match ds with
  | [] => some (.ok ρ, S)
  | _ => none
def tsCons (t : TX) (r : TXs) : TXs := fun ds ρ S => match ds with
  | d :: ds => bindO (t d ρ S) fun ρ1 S => r ds ρ1 S
  | [] => none
theorem rgs_nil : RGs T X [] [] tsNil := by
  refine ⟨_, pgs_nil, fun ds vs σ ρ F μ S H Q s hE r g => ?_⟩
  cases r with
  | nil => exact ⟨rfl, GP.here g s _ hE Agree.refl⟩
  | cons _ _ => exact g.elim
theorem rgs_cons {js ks : List Nat} {e : Expr} {es : List Expr} {t : TX} {r : TXs} (h : RG T X js e t) (hr : RGs T X ks es r) (hs : (assignEach (e :: es) X.env).map (·.2) = assign e X.env :: (assignEach es X.env).map (·.2) := by rfl) : RGs T X (js ++ ks) (e :: es) (tsCons t r) := by
  obtain ⟨g1, p1, f1⟩ := h
  obtain ⟨g2, p2, f2⟩ := hr
  refine ⟨_, pgs_cons p1 p2 hs, fun ds vs σ ρ F μ S H Q s hE rs g => ?_⟩
  cases rs with
  | nil => exact g.elim
  | cons rd rs =>
    refine ⟨_, _, rfl, f1 _ _ σ ρ F μ S H _ s hE rd (GP.seq g fun ρ1 F1 μ1 H1 S1 e1 q1 s1 gg σ1 hE1 a1 => ?_)⟩
    refine f2 _ _ σ1 ρ1 F1 μ1 S1 H1 Q s1 hE1 (rs.mono e1 q1) (GP.imp gg fun ρ2 F2 μ2 H2 S2 e2 q2 s2 k σ2 hE2 a2 => ?_)
    exact k σ2 hE2 ((a1.mono fun j hj => List.mem_append_left _ hj).trans (a2.mono fun j hj => List.mem_append_right _ hj))
/-- (a, b, ..) = a tuple -/
def tTup (n : Nat) (c : TXs) : TX := fun d ρ S => match d with
  | .tup ds => if ds.length = n then c ds ρ S else none
  | _ => none
theorem rg_tup {js : List Nat} {es : List Expr} {k n : Nat} {c : TXs} (hc : X.calm = true) (h : RGs T X js es c) (hn : (assignEach es X.env).length = n := by rfl) (hst : (assignEach es X.env).findIdx? (·.1) = none := by rfl) : RG T X js (.Tuple es k pos) (tTup n c) := by
  obtain ⟨g1, p1, f1⟩ := h
  refine ⟨_, pg_tup hc p1 hn hst, fun d v σ ρ F μ S H Q s hE r g => ?_⟩
  cases r with
  | @tup a xs ds hq rs =>
    unfold tTup at g
    dsimp only at g
    split at g
    · rename_i hl
      exact ⟨a, xs, rfl, s.sqT hq, by rw [← rs.length]; exact hl, f1 ds xs σ ρ F μ S H Q s hE rs g⟩
    · exact g.elim
  | _ => exact g.elim
/-- no exception -/
def noX {α : Type} (r : Out α) : Out α := match r with
  | some (.error _, _) => none
  | r => r
theorem GP.noX {α : Type} {K : PySem.W.Frag} {F : Hp} {μ : List MA} {r : Out α} {ok : α → Hp → List MA → Hp → Store → Prop} {er er' : XV → Hp → List MA → Hp → Prop} (h : GP K T F μ (noX r) ok er) : GP K T F μ r ok er' := by
  match r, h with
  | some (.ok a, S), h => exact h
/-- o[i] = .., a list of the store -/
def tSub (a b : EX) : TX := fun d ρ S => bindO (noX (a ρ S)) fun o S => bindO (noX (b ρ S)) fun i S => match o, i with
  | .loc n, .int k => (match S[n]? with
    | some ds => (match ixN ds.length k with
      | some j => if d.pure = true then some (.ok ρ, S.set n (ds.set j d)) else none
      | none => none)
    | none => none)
  | _, _ => none
theorem pures_set {ds : List D} {d : D} {j : Nat} (h : D.pures ds = true) (hd : d.pure = true) : D.pures (ds.set j d) = true := by
  rw [D.pures_iff] at h ⊢
  intro x hx
  rcases List.mem_or_eq_of_mem_set hx with hx | rfl
  · exact h x hx
  · exact hd
theorem rg_sub {o i : Expr} {a b : EX} (ho : RE T false X (fun _ _ _ _ => False) o a) (hi : RE T false X (fun _ _ _ _ => False) i b)
    (ha : ∀ v, assign (.Subscript o i pos) X.env v = (do
      let ov ← holding [v] (eval o X.env)
      let iv ← holding [v, ov] (eval i X.env)
      standAt pos
      holding [v, ov, iv] (setItem ov iv v)
      release [v, ov, iv] []) := by intro _; rfl) : RG T X [] (.Subscript o i pos) (tSub a b) := by
  obtain ⟨t1, p1, f1⟩ := ho
  obtain ⟨t2, p2, f2⟩ := hi
  refine ⟨_, pg_sub p1 p2 set_list ha, fun d v σ ρ F μ S H Q s hE r g => ?_⟩
  refine f1 σ ρ F μ S H _ s hE (GP.noX (GP.seq (er := NoEr) g fun x F1 μ1 H1 S1 e1 q1 s1 g1 w rw1 => ?_))
  refine f2 σ ρ F1 μ1 S1 H1 _ s1 (hE.mono e1 q1) (GP.noX (GP.seq (er := NoEr) g1 fun y F2 μ2 H2 S2 e2 q2 s2 g2 u ru => ?_))
  have rw1 := Rep.mono e2 q2 rw1
  cases rw1 with
  | @loc n A hm =>
    cases ru with
    | int k =>
      obtain ⟨ds, vs, h1, h2, h3, _, h5⟩ := s2.get hm
      dsimp only at g2
      rw [h1] at g2
      dsimp only at g2
      split at g2
      · rename_i j hj
        split at g2
        · rename_i hp
          refine ⟨A, vs, k, j, rfl, rfl, h2, by rw [← h3.length]; exact hj, ?_⟩
          have s3 := s2.put hm (h3.set j (Rep.mono e2 q2 (Rep.mono e1 q1 r))) (pures_set h5 hp)
          exact GP.here g2 s3 _ ((hE.mono e1 q1).mono e2 q2) Agree.refl
        · exact g2.elim
      · exact g2.elim
    | _ => exact g2.elim
  | _ => exact g2.elim
end
end PF
set_option Elab.async false
set_option linter.all false
set_option maxRecDepth 100000
set_option maxHeartbeats 4000000
/-! PF6: comprehensions, statements, a def. -/
namespace PF
open PySem L2 Evl PySem.Spec PyProof.Rows
/-! ### comprehensions -/
/-- k turns from the i-th on; the list that grows is the store's n-th -/
def compGo (src : Src) (n : Nat) (f : D → Store → Out (Option D)) : Nat → Nat → Store → Out Unit
  | 0, i, S => match srcAt src S with
    | some ds => if ds.length ≤ i then some (.ok (), S) else none
    | none => none
  | k + 1, i, S => match srcAt src S with
    | some ds => (match ds[i]? with
      | some d => bindO (noX (f d S)) fun o S1 => match o with
        | none => compGo src n f k (i + 1) S1
        | some y => (match S1[n]? with
          | some acc => if y.pure = true ∧ acc.length < lim then compGo src n f k (i + 1) (S1.set n (acc ++ [y])) else none
          | none => none)
      | none => none)
    | none => none
def cComp (src : IX) (js : List Nat) (tgt : TX) (test : BX) (elt : EX) : EX := fun ρ S => bindO (src ρ S) fun src S => match srcAt src S with
  | some ds => bindO (compGo src S.length (fun d S => bindO (tgt d (wipeE ρ js) S) fun ρ1 S => bindO (test ρ1 S) fun b S => match b with
      | true => bindO (elt ρ1 S) fun y S => some (.ok (some y), S)
      | false => some (.ok none, S)) ds.length 0 (S ++ [[]])) fun _ S' => (match S'[S.length]? with
    | some acc => some (.ok (.lst acc), S'.take S.length)
    | none => none)
  | none => none
def bYes : BX := fun _ S => some (.ok true, S)
def RTs (T : List (Addr × Str)) (X : Cx) (W : WX) (ifs : List Expr) (c : BX) : Prop := ∃ t, PTs X ifs t ∧
  ∀ σ ρ F μ S H (Q : Bool → Hp → Prop), SR X.K T F μ S H → EnvR X.K F μ ρ σ → GP X.K T F μ (c ρ S) (fun b _ _ H' _ => Q b H') (ErW X.K X.mg fun cls dd H' => W cls dd σ H') → t σ H Q
theorem rts_nil {T : List (Addr × Str)} {X : Cx} {W : WX} : RTs T X W [] bYes := ⟨_, pts_nil, fun σ ρ F μ S H Q s hE g => GP.here g s⟩
theorem rts_one {T : List (Addr × Str)} {X : Cx} {W : WX} {e : Expr} {c : BX} (h : RT T X W e c) : RTs T X W [e] c := let ⟨t, p, f⟩ := h; ⟨t, pts_one p, f⟩
theorem wipe_get {σ : L2.St} : ∀ {vs : List Nat} {j : Nat}, j ∉ vs → (wipe σ vs)[j]? = σ[j]?
  | [], _, _ => rfl
  | v :: vs, j, h => by
    simp only [List.mem_cons, not_or] at h
    unfold wipe
    rw [List.getElem?_set_ne (fun z => h.1 z.symm)]
    exact wipe_get h.2
theorem wipe_in {σ : L2.St} : ∀ {vs : List Nat} {j : Nat}, j ∈ vs → j < σ.length → (wipe σ vs)[j]? = some none
  | v :: vs, j, h, hl => by
    unfold wipe
    by_cases e : v = j
    · subst e
      rw [List.getElem?_set_self (by rw [wipe_length]; exact hl)]
    · rw [List.getElem?_set_ne e]
      rcases List.mem_cons.mp h with z | z
      · exact absurd z.symm e
      · exact wipe_in z hl
theorem wipe_agree {σ σ' : L2.St} {vs js : List Nat} (h : Agree js (wipe σ vs) σ') (hj : ∀ j ∈ js, j ∈ vs) : wipe σ' vs = wipe σ vs := by
  have hl : σ'.length = σ.length := by rw [h.1, wipe_length]
  apply List.ext_getElem?
  intro j
  by_cases hv : j ∈ vs
  · by_cases hlt : j < σ.length
    · rw [wipe_in hv (by omega), wipe_in hv hlt]
    · rw [List.getElem?_eq_none (by rw [wipe_length]; omega), List.getElem?_eq_none (by rw [wipe_length]; omega)]
  · rw [wipe_get hv, h.2 j (fun z => hv (hj j z)), wipe_get hv]
abbrev WF : WX := fun _ _ _ _ => False
theorem srcAt_app {src : Src} {S : Store} {L : List D} {ds : List D} : srcAt src S = some ds → srcAt src (S ++ [L]) = some ds := by
  induction src generalizing ds with
  | items es => exact id
  | cell n =>
    intro h
    simp only [srcAt] at h ⊢
    have := (List.getElem?_eq_some_iff.mp h).1
    rw [List.getElem?_append_left this]; exact h
  | enum s ih =>
    intro h
    simp only [srcAt, Option.map_eq_some_iff] at h ⊢
    obtain ⟨es, h, rfl⟩ := h
    exact ⟨es, ih h, rfl⟩
  | zip a b iha ihb =>
    intro h
    simp only [srcAt] at h ⊢
    split at h
    · rename_i xs ys h1 h2
      rw [iha h1, ihb h2]
      exact h
    · cases h
theorem GP.er {α : Type} {K : PySem.W.Frag} {T : List (Addr × Str)} {F : Hp} {μ : List MA} {r : Out α} {ok : α → Hp → List MA → Hp → Store → Prop} {er : XV → Hp → List MA → Hp → Prop} (h : GP K T F μ r ok NoEr) : GP K T F μ r ok er := by
  match r, h with
  | some (.ok a, S), h => exact h
  | some (.error x, S), h => exact fun F' μ' H' e p s => (h F' μ' H' e p s).elim
/-! the readings that data give, whatever the context -/
def tE (T : List (Addr × Str)) (fr : Bool) (K : PySem.W.Frag) (mg : Str → Option Value) (W : WX) (c : EX) : TE := fun σ H Q => ∃ ρ F μ S, SR K T F μ S H ∧ EnvR K F μ ρ σ ∧ GP K T F μ (c ρ S) (OkV K fr Q) (ErW K mg fun cls dd H' => W cls dd σ H')
def tTs (T : List (Addr × Str)) (K : PySem.W.Frag) (mg : Str → Option Value) (W : WX) (c : BX) : TT := fun σ H Q => ∃ ρ F μ S, SR K T F μ S H ∧ EnvR K F μ ρ σ ∧ GP K T F μ (c ρ S) (fun b _ _ H' _ => Q b H') (ErW K mg fun cls dd H' => W cls dd σ H')
def gE (T : List (Addr × Str)) (K : PySem.W.Frag) (js : List Nat) (c : TX) : TG := fun v σ H Q => ∃ d ρ F μ S, SR K T F μ S H ∧ EnvR K F μ ρ σ ∧ Rep K F μ d v ∧ GP K T F μ (c d ρ S) (fun ρ' F' μ' H' _ => ∀ σ', EnvR K F' μ' ρ' σ' → Agree js σ σ' → Q σ' H') NoEr
theorem RE.pe {T : List (Addr × Str)} {fr : Bool} {X : Cx} {W : WX} {e : Expr} {c : EX} (h : RE T fr X W e c) : PE X e (tE T fr X.K X.mg W c) := by
  obtain ⟨t, p, f⟩ := h
  exact ⟨fun pins s σ H Q I ⟨ρ, F, μ, S, a, b, g⟩ => p.run pins s σ H Q I (f σ ρ F μ S H Q a b g)⟩
theorem RTs.pts {T : List (Addr × Str)} {X : Cx} {W : WX} {e : List Expr} {c : BX} (h : RTs T X W e c) : PTs X e (tTs T X.K X.mg W c) := by
  obtain ⟨t, p, f⟩ := h
  exact ⟨fun pins s σ H Q I ⟨ρ, F, μ, S, a, b, g⟩ => p.run pins s σ H Q I (f σ ρ F μ S H Q a b g)⟩
theorem RG.pg {T : List (Addr × Str)} {X : Cx} {js : List Nat} {e : Expr} {c : TX} (h : RG T X js e c) : PG X e (gE T X.K js c) := by
  obtain ⟨t, p, f⟩ := h
  exact ⟨fun pins s σ H v u Q I r ⟨d, ρ, F, μ, S, a, b, rd, g⟩ => p.run pins s σ H v u Q I r (f d v σ ρ F μ S H Q a b rd g)⟩
section
variable {X : Cx} {T : List (Addr × Str)} {W : WX} {js : List Nat} {elt tg iter : Expr} {ifs : List Expr} {scope : Scope} {own : List (Str × Nat)} {pos : Pos} {ci : IX} {ct : TX} {cb : BX} {ce : EX}
/-- what a comprehension's reading asks -/
theorem comp_read {wi : TI} {g : TG} {tt : TT} {te : TE} {X' : Cx} (hjs : ∀ j ∈ js, j ∈ own.map (·.2)) (hK : X'.K = X.K)
    (fi : ∀ σ ρ F μ S H (R : It → Hp → Prop), SR X.K T F μ S H → EnvR X.K F μ ρ σ → GP X.K T F μ (ci ρ S) (fun src F' μ' H' _ => ∀ J, Walks X.K T F' μ' src J → R J H') (ErW X.K X.mg fun cls dd H' => W cls dd σ H') → wi σ H R)
    (fg : ∀ d v σ ρ F μ S H (Q : L2.St → Hp → Prop), SR X.K T F μ S H → EnvR X.K F μ ρ σ → Rep X.K F μ d v → GP X.K T F μ (ct d ρ S) (fun ρ' F' μ' H' _ => ∀ σ', EnvR X.K F' μ' ρ' σ' → Agree js σ σ' → Q σ' H') NoEr → g v σ H Q)
    (ft : ∀ σ ρ F μ S H (Q : Bool → Hp → Prop), SR X.K T F μ S H → EnvR X.K F μ ρ σ → GP X.K T F μ (cb ρ S) (fun b _ _ H' _ => Q b H') (ErW X.K X.mg fun cls dd H' => WF cls dd σ H') → tt σ H Q)
    (fe : ∀ σ ρ F μ S H Q, SR X.K T F μ S H → EnvR X.K F μ ρ σ → GP X.K T F μ (ce ρ S) (OkV X.K false Q) (ErW X.K X.mg fun cls dd H' => WF cls dd σ H') → te σ H Q)
    {σ ρ F μ S H Q} (s : SR X.K T F μ S H) (hE : EnvR X.K F μ ρ σ) (gg : GP X.K T F μ (cComp ci (own.map (·.2)) ct cb ce ρ S) (OkV X.K true Q) (ErW X.K X.mg fun cls dd H' => W cls dd σ H')) :
    tLc wi g tt te (own.map (·.2)) σ H Q := by
  refine fi σ ρ F μ S H _ s hE (GP.seq gg fun src F1 μ1 H1 S1 e1 p1 s1 g1 J hJ => ?_)
  have hE1 := hE.mono e1 p1
  split at g1
  case h_2 => exact g1.elim
  rename_i ds hds
  intro Dl hD
  have hF := fresh_back s1.ex hD
  have s2 : SR X.K T F1 (μ1 ++ [⟨Dl, .lst⟩]) (S1 ++ [[]]) (upd H1 Dl (.lst [])) := (s1.lay hD).alloc hF (s1.notin hD) upd_same .nil rfl
  have hn : (μ1 ++ [⟨Dl, .lst⟩])[S1.length]? = some ⟨Dl, .lst⟩ := by rw [← s1.len, List.getElem?_append_right (Nat.le_refl _)]; simp
  generalize hf : (fun d S => bindO (ct d (wipeE ρ (own.map (·.2))) S) fun ρ1 S => bindO (cb ρ1 S) fun b S => match b with
      | true => bindO (ce ρ1 S) fun y S => some (.ok (some y), S)
      | false => some (.ok none, S) : D → Store → Out (Option D)) = f at g1
  generalize hk : (fun _ S' => match S'[S1.length]? with
    | some acc => some (.ok (.lst acc), S'.take S1.length)
    | none => none : Unit → Store → Out D) = k at g1
  generalize hr : bindO (compGo src S1.length f ds.length 0 (S1 ++ [[]])) k = r at g1
  refine ⟨fun i m H' => ∃ F' μ' S', Ex F1 F' ∧ (μ1 ++ [⟨Dl, .lst⟩]) <+: μ' ∧ SR X.K T F' μ' S' H' ∧ bindO (compGo src S1.length f m i S') k = r,
    ⟨ds.length, F1, μ1 ++ [⟨Dl, .lst⟩], _, Ex.refl _, List.prefix_refl _, s2, hr⟩, ?_⟩
  rintro i m H2 ⟨F2, μ2, S2, e2, p2, s3, k2⟩
  have hDl2 := pre_get p2 hn
  have p12 : μ1 <+: μ2 := (List.prefix_append _ _).trans p2
  cases m with
  | zero =>
    left
    unfold compGo at k2
    split at k2
    case h_2 => rw [← k2] at g1; exact g1.elim
    rename_i es hes
    split at k2
    case isFalse => rw [← k2] at g1; exact g1.elim
    rename_i hl
    refine ⟨(hJ F2 μ2 S2 H2 es i e2 p12 s3 hes).2 hl, ?_⟩
    obtain ⟨acc, vs, a1, a2, a3, a4, a5⟩ := s3.get hDl2
    rw [bindO_ok, ← hk] at k2
    dsimp only at k2
    rw [a1] at k2
    dsimp only at k2
    rw [← k2] at g1
    have s4 := s3.cut S1.length
    have hcut : μ2.take S1.length = μ1 := by
      obtain ⟨t, rfl⟩ := p12
      rw [← s1.len]; simp
    rw [hcut] at s4
    exact g1 F2 μ1 H2 e2 (List.prefix_refl _) s4 _ ⟨acc, Dl, vs, rfl, rfl, a4, s1.notin hD, a2, a3.free a5⟩
  | succ m =>
    right
    unfold compGo at k2
    split at k2
    case h_2 => rw [← k2] at g1; exact g1.elim
    rename_i es hes
    split at k2
    case h_2 => rw [← k2] at g1; exact g1.elim
    rename_i d hd
    obtain ⟨hgo, hy⟩ := (hJ F2 μ2 S2 H2 es i e2 p12 s3 hes).1 d hd
    cases hfd : noX (f d S2) with
    | none => rw [hfd] at k2; rw [← k2] at g1; exact g1.elim
    | some q =>
      obtain ⟨q, S3⟩ := q
      cases q with
      | error x =>
        exfalso
        unfold noX at hfd
        split at hfd
        · cases hfd
        · rename_i hne
          exact hne _ _ hfd
      | ok o =>
        rw [hfd, bindO_ok] at k2
        have known : GP X.K T F2 μ2 (f d S2) (fun o' F' μ' H' S' => o' = o ∧ S' = S3 ∧ Ex F2 F' ∧ μ2 <+: μ' ∧ SR X.K T F' μ' S' H') NoEr := by
          apply GP.noX (er := NoEr)
          rw [hfd]
          exact fun F' μ' H' e p s' => ⟨rfl, rfl, e, p, s'⟩
        rw [← hf] at known
        refine ⟨hgo, fun H' => ∃ F' μ' S', Ex F1 F' ∧ (μ1 ++ [⟨Dl, .lst⟩]) <+: μ' ∧ SR X.K T F' μ' S' H' ∧ bindO (compGo src S1.length f m (i + 1) S') k = r, fun H' h => ⟨m, Nat.lt_succ_self _, h⟩, fun x H3 yl => ?_⟩
        obtain ⟨F3, e3, s5, rx⟩ := hy x H3 yl
        have hE3 : EnvR X.K F3 μ2 (wipeE ρ (own.map (·.2))) (wipe σ (own.map (·.2))) := (hE1.wipe _).mono (e2.trans e3) p12
        have known3 := GP.mono known e3 (List.prefix_refl _)
        dsimp only at known3
        refine fg d x _ _ F3 μ2 S2 H3 _ s5 hE3 rx (GP.seq known3 fun ρ1 F4 μ4 H4 S4 e4 p4 s4 k4 σ4 hE4 a4 => ?_)
        refine ⟨wipe_agree a4 hjs, ?_⟩
        refine ft σ4 ρ1 F4 μ4 S4 H4 _ s4 hE4 (GP.seq (GP.er k4) fun b F5 μ5 H5 S5 e5 p5 s5' k5 => ?_)
        cases b with
        | false =>
          rw [if_neg Bool.false_ne_true]
          obtain ⟨h1, h2, h3, h4, h5⟩ := GP.here k5 s5'
          subst h1; subst h2
          exact ⟨F5, μ5, S5, e2.trans h3, p2.trans h4, h5, k2⟩
        | true =>
          rw [if_pos rfl]
          refine fe σ4 ρ1 F5 μ5 S5 H5 _ s5' (hE4.mono e5 p5) (GP.seq k5 fun y F6 μ6 H6 S6 e6 p6 s6 k6 v rv => ?_)
          obtain ⟨h1, h2, h3, h4, h5⟩ := GP.here k6 s6
          subst h1; subst h2
          have hDl6 := pre_get h4 hDl2
          obtain ⟨acc, vs, a1, a2, a3, a4', a5⟩ := s6.get hDl6
          dsimp only at k2
          rw [a1] at k2
          dsimp only at k2
          split at k2
          case isFalse => rw [← k2] at g1; exact g1.elim
          rename_i hc
          refine ⟨vs, a2, by rw [← a3.length]; exact Nat.lt_of_lt_of_le hc.2 (by decide), F6, μ6, _, e2.trans h3, p2.trans h4, s6.put hDl6 (a3.append (Reps.one rv)) (by
            rw [D.pures_append, a5, Bool.true_and]
            simp [D.pures, hc.1]), k2⟩
/-- [elt for tg in iter if ..] -/
theorem re_comp {os : List Nat} (hc : X.calm = true) (hN : X.N.Nodup) (ok : BlkOk X.N X.env.scope scope own) (hos : own.map (·.2) = os) (hjs : ∀ j ∈ js, j ∈ os) (hi : RI T X W tg iter ci)
    (hg : ∀ (s : Shared) (H : Hp) (C : Addr) (cl : List (Str × Addr)) (fp : List Addr), RG T (X.blk s H scope (compEnvC scope cl C X.env) fp) js tg ct) (ht : ∀ (s : Shared) (H : Hp) (C : Addr) (cl : List (Str × Addr)) (fp : List Addr), RTs T (X.blk s H scope (compEnvC scope cl C X.env) fp) WF ifs cb)
    (he : ∀ (s : Shared) (H : Hp) (C : Addr) (cl : List (Str × Addr)) (fp : List Addr), RE T false (X.blk s H scope (compEnvC scope cl C X.env) fp) WF elt ce) (hs : ∀ x, foldedSetIterable iter X.env x = pure x := by intro _; rfl) :
    RE T true X W (.ListComp elt [⟨tg, iter, ifs, 0⟩] scope pos) (cComp ci os ct cb ce) := by
  subst hos
  obtain ⟨wi, pi, fi⟩ := hi
  refine ⟨_, pe_lc (g := gE T X.K js ct) (tt := tTs T X.K X.mg WF cb) (te := tE T false X.K X.mg WF ce) hc hN pi ok (fun s H C cl fp => (hg s H C cl fp).pg) (fun s H C cl fp => (ht s H C cl fp).pts) (fun s H C cl fp => (he s H C cl fp).pe) hs, fun σ ρ F μ S H Q s hE g => ?_⟩
  exact comp_read (X' := X) hjs rfl fi (fun d v σ ρ F μ S H Q a b c g => ⟨d, ρ, F, μ, S, a, b, c, g⟩) (fun σ ρ F μ S H Q a b g => ⟨ρ, F, μ, S, a, b, g⟩) (fun σ ρ F μ S H Q a b g => ⟨ρ, F, μ, S, a, b, g⟩) s hE g
end

/-! ### statements -/
inductive Fl where
  | nx (ρ : PF.Env) | brk (ρ : PF.Env) | ct (ρ : PF.Env) | ret (d : D) | exc (x : XV) (ρ : PF.Env)
abbrev SX := PF.Env → Store → Out Fl
def RetR (K : PySem.W.Frag) (fr : Bool) (F : Hp) (μ : List MA) (H : Hp) (d : D) (v : V) : Prop := match fr with
  | false => Rep K F μ d v
  | true => Fresh K F μ H d v ∨ ∃ n, d = .loc n ∧ Rep K F μ (.loc n) v
def OkF (K : PySem.W.Frag) (mg : Str → Option Value) (fr : Bool) (D : Ends) (W : WX) : Fl → Hp → List MA → Hp → Store → Prop := fun fl F μ H _ => match fl with
  | .nx ρ => ∀ σ, EnvR K F μ ρ σ → D.nx σ H
  | .brk ρ => ∀ σ, EnvR K F μ ρ σ → D.bk σ H
  | .ct ρ => ∀ σ, EnvR K F μ ρ σ → D.ct σ H
  | .ret d => ∀ v, RetR K fr F μ H d v → D.rt v H
  | .exc x ρ => ∀ σ cls dd, EnvR K F μ ρ σ → XRep K mg F μ x cls dd → W cls dd σ H
def RS (T : List (Addr × Str)) (fr : Bool) (X : Cx) (W : WX) (st : Stmt) (c : SX) : Prop := ∃ t, PS X st t ∧
  ∀ σ ρ F μ S H D, SR X.K T F μ S H → EnvR X.K F μ ρ σ → GP X.K T F μ (c ρ S) (OkF X.K X.mg fr D W) NoEr → t D σ H
def RSs (T : List (Addr × Str)) (fr : Bool) (X : Cx) (W : WX) (st : List Stmt) (c : SX) : Prop := ∃ t, PSs X st t ∧
  ∀ σ ρ F μ S H D, SR X.K T F μ S H → EnvR X.K F μ ρ σ → GP X.K T F μ (c ρ S) (OkF X.K X.mg fr D W) NoEr → t D σ H
/-- an expression's outcome in a statement -/
def stm {α : Type} (ρ : PF.Env) (r : Out α) (k : α → Store → Out Fl) : Out Fl := match r with
  | none => none
  | some (.ok a, S) => k a S
  | some (.error x, S) => some (.ok (.exc x ρ), S)
@[simp] theorem stm_ok {α : Type} (ρ : PF.Env) (a : α) (S : Store) (k : α → Store → Out Fl) : stm ρ (some (.ok a, S)) k = k a S := rfl
@[simp] theorem stm_err {α : Type} (ρ : PF.Env) (x : XV) (S : Store) (k : α → Store → Out Fl) : stm ρ (some (.error x, S)) k = some (.ok (.exc x ρ), S) := rfl
@[simp] theorem stm_none {α : Type} (ρ : PF.Env) (k : α → Store → Out Fl) : stm ρ none k = none := rfl
section
variable {X : Cx} {T : List (Addr × Str)} {W : WX} {fr : Bool}
theorem GP.stm {α : Type} {r : Out α} {k : α → Store → Out Fl} {σ : L2.St} {ρ : PF.Env} {F : Hp} {μ : List MA} {D : Ends} {ok2 : α → Hp → List MA → Hp → Store → Prop} (h : GP X.K T F μ (PF.stm ρ r k) (OkF X.K X.mg fr D W) NoEr) (hE : EnvR X.K F μ ρ σ)
    (f : ∀ a F' μ' H' S', Ex F F' → μ <+: μ' → SR X.K T F' μ' S' H' → GP X.K T F' μ' (k a S') (OkF X.K X.mg fr D W) NoEr → ok2 a F' μ' H' S') : GP X.K T F μ r ok2 (ErW X.K X.mg fun cls dd H' => W cls dd σ H') := by
  match r, h with
  | some (.ok a, S), h => exact fun F' μ' H' e p s => f a F' μ' H' S e p s (GP.mono h e p)
  | some (.error x, S), h => exact fun F' μ' H' e p s cls dd hx => h F' μ' H' e p s σ cls dd (hE.mono e p) hx
def sNil : SX := fun ρ S => some (.ok (.nx ρ), S)
def sSeq (a b : SX) : SX := fun ρ S => bindO (a ρ S) fun fl S => match fl with
  | .nx ρ' => b ρ' S
  | fl => some (.ok fl, S)
theorem rss_nil : RSs T fr X W [] sNil := ⟨_, pss_nil, fun σ ρ F μ S H D s hE g => GP.here g s σ hE⟩
theorem rss_one {st : Stmt} {c : SX} (h : RS T fr X W st c) : RSs T fr X W [st] c := let ⟨t, p, f⟩ := h; ⟨t, pss_one p, f⟩
theorem rss_cons {st : Stmt} {rest : List Stmt} {a b : SX} (h : RS T fr X W st a) (hr : RSs T fr X W rest b) : RSs T fr X W (st :: rest) (sSeq a b) := by
  obtain ⟨t1, p1, f1⟩ := h
  obtain ⟨t2, p2, f2⟩ := hr
  refine ⟨_, pss_cons p1 p2, fun σ ρ F μ S H D s hE g => ?_⟩
  refine f1 σ ρ F μ S H _ s hE (GP.seq g fun fl F1 μ1 H1 S1 e1 q1 s1 g1 => ?_)
  cases fl with
  | nx ρ' => exact fun σ' hE' => f2 σ' ρ' F1 μ1 S1 H1 D s1 hE' g1
  | brk ρ' => exact GP.here (er := NoEr) g1 s1
  | ct ρ' => exact GP.here (er := NoEr) g1 s1
  | ret d => exact GP.here (er := NoEr) g1 s1
  | exc x ρ' => exact GP.here (er := NoEr) g1 s1
theorem rs_pass {pos : Pos} : RS T fr X W (.Pass pos) sNil := ⟨_, ps_pass, fun σ ρ F μ S H D s hE g => GP.here g s σ hE⟩
def sBrk : SX := fun ρ S => some (.ok (.brk ρ), S)
def sCt : SX := fun ρ S => some (.ok (.ct ρ), S)
theorem rs_break {pos : Pos} : RS T fr X W (.Break pos) sBrk := ⟨_, ps_break, fun σ ρ F μ S H D s hE g => GP.here g s σ hE⟩
theorem rs_continue {pos : Pos} : RS T fr X W (.Continue pos) sCt := ⟨_, ps_continue, fun σ ρ F μ S H D s hE g => GP.here g s σ hE⟩
def sRet (c : EX) : SX := fun ρ S => stm ρ (c ρ S) fun d S => some (.ok (.ret d), S)
theorem rs_ret {e : Expr} {c : EX} {pos : Pos} (h : RE T fr X W e c) : RS T fr X W (.Return (some e) pos) (sRet c) := by
  obtain ⟨t, p, f⟩ := h
  refine ⟨_, ps_ret p, fun σ ρ F μ S H D s hE g => f σ ρ F μ S H _ s hE (GP.stm g hE fun d F1 μ1 H1 S1 e1 q1 s1 g1 v r => ?_)⟩
  refine GP.here g1 s1 v ?_
  cases fr with
  | false => exact r
  | true => exact .inl r
/-- a list of the store is handed back: its content goes -/
def sRetL (c : EX) : SX := fun ρ S => stm ρ (c ρ S) fun d S => match d with
  | .loc n => some (.ok (.ret (.loc n)), S)
  | _ => none
theorem rs_retL {e : Expr} {c : EX} {pos : Pos} (h : RE T false X W e c) : RS T true X W (.Return (some e) pos) (sRetL c) := by
  obtain ⟨t, p, f⟩ := h
  refine ⟨_, ps_ret p, fun σ ρ F μ S H D s hE g => f σ ρ F μ S H _ s hE (GP.stm g hE fun d F1 μ1 H1 S1 e1 q1 s1 g1 v r => ?_)⟩
  cases d with
  | loc n => exact GP.here g1 s1 v (.inr ⟨n, rfl, r⟩)
  | _ => exact g1.elim
theorem rs_retN {pos : Pos} : RS T false X W (.Return none pos) (sRet (cK .non)) := ⟨_, ps_retN, fun σ ρ F μ S H D s hE g => GP.here g s .non .non⟩
def sIf (c : BX) (a b : SX) : SX := fun ρ S => stm ρ (c ρ S) fun x S => match x with
  | true => a ρ S
  | false => b ρ S
theorem rs_if {e : Expr} {as bs : List Stmt} {c : BX} {a b : SX} {pos : Pos} (h : RT T X W e c) (ha : RSs T fr X W as a) (hb : RSs T fr X W bs b) : RS T fr X W (.If e as bs pos) (sIf c a b) := by
  obtain ⟨t, p, f⟩ := h
  obtain ⟨t1, p1, f1⟩ := ha
  obtain ⟨t2, p2, f2⟩ := hb
  refine ⟨_, ps_if p p1 p2, fun σ ρ F μ S H D s hE g => f σ ρ F μ S H _ s hE (GP.stm g hE fun x F1 μ1 H1 S1 e1 q1 s1 g1 => ?_)⟩
  cases x with
  | true => rw [if_pos rfl]; exact f1 σ ρ F1 μ1 S1 H1 D s1 (hE.mono e1 q1) g1
  | false => rw [if_neg Bool.false_ne_true]; exact f2 σ ρ F1 μ1 S1 H1 D s1 (hE.mono e1 q1) g1
def sExpr (c : EX) : SX := fun ρ S => stm ρ (c ρ S) fun _ S => some (.ok (.nx ρ), S)
theorem rs_expr {e : Expr} {c : EX} {pos : Pos} (h : RE T false X W e c) (hs : swapsWith e none pos.line X.env = pure false := by rfl) : RS T fr X W (.Expr e pos) (sExpr c) := by
  obtain ⟨t, p, f⟩ := h
  exact ⟨_, ps_expr p hs, fun σ ρ F μ S H D s hE g => f σ ρ F μ S H _ s hE (GP.stm g hE fun d F1 μ1 H1 S1 e1 q1 s1 g1 v r => GP.here g1 s1 σ (hE.mono e1 q1))⟩
/-- x = e -/
def sSet (i : Nat) (c : EX) : SX := fun ρ S => stm ρ (c ρ S) fun d S => some (.ok (.nx (ρ.set i (some d))), S)
theorem rs_set {i : Nat} {x : Str} {e : Expr} {c : EX} {pos pos' : Pos} (hN : X.N.Nodup) (h : RE T false X W e c) (hi : X.N[i]? = some x := by rfl) (hx : Loc X.env.scope x := by first | exact Or.inl rfl | exact Or.inr rfl) (hs : swapsWith e (some (.Name x pos')) pos.line X.env = pure false := by rfl)
    (hf : X.fn x = true ∨ X.env.scope.names.lookup x = some .local := by first | exact .inl rfl | exact .inr rfl) : RS T fr X W (.Assign [.Name x pos'] e pos) (sSet i c) := by
  obtain ⟨t, p, f⟩ := h
  exact ⟨_, ps_set hN hi hx p hs hf, fun σ ρ F μ S H D s hE g => f σ ρ F μ S H _ s hE (GP.stm g hE fun d F1 μ1 H1 S1 e1 q1 s1 g1 v r => GP.here g1 s1 _ ((hE.mono e1 q1).set r))⟩
/-- x = [..], a comprehension on one line -/
theorem rs_setLc {os : List Nat} {i : Nat} {y : Str} {elt tg iter : Expr} {ifs : List Expr} {scope : Scope} {own : List (Str × Nat)} {js : List Nat} {pos spos py : Pos} {ci : IX} {ct : TX} {cb : BX} {ce : EX} (hc : X.calm = true) (hN : X.N.Nodup)
    (ok : BlkOk X.N X.env.scope scope own) (hos : own.map (·.2) = os) (hjs : ∀ j ∈ js, j ∈ os) (hi : RI T X W tg iter ci)
    (hg : ∀ (s : Shared) (H : Hp) (C : Addr) (cl : List (Str × Addr)) (fp : List Addr), RG T (X.blk s H scope (compEnvC scope cl C X.env) fp) js tg ct) (ht : ∀ (s : Shared) (H : Hp) (C : Addr) (cl : List (Str × Addr)) (fp : List Addr), RTs T (X.blk s H scope (compEnvC scope cl C X.env) fp) WF ifs cb)
    (he : ∀ (s : Shared) (H : Hp) (C : Addr) (cl : List (Str × Addr)) (fp : List Addr), RE T false (X.blk s H scope (compEnvC scope cl C X.env) fp) WF elt ce) (c2 : EX) (hc2 : ∀ (t : TE), (∀ σ ρ F μ S H Q, SR X.K T F μ S H → EnvR X.K F μ ρ σ → GP X.K T F μ (cComp ci os ct cb ce ρ S) (OkV X.K true Q) (ErW X.K X.mg fun cls dd H' => W cls dd σ H') → t σ H Q) →
      ∀ σ ρ F μ S H Q, SR X.K T F μ S H → EnvR X.K F μ ρ σ → GP X.K T F μ (c2 ρ S) (OkV X.K false Q) (ErW X.K X.mg fun cls dd H' => W cls dd σ H') → t σ H Q)
    (hsw : swapsWith (.ListComp elt [⟨tg, iter, ifs, 0⟩] scope pos) (some (.Name y py)) spos.line X.env = pure true) (hy : X.N[i]? = some y := by rfl) (hyl : X.env.scope.names.lookup y = some .local := by rfl) (hs : ∀ x, foldedSetIterable iter X.env x = pure x := by intro _; rfl) :
    RS T fr X W (.Assign [.Name y py] (.ListComp elt [⟨tg, iter, ifs, 0⟩] scope pos) spos) (sSet i c2) := by
  subst hos
  obtain ⟨wi, pi, fi⟩ := hi
  refine ⟨_, ps_setLc (g := gE T X.K js ct) (tt := tTs T X.K X.mg WF cb) (te := tE T false X.K X.mg WF ce) hc hN hy hyl hsw pi ok (fun s H C cl fp => (hg s H C cl fp).pg) (fun s H C cl fp => (ht s H C cl fp).pts) (fun s H C cl fp => (he s H C cl fp).pe) hs, fun σ ρ F μ S H D s hE g => ?_⟩
  refine hc2 _ (fun σ ρ F μ S H Q s hE g => comp_read (X' := X) hjs rfl fi (fun d v σ ρ F μ S H Q a b c g => ⟨d, ρ, F, μ, S, a, b, c, g⟩) (fun σ ρ F μ S H Q a b g => ⟨ρ, F, μ, S, a, b, g⟩) (fun σ ρ F μ S H Q a b g => ⟨ρ, F, μ, S, a, b, g⟩) s hE g) σ ρ F μ S H _ s hE ?_
  exact GP.stm g hE fun d F1 μ1 H1 S1 e1 q1 s1 g1 v r => GP.here g1 s1 _ ((hE.mono e1 q1).set r)
/-- how the new list is held: as a value, or in the store -/
theorem hold_val {c : EX} : ∀ (t : TE), (∀ σ ρ F μ S H Q, SR X.K T F μ S H → EnvR X.K F μ ρ σ → GP X.K T F μ (c ρ S) (OkV X.K true Q) (ErW X.K X.mg fun cls dd H' => W cls dd σ H') → t σ H Q) →
      ∀ σ ρ F μ S H Q, SR X.K T F μ S H → EnvR X.K F μ ρ σ → GP X.K T F μ (c ρ S) (OkV X.K false Q) (ErW X.K X.mg fun cls dd H' => W cls dd σ H') → t σ H Q :=
  fun t f σ ρ F μ S H Q s hE g => f σ ρ F μ S H Q s hE (gp_freeze g)
theorem hold_loc {c : EX} : ∀ (t : TE), (∀ σ ρ F μ S H Q, SR X.K T F μ S H → EnvR X.K F μ ρ σ → GP X.K T F μ (c ρ S) (OkV X.K true Q) (ErW X.K X.mg fun cls dd H' => W cls dd σ H') → t σ H Q) →
      ∀ σ ρ F μ S H Q, SR X.K T F μ S H → EnvR X.K F μ ρ σ → GP X.K T F μ (cAlloc c ρ S) (OkV X.K false Q) (ErW X.K X.mg fun cls dd H' => W cls dd σ H') → t σ H Q := by
  refine fun t f σ ρ F μ S H Q s hE g => f σ ρ F μ S H Q s hE (GP.seq g fun d F' μ' H' S' e p s' q v hf => ?_)
  obtain ⟨ds, a, vs, rfl, rfl, hF, hm, hH, r⟩ := hf
  dsimp only at q
  split at q
  · rename_i hp
    exact q F' (μ' ++ [⟨a, .lst⟩]) H' (Ex.refl _) (List.prefix_append _ _) (s'.alloc hF hm hH r hp) _ (.loc (by rw [← s'.len, List.getElem?_append_right (Nat.le_refl _)]; simp))
  · exact q.elim
/-- a, b = x, y -/
def sPar (i j : Nat) (r : AX) : SX := fun ρ S => stm ρ (r ρ S) fun ds S => match ds with
  | [x, y] => some (.ok (.nx ((ρ.set i (some x)).set j (some y))), S)
  | _ => none
theorem rs_par {i j : Nat} {x y : Str} {a b : Expr} {c : AX} {px py pt : Pos} {kt k2 pt2} {pos : Pos} (hc : X.calm = true) (hN : X.N.Nodup) (ha : RA T X W [a, b] c) (hi : X.N[i]? = some x := by rfl) (hj : X.N[j]? = some y := by rfl) (hij : i ≠ j := by decide)
    (hx : X.env.scope.names.lookup x = some .local := by rfl) (hy : X.env.scope.names.lookup y = some .local := by rfl)
    (hw : swappedStores [.Tuple [.Name x px, .Name y py] kt pt] (.Tuple [a, b] k2 pt2) X.env = pure (some [x, y]) := by rfl)
    (hs : swapsWithSole [.Tuple [.Name x px, .Name y py] kt pt] (.Tuple [a, b] k2 pt2) pos.line X.env = pure false := by rfl) :
    RS T fr X W (.Assign [.Tuple [.Name x px, .Name y py] kt pt] (.Tuple [a, b] k2 pt2) pos) (sPar i j c) := by
  obtain ⟨t, p, f⟩ := ha
  refine ⟨_, ps_par hc hN hi hj hij hx hy p hw hs, fun σ ρ F μ S H D s hE g => f σ ρ F μ S H _ s hE (GP.stm g hE fun ds F1 μ1 H1 S1 e1 q1 s1 g1 vs r => ?_)⟩
  split at g1
  · obtain ⟨v, u, rfl, r1, r2⟩ := r.inv2
    exact ⟨v, u, rfl, GP.here g1 s1 _ (((hE.mono e1 q1).set r1).set r2)⟩
  · exact g1.elim
/-- target = e -/
def sAsg (t : TX) (c : EX) : SX := fun ρ S => stm ρ (c ρ S) fun d S => bindO (noX (t d ρ S)) fun ρ' S => some (.ok (.nx ρ'), S)
theorem rs_asg {js : List Nat} {tg e : Expr} {c : EX} {ct : TX} {pos : Pos} (h : RE T false X W e c) (hg : RG T X js tg ct) (hs : swapsWithSole [tg] e pos.line X.env = pure false := by rfl) (hw : swappedStores [tg] e X.env = pure none := by rfl)
    (h1 : (assignEach [tg] X.env).map (·.2) = [assign tg X.env] := by rfl) : RS T fr X W (.Assign [tg] e pos) (sAsg ct c) := by
  obtain ⟨t, p, f⟩ := h
  obtain ⟨g1, p1, f1⟩ := hg
  refine ⟨_, ps_asg p p1 hs hw h1, fun σ ρ F μ S H D s hE g => f σ ρ F μ S H _ s hE (GP.stm g hE fun d F1 μ1 H1 S1 e1 q1 s1 g1 v r => ?_)⟩
  exact f1 d v σ ρ F1 μ1 S1 H1 _ s1 (hE.mono e1 q1) r (GP.noX (GP.seq g1 fun ρ' F2 μ2 H2 S2 e2 q2 s2 g2 σ' hE' _ => GP.here g2 s2 σ' hE'))
/-- x op= e -/
def sAug (i : Nat) (o : Op2) (c : EX) : SX := fun ρ S => match ρ[i]? with
  | some (some x) => stm ρ (c ρ S) fun y S => bindO (o x y S) fun z S => some (.ok (.nx (ρ.set i (some z))), S)
  | _ => none
theorem rs_aug {i : Nat} {x : Str} {e : Expr} {c : EX} {op : Operator} {r : R2} {o : Op2} {pos pos' : Pos} (hN : X.N.Nodup) (h : RE T false X W e c) (hr : OpR X (inplaceOp op) r) (ho : OpOk X T false r o) (hne : ∀ x y S z S', o x y S ≠ some (.error z, S')) (hi : X.N[i]? = some x := by rfl) (hx : Loc X.env.scope x := by first | exact Or.inl rfl | exact Or.inr rfl)
    (hf : X.fn x = true ∨ X.env.scope.names.lookup x = some .local := by first | exact .inl rfl | exact .inr rfl) : RS T fr X W (.AugAssign (.Name x pos') op e pos) (sAug i o c) := by
  obtain ⟨t, p, f⟩ := h
  refine ⟨_, ps_aug (ti := r) hN hi hx p hr hf, fun σ ρ F μ S H D s hE g => ?_⟩
  unfold sAug at g
  split at g
  · rename_i d hd
    obtain ⟨v, h1, h2⟩ := hE.2 i d hd
    refine ⟨v, h1, f σ ρ F μ S H _ s hE (GP.stm g hE fun y F1 μ1 H1 S1 e1 q1 s1 g1 u ru => ?_)⟩
    refine ho F1 μ1 S1 H1 d y v u _ NoEr s1 (h2.mono e1 q1) ru (GP.seq g1 fun z F2 μ2 H2 S2 e2 q2 s2 g2 w rw => ?_)
    exact GP.here g2 s2 _ (((hE.mono e1 q1).mono e2 q2).set rw)
  · exact g.elim
/-! ### loops -/
def forGo (src : Src) (t : TX) (b : SX) : Nat → Nat → PF.Env → Store → Out Fl
  | 0, i, ρ, S => match srcAt src S with
    | some ds => if ds.length ≤ i then some (.ok (.nx ρ), S) else none
    | none => none
  | k + 1, i, ρ, S => match srcAt src S with
    | some ds => (match ds[i]? with
      | some d => bindO (noX (t d ρ S)) fun ρ1 S => bindO (b ρ1 S) fun fl S => match fl with
        | .nx ρ' => forGo src t b k (i + 1) ρ' S
        | .ct ρ' => forGo src t b k (i + 1) ρ' S
        | .brk ρ' => some (.ok (.nx ρ'), S)
        | fl => some (.ok fl, S)
      | none => none)
    | none => none
def sFor (src : IX) (t : TX) (b : SX) : SX := fun ρ S => stm ρ (src ρ S) fun src S => match srcAt src S with
  | some ds => forGo src t b ds.length 0 ρ S
  | none => none
theorem rs_for {js : List Nat} {tg iter : Expr} {body : List Stmt} {ci : IX} {ct : TX} {cb : SX} {pos : Pos} (hp : PassesOwn (model X.prog X.w) X.A X.env X.xe) (hc : X.calm = true) (hi : RI T X W tg iter ci) (hg : RG T X js tg ct) (hb : RSs T fr X W body cb)
    (hs : ∀ x, foldedSetIterable iter X.env x = pure x := by intro _; rfl) : RS T fr X W (.For tg iter body [] pos) (sFor ci ct cb) := by
  obtain ⟨wi, pi, fi⟩ := hi
  obtain ⟨g, pg, fg⟩ := hg
  obtain ⟨tb, pb, fb⟩ := hb
  refine ⟨_, ps_for hp hc pi pg pb hs, fun σ ρ F μ S H D s hE gg => fi σ ρ F μ S H _ s hE (GP.stm gg hE fun src F1 μ1 H1 S1 e1 p1 s1 g1 J hJ => ?_)⟩
  split at g1
  case h_2 => exact g1.elim
  rename_i ds hds
  refine ⟨fun i m σ' H' => ∃ ρ' F' μ' S', Ex F1 F' ∧ μ1 <+: μ' ∧ SR X.K T F' μ' S' H' ∧ EnvR X.K F' μ' ρ' σ' ∧ GP X.K T F' μ' (forGo src ct cb m i ρ' S') (OkF X.K X.mg fr D W) NoEr,
    ⟨ds.length, ρ, F1, μ1, S1, Ex.refl _, List.prefix_refl _, s1, hE.mono e1 p1, g1⟩, ?_⟩
  rintro i m σ2 H2 ⟨ρ2, F2, μ2, S2, e2, p2, s2, hE2, g2⟩
  cases m with
  | zero =>
    left
    unfold forGo at g2
    split at g2
    case h_2 => exact g2.elim
    rename_i es hes
    split at g2
    case isFalse => exact g2.elim
    rename_i hl
    exact ⟨(hJ F2 μ2 S2 H2 es i e2 p2 s2 hes).2 hl, GP.here g2 s2 σ2 hE2⟩
  | succ m =>
    right
    unfold forGo at g2
    split at g2
    case h_2 => exact g2.elim
    rename_i es hes
    split at g2
    case h_2 => exact g2.elim
    rename_i d hd
    obtain ⟨hgo, hy⟩ := (hJ F2 μ2 S2 H2 es i e2 p2 s2 hes).1 d hd
    refine ⟨hgo, fun σ' H' => ∃ ρ' F' μ' S', Ex F1 F' ∧ μ1 <+: μ' ∧ SR X.K T F' μ' S' H' ∧ EnvR X.K F' μ' ρ' σ' ∧ GP X.K T F' μ' (forGo src ct cb m (i + 1) ρ' S') (OkF X.K X.mg fr D W) NoEr, fun σ' H' h => ⟨m, Nat.lt_succ_self _, h⟩, fun x H3 yl => ?_⟩
    obtain ⟨F3, e3, s3, rx⟩ := hy x H3 yl
    refine fg d x σ2 ρ2 F3 μ2 S2 H3 _ s3 (hE2.mono e3 (List.prefix_refl _)) rx (GP.noX (GP.seq (GP.mono g2 e3 (List.prefix_refl _)) fun ρ4 F4 μ4 H4 S4 e4 p4 s4 g4 σ4 hE4 _ => ?_))
    refine fb σ4 ρ4 F4 μ4 S4 H4 _ s4 hE4 (GP.seq g4 fun fl F5 μ5 H5 S5 e5 p5 s5 g5 => ?_)
    have ee := ((e2.trans e3).trans e4).trans e5
    have pp := (p2.trans p4).trans p5
    cases fl with
    | nx ρ' => exact fun σ' hE' => ⟨ρ', F5, μ5, S5, ee, pp, s5, hE', g5⟩
    | ct ρ' => exact fun σ' hE' => ⟨ρ', F5, μ5, S5, ee, pp, s5, hE', g5⟩
    | brk ρ' => exact fun σ' hE' => GP.here (er := NoEr) g5 s5 σ' hE'
    | ret d => exact GP.here (er := NoEr) g5 s5
    | exc x ρ' => exact GP.here (er := NoEr) g5 s5
def whileGo (c : BX) (b : SX) : Nat → PF.Env → Store → Out Fl
  | 0, _, _ => none
  | m + 1, ρ, S => stm ρ (c ρ S) fun x S => match x with
    | true => bindO (b ρ S) fun fl S => match fl with
      | .nx ρ' => whileGo c b m ρ' S
      | .ct ρ' => whileGo c b m ρ' S
      | .brk ρ' => some (.ok (.nx ρ'), S)
      | fl => some (.ok fl, S)
    | false => some (.ok (.nx ρ), S)
def sWhile (fuel : Nat) (c : BX) (b : SX) : SX := whileGo c b fuel
theorem rs_while {e : Expr} {body : List Stmt} {c : BX} {b : SX} {pos : Pos} (fuel : Nat) (hp : PassesOwn (model X.prog X.w) X.A X.env X.xe) (h : RT T X W e c) (hb : RSs T fr X W body b) : RS T fr X W (.While e body [] pos) (sWhile fuel c b) := by
  obtain ⟨t, p, f⟩ := h
  obtain ⟨tb, pb, fb⟩ := hb
  refine ⟨_, ps_while hp p pb, fun σ ρ F μ S H D s hE g => ?_⟩
  refine ⟨fun m σ' H' => ∃ ρ' F' μ' S', SR X.K T F' μ' S' H' ∧ EnvR X.K F' μ' ρ' σ' ∧ GP X.K T F' μ' (whileGo c b m ρ' S') (OkF X.K X.mg fr D W) NoEr, ⟨fuel, ρ, F, μ, S, s, hE, g⟩, ?_⟩
  rintro m σ2 H2 ⟨ρ2, F2, μ2, S2, s2, hE2, g2⟩
  cases m with
  | zero => exact g2.elim
  | succ m =>
    unfold whileGo at g2
    refine f σ2 ρ2 F2 μ2 S2 H2 _ s2 hE2 (GP.stm g2 hE2 fun x F3 μ3 H3 S3 e3 p3 s3 g3 => ?_)
    have hE3 := hE2.mono e3 p3
    cases x with
    | false => rw [if_neg Bool.false_ne_true]; exact GP.here g3 s3 σ2 hE3
    | true =>
      rw [if_pos rfl]
      refine ⟨fun σ' H' => ∃ ρ' F' μ' S', SR X.K T F' μ' S' H' ∧ EnvR X.K F' μ' ρ' σ' ∧ GP X.K T F' μ' (whileGo c b m ρ' S') (OkF X.K X.mg fr D W) NoEr, fun σ' H' h => ⟨m, Nat.lt_succ_self _, h⟩, ?_⟩
      refine fb σ2 ρ2 F3 μ3 S3 H3 _ s3 hE3 (GP.seq g3 fun fl F5 μ5 H5 S5 e5 p5 s5 g5 => ?_)
      cases fl with
      | nx ρ' => exact fun σ' hE' => ⟨ρ', F5, μ5, S5, s5, hE', g5⟩
      | ct ρ' => exact fun σ' hE' => ⟨ρ', F5, μ5, S5, s5, hE', g5⟩
      | brk ρ' => exact fun σ' hE' => GP.here (er := NoEr) g5 s5 σ' hE'
      | ret d => exact GP.here (er := NoEr) g5 s5
      | exc x ρ' => exact GP.here (er := NoEr) g5 s5
/-- code that is not come to -/
def sStuck : SX := fun _ _ => none
theorem rs_never {st : Stmt} : RS T fr X W st sStuck := ⟨_, ps_never, fun σ ρ F μ S H D s hE g => g.elim⟩

/-! ### the store's lists, by their methods -/
abbrev OpM := D → List D → Store → Out D
def MtOk (X : Cx) (T : List (Addr × Str)) (r : V → List V → Hp → VK → Prop) (o : OpM) : Prop := ∀ F μ S H d v ds vs Q er, SR X.K T F μ S H → Rep X.K F μ d v → Reps X.K F μ ds vs → GP X.K T F μ (o d ds S) (OkV X.K false Q) er → r v vs H Q
def cMt (o : OpM) (a : EX) (r : AX) : EX := fun ρ S => bindO (a ρ S) fun d S => match d with
  | .loc n => bindO (r ρ S) fun ds S => o (.loc n) ds S
  | _ => none
theorem re_bm {o e : Expr} {es : List Expr} {name : Str} {apos cpos : Pos} {id : String} {r : V → List V → Hp → VK → Prop} {om : OpM} {a : EX} {ca : AX} (slot : Slot "list" name id) (hty : typeOf (.builtin id) = pure (.type "method_descriptor")) (hm : MtR X id r) (hom : MtOk X T r om) (ho : RE T false X W o a) (ha : RA T X W (e :: es) ca)
    (hbase : attributeBase o name X.env (eval o X.env) = eval o X.env := by rfl)
    (hfew : ((backTo cpos (starEach (e :: es) X.env)).all (fun x => !x.1) && (backToKw cpos (keywordEach [] X.env)).all (fun x => x.1.isSome)
      && decide ((e :: es).length + ([] : List Keyword).length + (if ([] : List Keyword).isEmpty then 0 else 1) < 30)) = true := by rfl)
    (hline : (apos.endLine == cpos.line) = true := by rfl) (hs : starEach (e :: es) X.env = (false, eval e X.env) :: starEach es X.env := by rfl) (hplain : (backTo cpos (starEach es X.env)).any (·.1) = false := by rfl) :
    RE T false X W (.Call (.Attribute o name apos) (e :: es) [] cpos) (cMt om a ca) := by
  obtain ⟨t, p, f⟩ := ho
  obtain ⟨t2, p2, f2⟩ := ha
  refine ⟨_, pe_bm PySem.F.plainAttrs_list slot hty hm p p2 hbase hfew hline hs hplain, fun σ ρ F μ S H Q s hE g => f σ ρ F μ S H _ s hE (GP.seq g fun d F1 μ1 H1 S1 e1 q1 s1 g1 v rv => ?_)⟩
  cases rv with
  | @loc n A hm =>
    obtain ⟨ds, vs, h1, h2, _⟩ := s1.get hm
    refine ⟨.inl ⟨rfl, _, sq_of h2⟩, f2 σ ρ F1 μ1 S1 H1 _ s1 (hE.mono e1 q1) (GP.seq g1 fun ds F2 μ2 H2 S2 e2 q2 s2 g2 vs rs => ?_)⟩
    exact hom F2 μ2 S2 H2 _ _ ds vs Q _ s2 (.loc (pre_get q2 hm)) rs g2
  | _ => exact g1.elim
theorem re_bm0 {o : Expr} {name : Str} {apos cpos : Pos} {id : String} {r : V → List V → Hp → VK → Prop} {om : OpM} {a : EX} (slot : Slot "list" name id) (hty : typeOf (.builtin id) = pure (.type "method_descriptor")) (hm : MtR X id r) (hom : MtOk X T r om) (ho : RE T false X W o a)
    (hbase : attributeBase o name X.env (eval o X.env) = eval o X.env := by rfl) (hline : (apos.endLine == cpos.line) = true := by rfl) : RE T false X W (.Call (.Attribute o name apos) [] [] cpos) (cMt om a aNil) := by
  obtain ⟨t, p, f⟩ := ho
  refine ⟨_, pe_bm0 PySem.F.plainAttrs_list slot hty hm p hbase hline, fun σ ρ F μ S H Q s hE g => f σ ρ F μ S H _ s hE (GP.seq g fun d F1 μ1 H1 S1 e1 q1 s1 g1 v rv => ?_)⟩
  cases rv with
  | @loc n A hm =>
    obtain ⟨ds, vs, h1, h2, _⟩ := s1.get hm
    exact ⟨.inl ⟨rfl, _, sq_of h2⟩, hom F1 μ1 S1 H1 _ _ [] [] Q _ s1 (.loc hm) .nil g1⟩
  | _ => exact g1.elim
def mAppend : OpM := fun d ds S => match d, ds with
  | .loc n, [x] => (match S[n]? with
    | some xs => if x.pure = true ∧ xs.length < lim then some (.ok .non, S.set n (xs ++ [x])) else none
    | none => none)
  | _, _ => none
theorem mAppend_ok : MtOk X T rAppend mAppend := by
  intro F μ S H d v ds vs Q er s rv rs h
  unfold mAppend at h
  split at h
  · rename_i n x
    obtain ⟨u, rfl, ru⟩ := rs.inv1
    cases rv with
    | @loc n A hm =>
      obtain ⟨es, ws, h1, h2, h3, h4, h5⟩ := s.get hm
      rw [h1] at h
      dsimp only at h
      split at h
      · rename_i hc
        refine ⟨A, ws, u, rfl, rfl, h2, by rw [← h3.length]; exact Nat.lt_of_lt_of_le hc.2 (by decide), ?_⟩
        have s2 := s.put hm (h3.append (Reps.one ru)) (by rw [D.pures_append, h5, Bool.true_and]; simp [D.pures, hc.1])
        exact gp_val h s2 .non
      · exact h.elim
  · exact h.elim
def mPop : OpM := fun d ds S => match d, ds with
  | .loc n, [] => (match S[n]? with
    | some xs => (match xs[xs.length - 1]? with
      | some x => some (.ok x, S.set n xs.dropLast)
      | none => none)
    | none => none)
  | _, _ => none
theorem reps_dropLast {K : PySem.W.Frag} {F : Hp} {μ : List MA} {ds : List D} {vs : List V} (r : Reps K F μ ds vs) : Reps K F μ ds.dropLast vs.dropLast := by
  rw [List.dropLast_eq_take, List.dropLast_eq_take, r.length]
  exact r.take _
theorem pures_sub {ds es : List D} (h : D.pures ds = true) (hs : ∀ x ∈ es, x ∈ ds) : D.pures es = true := by
  rw [D.pures_iff] at h ⊢
  exact fun x hx => h x (hs x hx)
theorem mPop_ok : MtOk X T rPop mPop := by
  intro F μ S H d v ds vs Q er s rv rs h
  unfold mPop at h
  split at h
  · rename_i n
    cases rs
    cases rv with
    | @loc n A hm =>
      obtain ⟨es, ws, h1, h2, h3, h4, h5⟩ := s.get hm
      rw [h1] at h
      dsimp only at h
      split at h
      · rename_i x hx
        obtain ⟨w, k1, k2⟩ := h3.get hx
        refine ⟨A, ws, w, rfl, rfl, h2, by rw [← h3.length]; exact k1, ?_⟩
        have s2 := s.put hm (reps_dropLast h3) (pures_sub h5 fun x hx => List.dropLast_subset _ hx)
        exact gp_val h s2 k2
      · exact h.elim
  · exact h.elim
def mPopAt : OpM := fun d ds S => match d, ds with
  | .loc n, [.int i] => (match S[n]? with
    | some xs => if i < 1000000000 ∧ -1000000000 < i then (match ixN xs.length i with
      | some k => (match xs[k]? with
        | some x => some (.ok x, S.set n (xs.eraseIdx k))
        | none => none)
      | none => none) else none
    | none => none)
  | _, _ => none
theorem mPopAt_ok : MtOk X T rPopAt mPopAt := by
  intro F μ S H d v ds vs Q er s rv rs h
  unfold mPopAt at h
  split at h
  · rename_i n i
    obtain ⟨u, rfl, ru⟩ := rs.inv1
    cases ru
    cases rv with
    | @loc n A hm =>
      obtain ⟨es, ws, h1, h2, h3, h4, h5⟩ := s.get hm
      rw [h1] at h
      dsimp only at h
      split at h
      · rename_i hi
        split at h
        · rename_i k hk
          split at h
          · rename_i x hx
            obtain ⟨w, k1, k2⟩ := h3.get hx
            refine ⟨A, ws, i, k, w, rfl, rfl, h2, by omega, by omega, by rw [← h3.length]; exact (ixN_seq hk).1, k1, ?_⟩
            have s2 := s.put hm (h3.eraseIdx k) (pures_sub h5 fun x hx => List.mem_of_mem_eraseIdx hx)
            exact gp_val h s2 k2
          · exact h.elim
        · exact h.elim
      · exact h.elim
  · exact h.elim
end

/-! ### a def -/
def startE (n : Nat) (args : List D) : PF.Env := args.map some ++ List.replicate (n - args.length) none
def decK : List D → Option (List Key × List D)
  | [] => some ([], [])
  | .int i :: d :: r => (decK r).map fun p => (.inl i :: p.1, d :: p.2)
  | .str x :: d :: r => (decK r).map fun p => (.inr x :: p.1, d :: p.2)
  | _ => none
def exitD (fr : Bool) (n0 : Nat) (d : D) (S : Store) : Out D := match d with
  | .loc n => if n < n0 then (if fr = true then none else some (.ok (.loc n), S.take n0)) else (match S[n]? with
    | some ds => some (.ok (.lst ds), S.take n0)
    | none => none)
  | .ins c ns ds => if D.pures ds = true then some (.ok (.ins c ns ds), S.take n0) else none
  | .dks ks ds => if D.pures ds = true then some (.ok (.dks ks ds), S.take n0) else none
  | .gfn x => some (.ok (.gfn x), S.take n0)
  | .obj c n => if n < n0 then some (.ok (.obj c n), S.take n0) else none
  | .dkc n => if n < n0 then some (.ok (.dkc n), S.take n0) else (match S[n]? with
    | some ds => (match decK ds with
      | some (ks, es) => some (.ok (.dks ks es), S.take n0)
      | none => none)
    | none => none)
  | d => if d.pure = true then some (.ok d, S.take n0) else none
def exitF (fr : Bool) (n0 : Nat) (r : Out Fl) : Out D := match r with
  | some (.ok (.ret d), S) => exitD fr n0 d S
  | some (.ok (.nx _), S) => if fr = true then none else some (.ok .non, S.take n0)
  | some (.ok (.exc x _), S) => if D.pures (x.fields.map (·.2)) = true then some (.error x, S.take n0) else none
  | _ => none
/-- what a def of n names does -/
def callF (fr : Bool) (n : Nat) (b : SX) : OpB := fun ds S => exitF fr S.length (b (startE n ds) S)
theorem start_env {K : PySem.W.Frag} {F : Hp} {μ : List MA} {N : List Str} {ds : List D} {vs : List V} (r : Reps K F μ ds vs) : EnvR K F μ (startE N.length ds) (L2.start N vs) := by
  unfold startE L2.start
  refine ⟨by simp [r.length], fun i d h => ?_⟩
  by_cases hi : i < ds.length
  · rw [List.getElem?_append_left (by simpa using hi), List.getElem?_map] at h
    rw [List.getElem?_append_left (by simpa [← r.length] using hi), List.getElem?_map]
    cases e : ds[i]? with
    | none => rw [e] at h; cases h
    | some d' =>
      rw [e] at h; cases h
      obtain ⟨v, h1, h2⟩ := r.get e
      exact ⟨v, by rw [h1]; rfl, h2⟩
  · rw [List.getElem?_append_right (by simpa using hi), List.getElem?_replicate] at h
    split at h <;> cases h
theorem decK_enc : ∀ {ks : List Key} {es : List D}, ks.length = es.length → decK (encK ks es) = some (ks, es)
  | [], [], _ => rfl
  | .inl i :: ks, d :: ds, h => by
    simp only [encK, kD, decK]
    rw [decK_enc (ks := ks) (es := ds) (by simpa using h)]; rfl
  | .inr i :: ks, d :: ds, h => by
    simp only [encK, kD, decK]
    rw [decK_enc (ks := ks) (es := ds) (by simpa using h)]; rfl
theorem out_new {K : PySem.W.Frag} {T : List (Addr × Str)} {F F' H H' : Hp} {μ μ' : List MA} {S S' : Store} {m : MA} {n : Nat} (s0 : SR K T F μ S H) (s' : SR K T F' μ' S' H') (q : μ <+: μ') (hn : ¬ n < S.length) (hm : μ'[n]? = some m) : Out_ m.a μ := fun b hb z => by
  obtain ⟨t, rfl⟩ := q
  rw [List.getElem?_append_right (by rw [s0.len]; omega)] at hm
  have h := s'.nd
  rw [List.map_append] at h
  exact (List.nodup_append.mp h).2.2 b.a (List.mem_map_of_mem hb) m.a (List.mem_map_of_mem (List.mem_of_getElem? hm)) z
/-- what a def's end asks, told of its body -/
theorem exit_gp {K : PySem.W.Frag} {mg : Str → Option Value} {T : List (Addr × Str)} {fr : Bool} {F H : Hp} {μ : List MA} {S : Store} {r : Out Fl} {Q : VK} {E : XK} (s0 : SR K T F μ S H)
    (g : GP K T F μ (exitF fr S.length r) (OkV K fr Q) (ErW K mg E)) : GP K T F μ r (OkF K mg fr { nx := fun _ H' => Q .non H', rt := Q } fun cls d _ H' => E cls d H') NoEr := by
  match r, g with
  | none, g => exact g.elim
  | some (.error x, S'), g => exact g.elim
  | some (.ok fl, S'), g =>
    intro F' μ' H' e q s'
    have cut : SR K T F' μ (S'.take S.length) H' := by
      have := s'.cut S.length
      rwa [take_pre s0 q] at this
    match fl, g with
    | .nx ρ', g =>
      intro σ' _
      simp only [exitF] at g
      cases fr with
      | true => exact g.elim
      | false => exact g F' μ H' e (List.prefix_refl _) cut .non .non
    | .exc x ρ', g =>
      intro σ' cls dd _ hx
      simp only [exitF] at g
      split at g
      · rename_i hp
        obtain ⟨C, h1, h2, h3⟩ := hx
        exact g F' μ H' e (List.prefix_refl _) cut cls dd ⟨C, h1, h2, h3.imp id fun ⟨d, vs, a1, a2, a3⟩ => ⟨d, vs, a1, a2.free hp, a3⟩⟩
      · exact g.elim
    | .brk ρ', g => exact (show False from g).elim
    | .ct ρ', g => exact (show False from g).elim
    | .ret d, g =>
      intro v rv
      have g : GP K T F μ (exitD fr S.length d S') (OkV K fr Q) (ErW K mg E) := g
      -- a list of the store, made within
      have local_ : ∀ n a, d = .loc n → ¬ n < S.length → μ'[n]? = some ⟨a, .lst⟩ → v = .ref a → Q v H' := by
        intro n a hd hn hm hv
        subst hd; subst hv
        obtain ⟨es, vs, h1, h2, h3, h4, h5⟩ := s'.get hm
        simp only [exitD, if_neg hn, h1] at g
        have na : Out_ a μ := out_new s0 s' q hn hm
        cases fr with
        | true => exact g F' μ H' e (List.prefix_refl _) cut _ ⟨es, a, vs, rfl, rfl, h4, na, h2, h3.free h5⟩
        | false =>
          exact g (upd F' a (.lst vs)) μ H' (e.trans (Ex.new h4)) (List.prefix_refl _) (cut.freeze h4 na h2) _ (.lst upd_same ((h3.free h5).mono (Ex.new h4) (List.prefix_refl _)))
      cases fr with
      | false =>
        have rv : Rep K F' μ' d v := rv
        cases rv with
        | @loc n a hm =>
          by_cases hn : n < S.length
          · simp only [exitD, if_pos hn] at g
            refine g F' μ H' e (List.prefix_refl _) cut _ (.loc ?_)
            obtain ⟨t, rfl⟩ := q
            rwa [List.getElem?_append_left (by rw [s0.len]; exact hn)] at hm
          · exact local_ n a rfl hn hm rfl
        | non => exact g F' μ H' e (List.prefix_refl _) cut _ .non
        | bl b => exact g F' μ H' e (List.prefix_refl _) cut _ (.bl b)
        | int i => exact g F' μ H' e (List.prefix_refl _) cut _ (.int i)
        | str z => exact g F' μ H' e (List.prefix_refl _) cut _ (.str z)
        | tup h1 h2 =>
          simp only [exitD] at g
          split at g
          · rename_i hp
            exact g F' μ H' e (List.prefix_refl _) cut _ (Rep.free (.tup h1 h2) hp)
          · exact g.elim
        | lst h1 h2 =>
          simp only [exitD] at g
          split at g
          · rename_i hp
            exact g F' μ H' e (List.prefix_refl _) cut _ (Rep.free (.lst h1 h2) hp)
          · exact g.elim
        | fz h1 h2 =>
          simp only [exitD] at g
          split at g
          · rename_i hp
            exact g F' μ H' e (List.prefix_refl _) cut _ (Rep.free (.fz h1 h2) hp)
          · exact g.elim
        | tpn h0 h1 h2 =>
          simp only [exitD] at g
          split at g
          · rename_i hp
            exact g F' μ H' e (List.prefix_refl _) cut _ (Rep.free (.tpn h0 h1 h2) hp)
          · exact g.elim
        | dct h1 =>
          simp only [exitD] at g
          split at g
          · rename_i hp
            exact g F' μ H' e (List.prefix_refl _) cut _ (Rep.free (μ := μ') (.dct h1) hp)
          · exact g.elim
        | ins h1 h2 h3 =>
          simp only [exitD] at g
          split at g
          · rename_i hp
            exact g F' μ H' e (List.prefix_refl _) cut _ (.ins h1 h2 (Reps.free h3 hp))
          · exact g.elim
        | dks h1 h2 h3 =>
          simp only [exitD] at g
          split at g
          · rename_i hp
            exact g F' μ H' e (List.prefix_refl _) cut _ (.dks h1 h2 (Reps.free h3 hp))
          · exact g.elim
        | gfn => exact g F' μ H' e (List.prefix_refl _) cut _ .gfn
        | @obj n a c hm =>
          simp only [exitD] at g
          split at g
          · rename_i hn
            refine g F' μ H' e (List.prefix_refl _) cut _ (.obj ?_)
            obtain ⟨t, rfl⟩ := q
            rwa [List.getElem?_append_left (by rw [s0.len]; exact hn)] at hm
          · exact g.elim
        | @dkc n a hm =>
          by_cases hn : n < S.length
          · simp only [exitD, if_pos hn] at g
            refine g F' μ H' e (List.prefix_refl _) cut _ (.dkc ?_)
            obtain ⟨t, rfl⟩ := q
            rwa [List.getElem?_append_left (by rw [s0.len]; exact hn)] at hm
          · obtain ⟨es, h1, h2, h3, hc⟩ := s'.at hm
            simp only [exitD, if_neg hn, h1] at g
            have na : Out_ a μ := out_new s0 s' q hn hm
            cases hc with
            | dk k1 k2 k3 =>
              rw [decK_enc k1] at g
              rw [pures_encK k1] at h3
              exact g (upd F' a _) μ H' (e.trans (Ex.new h2)) (List.prefix_refl _) (cut.freezeO h2 na k2 (.inr (.inr ⟨_, rfl⟩))) _ (.dks upd_same k1 ((k3.free h3).mono (Ex.new h2) (List.prefix_refl _)))
        | fn h1 h2 =>
          simp only [exitD] at g
          split at g
          · rename_i hp
            exact g F' μ H' e (List.prefix_refl _) cut _ (Rep.free (μ := μ') (.fn h1 h2) hp)
          · exact g.elim
      | true =>
        rcases rv with ⟨es, a, vs, hd, hv, h1, h2, h3, h4⟩ | ⟨n, hd, hr⟩
        · subst hd; subst hv
          simp only [exitD] at g
          split at g
          · rename_i hp
            have hp : D.pures es = true := by simpa [D.pure] using hp
            refine g F' μ H' e (List.prefix_refl _) cut _ ⟨es, a, vs, rfl, rfl, h1, fun m hm => h2 m ?_, h3, h4.free hp⟩
            obtain ⟨t, rfl⟩ := q
            exact List.mem_append_left _ hm
          · exact g.elim
        · subst hd
          cases hr with
          | @loc n a hm =>
            by_cases hn : n < S.length
            · simp only [exitD, if_pos hn] at g
              exact g.elim
            · exact local_ n a rfl hn hm rfl
theorem def_gT {P : Program} {w : World} {K : PySem.W.Frag} {mg : Str → Option Value} {base : Heap} {T : List (Addr × Str)} {x qual : Str} {params : Arguments} {body : List Stmt} {scope : Scope} {dvs : List V} {kws : List (Str × V)} {f : Addr} {fd : FuncData} {N ps : List Str} {k : Nat} {fr : Bool} {b : SX}
    (FD : FunD K x qual params body scope dvs kws f fd) (sc : FnScope N ps scope)
    (hb : ∀ (cdv : Value) (A : Around) (outer : List PySem.Env) (s : Shared) (H : Hp) (E : XK), fd.code = cdv → Room k (A.deeper (envOfC qual scope s.heap.objs.size f cdv)) → A.guards = some [] →
      RSs T fr (cxOf (L2.CX P w) P w K mg base N qual scope f cdv A outer s H E) (fun cls d _ H' => E cls d H') body b) :
    FnG P w K mg base (k + 1) f fd ps (spOf K mg T fr ps.length (callF fr N.length b)) := by
  refine fn_gT FD sc (fun vs H Q E h => ?_) fun cdv A outer s H vs Q E hc room gu h => ?_
  · obtain ⟨_, _, _, _, _, _, hl, _⟩ := h
    exact hl
  · obtain ⟨F, μ, S, ds, s0, rs, hl, g⟩ := h
    obtain ⟨t, p, rd⟩ := hb cdv A outer s H E hc room gu
    exact ⟨t, p, rd _ (startE N.length ds) F μ S H _ s0 (start_env rs) (exit_gp s0 g)⟩
theorem def_g {P : Program} {w : World} {K : PySem.W.Frag} {mg : Str → Option Value} {base : Heap} {T : List (Addr × Str)} {x qual : Str} {params : Arguments} {body : List Stmt} {scope : Scope} {dvs : List V} {kws : List (Str × V)} {f : Addr} {fd : FuncData} {N ps : List Str} {k : Nat} {fr : Bool} {b : SX}
    (FD : FunD K x qual params body scope dvs kws f fd) (sc : FnScope N ps scope)
    (hb : ∀ (cdv : Value) (A : Around) (outer : List PySem.Env) (s : Shared) (H : Hp) (E : XK), Room k (A.deeper (envOfC qual scope s.heap.objs.size f cdv)) → A.guards = some [] →
      RSs T fr (cxOf (L2.CX P w) P w K mg base N qual scope f cdv A outer s H E) (fun cls d _ H' => E cls d H') body b) :
    FnG P w K mg base (k + 1) f fd ps (spOf K mg T fr ps.length (callF fr N.length b)) :=
  def_gT FD sc fun cdv A outer s H E _ => hb cdv A outer s H E
end PF
set_option Elab.async false
set_option linter.all false
set_option maxRecDepth 100000
set_option maxHeartbeats 4000000
/-! PFL: lambdas that capture nothing, as things that are known. -/
namespace PF
open PySem L2 Evl PySem.Spec PyProof.Rows LamX
section
variable {X : Cx} {pins : List (Addr × Obj)} {σ : L2.St} {H : Hp} {s : Shared}
/-- an object that is new since the frame's start is known from now on -/
theorem inv_know {f : Addr} {l : LamSite} {pm ctv : Value} {c' : Addr} (I : Inv X pins σ H s) (hn : H f = none) (hf : s.heap.get? f = some (PySem.W.kla_obj "<lambda>" l.qual l.params l.body l.scope [] pm c' ctv))
    (h0 : X.s_0.heap.objs.size ≤ f) (hl : f ≠ X.env.locals) (hcl : ∀ x c, X.env.cells.lookup x = some c → c ≠ f) (hp : ∀ p ∈ X.pn ++ pins, p.1 ≠ f) : Inv X pins σ (upd H f (FunO f l pm c' ctv)) s := by
  have ne : ∀ b u, H b = some u → b ≠ f := fun b u e => ne_of_none e hn
  have same : ∀ b u, H b = some u → upd H f (FunO f l pm c' ctv) b = some u := fun b u e => by rw [upd_ne (ne b u e)]; exact e
  refine I.step (g' := s.gens) (t' := s.toks) (d' := s.drawn) (h' := s.heap) (ch := [f])
    (fun b hb => ?_) (fun b o _ _ _ e _ => e) (fun b o _ _ _ e _ => ⟨o.slots, e⟩) (fun b o hb _ n => ?_) (fun b o _ e => ⟨o, e⟩) (fun b xs e => same b _ e) (fun b o u e => same b _ e)
    (fun b ps e => ⟨#[], by rw [same b _ e]; simp⟩) (fun m hm => hm) (fun b u e => ?_) I.bare
  · rw [List.mem_singleton] at hb
    subst hb
    exact ⟨.inr h0, hl, hcl, hp⟩
  · rw [upd_ne (fun z => hb (by rw [z]; exact List.mem_singleton_self _))]
    exact n
  · by_cases hb : b = f
    · subst hb
      rw [upd_same] at e
      cases e
      exact ⟨hf, ⟨_, hf⟩, fun h1 h2 z st => st _ z⟩
    · rw [upd_ne hb] at e
      exact (I.hok b u e).stay (fun d v _ q => q) (fun d q => by rw [upd_ne (ne d _ q)]; exact q) fun d xs q => same d _ q
/-- a lambda without captures is made: it is known from then on -/
theorem lam_make3 {T : List (Addr × Str)} {c P : Addr} {l : LamSite} {pos : Pos} {E Q : Value → Shared → Prop} (I : Inv X pins σ H s)
    (TB : TabB X.base X.mg c P) (hcode : X.env.code = .ref c) (hq : l.qual = X.env.qual ++ "<lambda>") (hm : (P, l.qual) ∈ T) (hu : ∀ p ∈ T, p.1 = P → p.2 = l.qual) (hT : Tabs T H)
    (hdf : defaultsOf l.params X.env = ([], [])) (hcl : cloFrom X.env.cells l.scope.names [] = []) (hfree : ∀ y ∈ l.scope.names, y.2 = .free → ∃ c, X.env.cells.lookup y.1 = some c)
    (h : ∀ (f c' : Addr) (pm ctv : Value) (H1 : Hp) (s' : Shared), Inv X pins σ H1 s' → (∀ b o, H b = some o → b ≠ P → H1 b = some o) → Tabs T H1 → H f = none → c' ≠ f → H1 f = some (FunO f l pm c' ctv) → H1 c' = some (CodeO c' l.qual) → Q (.ref f) s') :
    wpAny (model X.prog X.w) X.A (eval (.Lambda l.params l.body l.scope pos) X.env) Q E s := by
  obtain ⟨lp, lb, ls, lq⟩ := l
  subst hq
  obtain ⟨ps, hP, ht, among⟩ := hT _ hm
  have hsz0 : X.s_0.heap.objs.size ≤ s.heap.objs.size := Nat.le_of_lt (Nat.lt_of_le_of_lt I.ok.above I.lt)
  have cellLt : ∀ x c, X.env.cells.lookup x = some c → c < s.heap.objs.size := fun x c e => by
    obtain ⟨v, o, ho, _⟩ := I.cell x c e
    exact Heap.lt_size ho
  have pinLt : ∀ p ∈ X.pn ++ pins, p.1 < s.heap.objs.size := fun p hp => Heap.lt_size (I.pin p hp).1
  -- the last step: the function itself is known
  have last : ∀ (f c' : Addr) (pm ctv : Value) (H1 : Hp) (s' : Shared), Inv X pins σ H1 s' → (∀ b o, H b = some o → b ≠ P → H1 b = some o) → Tabs T H1 →
      s'.heap.get? f = some (PySem.W.kla_obj "<lambda>" (X.env.qual ++ "<lambda>") lp lb ls (cloFrom X.env.cells ls.names []) pm c' ctv) → H1 f = none → s.heap.objs.size ≤ f →
      H1 c' = some (CodeO c' (X.env.qual ++ "<lambda>")) → Q (.ref f) s' := fun f c' pm ctv H1 s' I1 e1 t1 g1 n1 sz hc => by
    rw [hcl] at g1
    have nf : ∀ b u, H1 b = some u → b ≠ f := fun b u e => ne_of_none e n1
    have ext : ∀ b o, H1 b = some o → upd H1 f (FunO f ⟨lp, lb, ls, X.env.qual ++ "<lambda>"⟩ pm c' ctv) b = some o := fun b o e => by rw [upd_ne (nf b o e)]; exact e
    have I2 := inv_know (l := ⟨lp, lb, ls, X.env.qual ++ "<lambda>"⟩) I1 n1 g1 (Nat.le_trans hsz0 sz) (fun e => by rw [e] at sz; exact Nat.lt_irrefl _ (Nat.lt_of_lt_of_le I.lt sz))
      (fun x c e z => by have := cellLt x c e; rw [z] at this; exact Nat.lt_irrefl _ (Nat.lt_of_lt_of_le this sz)) (fun p hp z => by have := pinLt p hp; rw [z] at this; exact Nat.lt_irrefl _ (Nat.lt_of_lt_of_le this sz))
    exact h f c' pm ctv _ s' I2 (fun b o e n => ext b o (e1 b o e n)) (t1.ext ext) (I.hok.fresh sz) (ne_of_none hc n1) upd_same (ext _ _ hc)
  have bi : s.heap.BuiltinsAt X.mg P := TB.bm.keeps I.bk
  have tabP : s.heap.get? P = some { cls := .none, data := .fields ps } := I.hok P _ hP
  refine PySem.W.kla_eval hdf ?_
  cases hc : codeAmong pos ps.toList with
  | some cv =>
    obtain ⟨c', rfl, hco⟩ := among pos cv hc
    refine PySem.W.kla_makeFunctionHit (mg := X.mg) (c := c) (P := P) (ps := ps) (closure_ok hfree) I.ok.glob (I.mod.glob.keeps I.bk) hcode (TB.code.keeps I.bk) tabP ht hc bi fun ctv h' tk hx hsz => ?_
    exact last h'.objs.size c' _ ctv H _ (I.kept fun b o e => Heap.get?_push_of_some _ (hx b o e)) (fun _ _ e _ => e) hT (Heap.get?_push_size _ rfl) (I.hok.fresh hsz) hsz hco
  | none =>
    refine PySem.W.kla_makeFunction (mg := X.mg) (c := c) (P := P) (ps := ps) (closure_ok hfree) I.ok.glob (I.mod.glob.keeps I.bk) hcode (TB.code.keeps I.bk) tabP ht hc TB.gP bi fun c' ctv h' tk hx hge hlt hrec htb => ?_
    obtain ⟨z2, oz, vz, tz, ez, ho2, hd2, hv2⟩ := hrec
    cases ez
    have big : s.heap.objs.size ≤ h'.objs.size := Nat.le_trans hge (Nat.le_of_lt hlt)
    have fresh' : H c' = none := I.hok.fresh hge
    have nPc : P ≠ c' := ne_of_none hP fresh'
    have I1 := inv_table (t' := tk) (more := #[rawInt pos.line, rawInt pos.col, .ref c']) (h' := h'.push (PySem.W.kla_obj "<lambda>" (X.env.qual ++ "<lambda>") lp lb ls (cloFrom X.env.cells ls.names []) ((X.mg "__name__").getD .none) c' ctv)) I hP
      (fun b o hb e => Heap.get?_push_of_some _ (hx b o hb e)) (Heap.get?_push_of_some _ htb) hge ⟨oz, vz, tz, Heap.get?_push_of_some _ ho2, hd2, hv2⟩
    have out : ∀ b, b ≠ P → b ≠ c' → upd (upd H P (.tbl (ps ++ #[rawInt pos.line, rawInt pos.col, .ref c']))) c' (CodeO c' (X.env.qual ++ "<lambda>")) b = H b := fun b h1 h2 => by rw [upd_ne h2, upd_ne h1]
    have exn : ExtN H (upd (upd H P (.tbl (ps ++ #[rawInt pos.line, rawInt pos.col, .ref c']))) c' (CodeO c' (X.env.qual ++ "<lambda>"))) := fun b o e n =>
      (out b (fun z => n ps (Option.some.inj (e.symm.trans (by rw [z]; exact hP)))) (ne_of_none e fresh')).trans e
    have fP : h'.objs.size ≠ P := Nat.ne_of_gt (Nat.lt_of_lt_of_le (Heap.lt_size tabP) big)
    refine last h'.objs.size c' _ ctv _ _ I1 (fun b o e n => (out b n (ne_of_none e fresh')).trans e) (fun p hp => ?_) (Heap.get?_push_size _ rfl) (by rw [out _ fP (Nat.ne_of_gt hlt)]; exact I.hok.fresh big) big upd_same
    by_cases hb : p.1 = P
    · have e2 := hu p hp hb
      rw [hb, e2]
      refine ⟨ps ++ #[rawInt pos.line, rawInt pos.col, .ref c'], by rw [upd_ne nPc, upd_same], ?_, fun p' cv hcv => ?_⟩
      · simpa using PySem.TriplesOk_snoc _ _ _ _ ht
      · rcases among_app _ ht (by simpa using hcv) with z | z
        · obtain ⟨c0, a1, a2⟩ := among p' cv z
          exact ⟨c0, a1, exn _ _ a2 codeO_ne⟩
        · exact ⟨c', z, upd_same⟩
    · obtain ⟨qs, a1, a2, a3⟩ := hT p hp
      refine ⟨qs, (out _ hb (ne_of_none a1 fresh')).trans a1, a2, fun p' cv hcv => ?_⟩
      obtain ⟨c0, b1, b2⟩ := a3 p' cv hcv
      exact ⟨c0, b1, exn _ _ b2 codeO_ne⟩
/-- a lambda that is known is called -/
theorem run_lam {CX : CXT} {P : Program} {w : World} {K : PySem.W.Frag} {mg : Str → Option Value} {base : Heap} {k : Nat} {f c' : Addr} {l : LamSite} {pm ctv : Value} {N ps : List Str} {A : Around} {outer : List PySem.Env} {s : Shared} {H : Hp} {us : List Value} {vs : List V} {Q : VK} {E : XK}
    (S : FnScope N ps l.scope) (hr : Room (k + 1) A) (e0 : Env0 P w K mg base A outer s H) (lim : s.heap.NoLimit) (hF : H f = some (FunO f l pm c' ctv)) (hC : H c' = some (CodeO c' l.qual))
    (hb : BindsTo s (PySem.W.kla_fn "<lambda>" l.qual l.params l.body l.scope [] pm (.ref c') ctv) ⟨us, []⟩ (ps.zip us)) (r : Vals vs us) (hl : vs.length = ps.length)
    (hbody : Room k (A.deeper (envOfC l.qual l.scope s.heap.objs.size f (.ref c'))) → ∃ t, PE (cxOf CX P w K mg base N l.qual l.scope f (.ref c') A outer s H E) l.body t ∧ t (L2.start N vs) H Q) :
    codeAny (model P w) A (.call (.ref f) ⟨us, []⟩) (CR CX outer P w H s Q E) s := by
  have of : s.heap.get? f = some (PySem.W.kla_obj "<lambda>" l.qual l.params l.body l.scope [] pm c' ctv) := (e0.hok f _ hF).1
  obtain ⟨oz, vz, tz, ho, hd, hv⟩ := (e0.hok c' _ hC).1
  refine PySem.W.kla_callFunE hr.depth of rfl S.co S.gen rfl ⟨c', oz, vz, tz, rfl, ho, hd, hv⟩ ?_
  refine hb _ _ _ _ ?_
  have kinds : ∀ y ∈ ps.zip us, l.scope.names.lookup y.1 = some .local ∨ (l.scope.names.lookup y.1 = some .cell ∧ ((cellsFrom (s.heap.objs.size + 1) l.scope.names []).lookup y.1).isSome = true) := fun ⟨n, v⟩ hy =>
    (S.par n (List.of_mem_zip hy).1).imp id fun q => ⟨q, PySem.W.cellsFrom_some _ _ _ (.inl q)⟩
  refine wpAny_newFunctionEnv_cells S.kind kinds fun env he s1 x => ?_
  subst he
  refine ⟨lim.keeps x.toInCall.keep, ?_⟩
  obtain ⟨t, ht, hq⟩ := hbody (hr.deeper _)
  have J : Inv (cxOf CX P w K mg base N l.qual l.scope f (.ref c') A outer s H E) [] (L2.start N vs) H s1 := inv_start S hr.hd e0 hl r x
  refine PySem.W.kla_codeExpr (wpAny_mono (ht.run [] s1 (L2.start N vs) H _ J hq) (fun v s' z => ?_) fun e s' z => z)
  obtain ⟨u, H', J', rv, q⟩ := z
  exact ⟨u, H', J'.os, J'.bare, J'.base, J'.hok, rv, q⟩
end
/-! ### a lambda as data -/
section
variable {X : Cx} {T : List (Addr × Str)} {W : WX}
/-- what the making of lambdas asks of a def's context -/
structure LamCx (X : Cx) (T : List (Addr × Str)) (q : Str) : Prop where
  ex : ∃ c P, TabB X.base X.mg c P ∧ X.env.code = .ref c ∧ (P, q) ∈ T ∧ ∀ p ∈ T, p.1 = P → p.2 = q
  qual : q = X.env.qual ++ "<lambda>"
def cLam (l : LamSite) : EX := fun _ S => some (.ok (.fn l), S)
/-- the state behind the making -/
theorem SR.know {K : PySem.W.Frag} {F H H1 : Hp} {μ : List MA} {S : Store} {f c' P : Addr} {l : LamSite} {pm ctv : Value} (s : SR K T F μ S H) (hP : ∃ q, (P, q) ∈ T) (e : ∀ b o, H b = some o → b ≠ P → H1 b = some o) (t : Tabs T H1) (hn : H f = none)
    (nfc : c' ≠ f) (hf : H1 f = some (FunO f l pm c' ctv)) (hc : H1 c' = some (CodeO c' l.qual)) : ∃ F', Ex F F' ∧ SR K T F' μ S H1 ∧ F' f = some (FunO f l pm c' ctv) ∧ F' c' = some (CodeO c' l.qual) := by
  obtain ⟨q, hP⟩ := hP
  have FP : F P = none := s.tabF _ hP
  have Ff : F f = none := fresh_back s.ex hn
  have tabT : ∀ p ∈ T, ∃ ps, H1 p.1 = some (.tbl ps) := fun p hp => by
    obtain ⟨ps, h, _⟩ := t p hp
    exact ⟨ps, h⟩
  have ncT : ∀ p ∈ T, p.1 ≠ c' := fun p hp z => by
    obtain ⟨ps, h⟩ := tabT p hp
    rw [z, hc] at h
    unfold CodeO at h
    cases h
  have nfT : ∀ p ∈ T, p.1 ≠ f := fun p hp z => by
    obtain ⟨ps, h, _⟩ := s.tab p hp
    rw [z, hn] at h; cases h
  have Fold : ∀ b o, F b = some o → H1 b = some o := fun b o hb => e b o (s.ex b o hb) (fun z => by rw [z, FP] at hb; cases hb)
  refine ⟨fun b => if b = f then some (FunO f l pm c' ctv) else if b = c' then some (CodeO c' l.qual) else F b, fun b o hb => ?_, ⟨fun b o hb => ?_, s.len, s.nd, fun n a ds e1 e2 => ?_, t, fun p hp => ?_⟩, if_pos rfl, ?_⟩
  · have h1 : b ≠ f := fun z => by rw [z, Ff] at hb; cases hb
    try dsimp only
    rw [if_neg h1]
    by_cases h2 : b = c'
    · rw [if_pos h2]
      have := Fold b o hb
      rw [h2, hc] at this
      exact this
    · rw [if_neg h2]; exact hb
  · try dsimp only at hb
    by_cases h1 : b = f
    · rw [if_pos h1] at hb; cases hb; rw [h1]; exact hf
    · rw [if_neg h1] at hb
      by_cases h2 : b = c'
      · rw [if_pos h2] at hb; cases hb; rw [h2]; exact hc
      · rw [if_neg h2] at hb; exact Fold b o hb
  · obtain ⟨h1, h2, hc3⟩ := s.ob n a ds e1 e2
    obtain ⟨o3, h3, hM⟩ := hc3.ho
    have aP : a.a ≠ P := fun z => by
      obtain ⟨ps, h, _⟩ := s.tab _ hP
      rw [z, h] at h3; cases h3
      rcases hM with ⟨_, z⟩ | ⟨_, _, _, z⟩ | ⟨_, z⟩ <;> cases z
    have a1 := e a.a _ h3 aP
    have af : a.a ≠ f := fun z => by rw [z, hn] at h3; cases h3
    have ac : a.a ≠ c' := fun z => by
      rw [z, hc] at a1
      unfold CodeO at a1
      cases a1
      rcases hM with ⟨_, z⟩ | ⟨_, _, _, z⟩ | ⟨_, z⟩ <;> cases z
    refine ⟨by rw [if_neg af, if_neg ac]; exact h1, h2, hc3.mono (fun b o hb => ?_) (List.prefix_refl _) fun o ho => e a.a _ ho aP⟩
    have h5 : b ≠ f := fun z => by rw [z, Ff] at hb; cases hb
    try dsimp only
    rw [if_neg h5]
    by_cases h6 : b = c'
    · rw [if_pos h6]
      have := Fold b o hb
      rw [h6, hc] at this
      exact this
    · rw [if_neg h6]; exact hb
  · try dsimp only
    rw [if_neg (nfT p hp), if_neg (ncT p hp)]
    exact s.tabF p hp
  · try dsimp only
    by_cases h1 : c' = f
    · exact absurd h1 nfc
    · rw [if_neg h1, if_pos rfl]
theorem re_lam {l : LamSite} {pos : Pos} (L : LamCx X T l.qual) (hdf : defaultsOf l.params X.env = ([], []) := by rfl) (hcl : cloFrom X.env.cells l.scope.names [] = [] := by rfl) (hfree : l.scope.names.all (fun y => !decide (y.2 = .free)) = true := by decide +kernel) :
    RE T false X W (.Lambda l.params l.body l.scope pos) (cLam l) := by
  obtain ⟨c, P, TB, hcode, hm, hu⟩ := L.ex
  refine ⟨fun σ H Q => Tabs T H ∧ ∀ (f c' : Addr) (pm ctv : Value) (H1 : Hp), (∀ b o, H b = some o → b ≠ P → H1 b = some o) → Tabs T H1 → H f = none → c' ≠ f → H1 f = some (FunO f l pm c' ctv) → H1 c' = some (CodeO c' l.qual) → Q (.ref f) H1,
    ⟨fun pins s σ H Q I h => ?_⟩, fun σ ρ F μ S H Q s hE g => ⟨s.tab, fun f c' pm ctv H1 e t hn hne hf hc => ?_⟩⟩
  · refine lam_make3 (l := l) I TB hcode L.qual hm hu h.1 hdf hcl (fun y hy z => ?_) fun f c' pm ctv H1 s' J e t hn hne hf hc => ⟨.ref f, H1, J, rfl, h.2 f c' pm ctv H1 e t hn hne hf hc⟩
    have := List.all_eq_true.mp hfree y hy
    simp [z] at this
  · obtain ⟨F', e1, s1, k1, k2⟩ := s.know ⟨_, hm⟩ e t hn hne hf hc
    exact g F' μ H1 e1 (List.prefix_refl _) s1 _ (.fn k1 k2)
/-- what a lambda does, told by its body -/
def lamF (n : Nat) (c : EX) : OpB := callF false n (sRet c)
structure LamG (P : Program) (w : World) (K : PySem.W.Frag) (mg : Str → Option Value) (base : Heap) (T : List (Addr × Str)) (k : Nat) (l : LamSite) (ps : List Str) (o : OpB) : Prop where
  run : ∀ (A : Around) (outer : List PySem.Env) (s : Shared) (H : Hp) (us : List Value) (vs : List V) (Q : VK) (E : XK) (f c' : Addr) (pm ctv : Value), Room k A → A.guards = some [] → Env0 P w K mg base A outer s H →
    H f = some (FunO f l pm c' ctv) → H c' = some (CodeO c' l.qual) → Vals vs us → spOf K mg T false ps.length o vs H Q E → codeAny (model P w) A (.call (.ref f) ⟨us, []⟩) (CR (L2.CX P w) outer P w H s Q E) s
def PosL (l : LamSite) (ps : List Str) : Prop := ∀ (pm cv ctv : Value) (us : List Value), us.length = ps.length → bindArgs (PySem.W.kla_fn "<lambda>" l.qual l.params l.body l.scope [] pm cv ctv) ⟨us, []⟩ = pure (ps.zip us)
theorem lam_g {P : Program} {w : World} {K : PySem.W.Frag} {mg : Str → Option Value} {base : Heap} {N ps : List Str} {k : Nat} {l : LamSite} {c : EX} (sc : FnScope N ps l.scope) (hp : PosL l ps)
    (hb : ∀ (f c' : Addr) (A : Around) (outer : List PySem.Env) (s : Shared) (H : Hp) (E : XK), Room k (A.deeper (envOfC l.qual l.scope s.heap.objs.size f (.ref c'))) → A.guards = some [] →
      RE T false (cxOf (L2.CX P w) P w K mg base N l.qual l.scope f (.ref c') A outer s H E) (fun cls d _ H' => E cls d H') l.body c) :
    LamG P w K mg base T (k + 1) l ps (lamF N.length c) := by
  refine ⟨fun A outer s H us vs Q E f c' pm ctv hr hgu e0 hF hC r h => ?_⟩
  obtain ⟨F, μ, S, ds, s0, rs, hl, g⟩ := h
  have lim : s.heap.NoLimit := e0.mod.nolimit.keeps fun b o e => (e0.bs b o e).1
  refine run_lam sc hr e0 lim hF hC (.of_eq (hp _ _ _ us (by rw [← r.length]; exact hl))) r hl fun room => ?_
  obtain ⟨t, p, rd⟩ := hb f c' A outer s H E room hgu
  refine ⟨t, p, rd _ (startE N.length ds) F μ S H _ s0 (start_env rs) ?_⟩
  have g2 := exit_gp s0 g
  match hc : c (startE N.length ds) S with
  | none => rw [show sRet c (startE N.length ds) S = none by unfold sRet; rw [hc]; rfl] at g2; exact g2.elim
  | some (.ok d, S') =>
    rw [show sRet c (startE N.length ds) S = some (.ok (.ret d), S') by unfold sRet; rw [hc]; rfl] at g2
    exact fun F' μ' H' e q s' v rv => g2 F' μ' H' e q s' v rv
  | some (.error x, S') =>
    rw [show sRet c (startE N.length ds) S = some (.ok (.exc x (startE N.length ds)), S') by unfold sRet; rw [hc]; rfl] at g2
    exact fun F' μ' H' e q s' cls dd rx => g2 F' μ' H' e q s' (L2.start N vs) cls dd ((start_env rs).mono e q) rx
open Classical in
/-- the call of a name that holds the lambda l -/
noncomputable def cCallV (i : Nat) (l : LamSite) (n : Nat) (o : OpB) (r : AX) : EX := fun ρ S => match ρ[i]? with
  | some (some (.fn l')) => if l' = l then bindO (r ρ S) fun ds S => if ds.length = n then o ds S else none else none
  | _ => none
theorem ap_callV {i n : Nat} {l : LamSite} {o : OpB} {r : AX} {ρ : PF.Env} {S : Store} (h : ρ[i]? = some (some (.fn l))) : cCallV i l n o r ρ S = bindO (r ρ S) fun ds S => if ds.length = n then o ds S else none := by
  unfold cCallV
  rw [h]
  exact if_pos rfl
theorem re_callV {k i : Nat} {a : Str} {l : LamSite} {ps : List Str} {o : OpB} {e : Expr} {es : List Expr} {p pos : Pos} {c : AX} (G : LamG X.prog X.w X.K X.mg X.base T k l ps o) (hr : Room k X.A) (hgu : X.A.guards = some []) (hx : ∀ σ, PassesAt (L2.CX X.prog X.w) X σ fun cls d H => W cls d σ H)
    (ha : RA T X W (e :: es) c) (hN : X.N[i]? = some a := by rfl) (hv : Vis X.env.scope a := by first | exact Or.inl rfl | exact Or.inr (Or.inl rfl) | exact Or.inr (Or.inr rfl)) (hd : (a == ("__debug__" : Str)) = false := by decide) (hcd : (a == ("__classdict__" : Str)) = false := by decide)
    (he : starEach (e :: es) X.env = (false, eval e X.env) :: starEach es X.env := by rfl) (hpl : (backTo pos (starEach es X.env)).any (·.1) = false := by rfl) :
    RE T false X W (.Call (.Name a p) (e :: es) [] pos) (cCallV i l ps.length o c) := by
  obtain ⟨t, pa, rd⟩ := ha
  refine ⟨fun σ H Q => ∃ (f c' : Addr) (pm ctv : Value), σ[i]? = some (some (.ref f)) ∧ H f = some (FunO f l pm c' ctv) ∧ t σ H fun vs H1 => H1 f = some (FunO f l pm c' ctv) ∧ H1 c' = some (CodeO c' l.qual) ∧ spOf X.K X.mg T false ps.length o vs H1 Q (fun cls d H => W cls d σ H),
    ⟨fun pins s σ H Q I h => ?_⟩, fun σ ρ F μ S H Q s hE g => ?_⟩
  · obtain ⟨f, c', pm, ctv, hs, hF, ht⟩ := h
    refine wpAny_Call_Name_kw (thn ((pe_var (pos := p) (i := i) hN hv hd hcd).run pins s σ H (fun v H1 => v = .ref f ∧ H1 = H) I ⟨.ref f, hs, rfl, rfl⟩) fun u s1 ⟨v, H1, I1, r1, q1⟩ => ?_)
    obtain ⟨rfl, rfl⟩ := q1
    obtain rfl : u = Value.ref f := r1
    have fn : ∀ {s2 : Shared} {H2 : Hp}, Inv X pins σ H2 s2 → H2 f = some (FunO f l pm c' ctv) → PySem.W.FnAt f s2.heap := fun J hf => ⟨_, _, _, _, (J.hok f _ hf).1⟩
    refine PySem.W.callWith_F (fn I1 hF) (thn (pa.run pos pins s1 σ _ _ I1 ht) fun us s2 ⟨vs, H2, I2, r, q⟩ => ?_) he hpl
    obtain ⟨qf, qc, q⟩ := q
    refine ⟨fn I2 qf, wpAny_call (codeAny_mono (G.run X.A X.stack s2 H2 us vs Q (fun cls d H => W cls d σ H) f c' pm ctv hr hgu I2.env0 qf qc r q) ?_)⟩
    intro r' s' q'
    match r', q' with
    | .error e, q' => exact hx σ pins H2 s2 e s' I2 q'
    | .ok (.ret u), q' => exact Inv.after I2 q'
    | .ok .next, q' => exact q'.elim
    | .ok .brk, q' => exact q'.elim
    | .ok .cont, q' => exact q'.elim
  · unfold cCallV at g
    split at g
    · rename_i l' hρ
      split at g
      · rename_i hl
        subst hl
        obtain ⟨v, hs, rv⟩ := hE.2 i _ hρ
        cases rv with
        | @fn f c' _ pm ctv hF hC =>
          refine ⟨f, c', pm, ctv, hs, s.ex _ _ hF, rd σ ρ F μ S H _ s hE (GP.seq g fun ds F1 μ1 H1 S1 e1 p1 s1 g1 vs rs => ?_)⟩
          refine ⟨s1.ex _ _ (e1 _ _ hF), s1.ex _ _ (e1 _ _ hC), ?_⟩
          split at g1
          · rename_i hn
            exact ⟨F1, μ1, S1, ds, s1, rs, by rw [← rs.length]; exact hn, g1⟩
          · exact g1.elim
      · exact g.elim
    · exact g.elim
end
end PF
set_option Elab.async false
set_option linter.all false
set_option maxRecDepth 100000
set_option maxHeartbeats 4000000
/-! PF7: a law's end. -/
namespace PF
open PySem L2 Evl PySem.Spec PyProof.Rows
/-- the script as it lies ahead of the law: read alone, if it is none of the module's own objects -/
def scriptH (K : PySem.W.Frag) (a : Addr) (o : Obj) (ns : List Int) : Hp := fun b => if b = a ∧ (K.lookup a).isNone = true then some (.frz o (.lst (ns.map V.int))) else none
section
variable {P : Program} {w : World} {K : PySem.W.Frag} {mg mb : Str → Option Value} {k : Nat} {fa a : Addr} {fd : FuncData} {x : Str} {s₁ : Shared} {vs : List Value} {ns : List Int}
theorem scriptH_some {o : Obj} {b : Addr} {u : HO} (h : scriptH K a o ns b = some u) : b = a ∧ K.lookup a = none ∧ u = .frz o (.lst (ns.map V.int)) := by
  unfold scriptH at h
  split at h
  · rename_i c
    obtain ⟨h1, h2⟩ := c
    injection h with h
    exact ⟨h1, by simpa using h2, h.symm⟩
  · cases h
theorem law_run {o : OpB} (inK : K.In s₁.heap) (glob : s₁.heap.Ns mainGlobals mg) (blt : s₁.heap.Ns builtinsNs mb) (bltv : ∀ x : Str, x ≠ "__name__" → mb x = bootBuiltins x) (nolim : s₁.heap.NoLimit) (nogen : s₁.gens = #[])
    (at_ : s₁.heap.get? a = some { cls := .type "list", data := .seq vs.toArray }) (iav : IntsAre vs ns) (len : ns.length ≤ 63) (room : Room k callerA)
    (FG : ∀ base : Heap, K.In base → base.Ns mainGlobals mg → FnG P w K mg base k fa fd [x] (spOf K mg [] false 1 o)) (bnd : ∀ (s : Shared) (u : Value), BindsTo s fd ⟨[u], []⟩ [(x, u)])
    (end_ : o [.fz (ns.map D.int)] [] = some (.ok (.bl true), [])) :
    codeAny (model P w) callerA (.call (.ref fa) ⟨[.ref a], []⟩) (fun r s' => r = .ok (.ret (.bool true)) ∧ OldK s₁.heap s'.heap ∧ s'.os = s₁.os ∧ AllBare s'.gens) s₁ := by
  let ob : Obj := { cls := .type "list", data := .seq vs.toArray }
  let H := scriptH K a ob ns
  have rel : Vals (ns.map V.int) vs := vals_ints iav
  have small : (ns.map V.int).length ≤ sizeLine := by rw [List.length_map]; exact Nat.le_trans len (by decide)
  have hH : ∀ b u, H b = some u → b = a ∧ K.lookup a = none ∧ u = .frz ob (.lst (ns.map V.int)) := fun b u e => scriptH_some e
  -- what is no list is not tracked
  have out : ∀ b (q : Obj), s₁.heap.get? b = some q → (∀ n, q.data ≠ .seq vs.toArray n) → H b = none := by
    intro b q e nd
    match z : H b with
    | none => rfl
    | some u =>
      obtain ⟨rfl, _, _⟩ := hH b u z
      rw [at_] at e
      injection e with e
      subst e
      exact absurd rfl (nd _)
  have names : ∀ (L : Addr) (m : Str → Option Value), s₁.heap.Ns L m → (hidT s₁.heap H).Ns L m := by
    rintro L m ⟨q, es, ep, e, dd, rest⟩
    exact ⟨q, es, ep, hidT_get e (out L q e fun n z => by rw [dd] at z; cases z), dd, rest⟩
  have inB : K.In (hidT s₁.heap H) := by
    intro b q e
    refine hidT_get (inK b q e) ?_
    match z : H b with
    | none => rfl
    | some u =>
      obtain ⟨rfl, nk, _⟩ := hH b u z
      rw [nk] at e; cases e
  have mod : Mod K mg (hidT s₁.heap H) := { kin := inB, glob := names _ _ glob, blt := ⟨mb, names _ _ blt, bltv⟩, nolimit := by obtain ⟨mc, n1, n2⟩ := nolim; exact ⟨mc, names _ _ n1, n2⟩ }
  have held : HOk P w H s₁.heap := by
    intro b u e
    obtain ⟨rfl, _, rfl⟩ := hH b u e
    exact ⟨at_, small, vs, _, rel, at_⟩
  have env : Env0 P w K mg (hidT s₁.heap H) callerA [] s₁ H := { frames := rfl, mod := mod, bs := fun b q e => of_hidT e, bsz := by rw [hidT_size]; exact Nat.le_refl _, funs := trivial, frf := fun b hb => (nomatch hb), hok := held, bare := .of_eq nogen }
  have script : SqL K H a (ns.map V.int) := by
    match z : K.lookup a with
    | none => exact .inl (.inr ⟨ob, if_pos ⟨rfl, by rw [z]; rfl⟩⟩)
    | some q =>
      have e := inK a q z
      rw [at_] at e
      injection e with e
      subst e
      exact .inr ⟨_, vs.toArray, _, z, rfl, rfl, rfl, by rw [List.size_toArray, ← rel.length]; exact small, by simpa using rel⟩
  have want : spOf K mg [] false 1 o [.ref a] H (fun v _ => v = .bl true) fun _ _ _ => False := by
    refine ⟨H, [], [], [.fz (ns.map D.int)], ⟨Ex.refl _, rfl, List.nodup_nil, fun n b ds e => by simp at e, fun p hp => (nomatch hp), fun p hp => (nomatch hp)⟩, .cons (.fz script (reps_ints ns)) .nil, rfl, ?_⟩
    rw [end_]
    intro F' μ' H' _ _ _ v r
    have r : Rep K F' μ' (.bl true) v := r
    cases r
    rfl
  refine codeAny_mono ((FG _ inB (names _ _ glob)).run callerA [] s₁ H ⟨[.ref a], []⟩ [.ref a] [.ref a] _ _ room rfl env (bnd s₁ (.ref a)) (.cons rfl .nil) want) ?_
  intro r s' h
  match r, h with
  | .error e, h =>
    obtain ⟨_, _, _, _, _, _, _, _, _, _, _, _, z⟩ := h
    exact z.elim
  | .ok .next, h => exact h.elim
  | .ok .brk, h => exact h.elim
  | .ok .cont, h => exact h.elim
  | .ok (.ret u), ⟨v, H', os, bare, un, hok', rv, hv⟩ =>
    have hv : v = .bl true := hv
    subst hv
    have hu : u = Value.bool true := rv
    subst hu
    refine ⟨rfl, OldK.of_keep fun b q e => ?_, os, bare⟩
    match z : H b with
    | none => exact un.keep b q e z (fun z => nomatch z) (fun z => nomatch z)
    | some u =>
      obtain ⟨rfl, _, rfl⟩ := hH b u z
      have k1 := hok' b _ (un.frzs b _ _ z)
      rw [at_] at e
      injection e with e
      subst e
      exact k1.1
/-- .. with tables of code objects: cs, the code objects and their tables -/
theorem law_runT {o : OpB} {cs : List (Addr × Addr)} {T : List (Addr × Str)} (inK : K.In s₁.heap) (glob : s₁.heap.Ns mainGlobals mg) (blt : s₁.heap.Ns builtinsNs mb) (bltv : ∀ x : Str, x ≠ "__name__" → mb x = bootBuiltins x) (nolim : s₁.heap.NoLimit) (nogen : s₁.gens = #[])
    (at_ : s₁.heap.get? a = some { cls := .type "list", data := .seq vs.toArray }) (iav : IntsAre vs ns) (len : ns.length ≤ 63) (room : Room k callerA)
    (FG : ∀ base : Heap, K.In base → base.Ns mainGlobals mg → (∀ p ∈ cs, LamX.TabB base mg p.1 p.2) → FnG P w K mg base k fa fd [x] (spOf K mg T false 1 o)) (bnd : ∀ (s : Shared) (u : Value), BindsTo s fd ⟨[u], []⟩ [(x, u)])
    (tabs : ∀ p ∈ cs, s₁.heap.get? p.2 = some { cls := .none, data := .fields #[] }) (tabK : ∀ p ∈ cs, K.lookup p.2 = none) (cod : ∀ p ∈ cs, PySem.W.CodeHd s₁.heap p.1 p.2) (Tcs : ∀ t ∈ T, ∃ p ∈ cs, t.1 = p.2)
    (bmn : ∃ (bm : Addr) (ob : Obj), mg "__builtins__" = some (.ref bm) ∧ bm ≠ builtinsNs ∧ s₁.heap.get? bm = some ob ∧ ob.cls = .type "module" ∧ ob.dict = some builtinsNs ∧ ob.data = .plain)
    (end_ : o [.fz (ns.map D.int)] [] = some (.ok (.bl true), [])) :
    codeAny (model P w) callerA (.call (.ref fa) ⟨[.ref a], []⟩) (fun r s' => r = .ok (.ret (.bool true)) ∧ OldK s₁.heap s'.heap ∧ s'.os = s₁.os ∧ AllBare s'.gens) s₁ := by
  let ob : Obj := { cls := .type "list", data := .seq vs.toArray }
  let S0 := scriptH K a ob ns
  let H : Hp := fun b => if b ∈ cs.map (·.2) then some (.tbl #[]) else S0 b
  have isTab : ∀ b, b ∈ cs.map (·.2) → s₁.heap.get? b = some { cls := .none, data := .fields #[] } ∧ K.lookup b = none := fun b hb => by
    obtain ⟨p, hp, rfl⟩ := List.mem_map.mp hb
    exact ⟨tabs p hp, tabK p hp⟩
  have aNo : a ∉ cs.map (·.2) := fun z => by
    have h1 := (isTab a z).1
    rw [at_] at h1
    have h2 : Data.seq vs.toArray _ = Data.fields #[] := congrArg Obj.data (Option.some.inj h1)
    cases h2
  have HT : ∀ p ∈ cs, H p.2 = some (.tbl #[]) := fun p hp => if_pos (List.mem_map.mpr ⟨p, hp, rfl⟩)
  have rel : Vals (ns.map V.int) vs := vals_ints iav
  have small : (ns.map V.int).length ≤ sizeLine := by rw [List.length_map]; exact Nat.le_trans len (by decide)
  have hH : ∀ b u, H b = some u → (b ∈ cs.map (·.2) ∧ u = .tbl #[]) ∨ (b = a ∧ K.lookup a = none ∧ u = .frz ob (.lst (ns.map V.int))) := fun b u e => by
    by_cases hb : b ∈ cs.map (·.2)
    · exact .inl ⟨hb, (Option.some.inj ((if_pos hb).symm.trans e)).symm⟩
    · exact .inr (scriptH_some ((if_neg hb).symm.trans e))
  -- what is no list is not tracked
  have out : ∀ b (q : Obj), s₁.heap.get? b = some q → (∀ n, q.data ≠ .seq vs.toArray n) → q.data ≠ .fields #[] → H b = none := by
    intro b q e nd nf
    match z : H b with
    | none => rfl
    | some u =>
      rcases hH b u z with ⟨hb, _⟩ | ⟨rfl, _, _⟩
      · rw [(isTab b hb).1] at e
        injection e with e
        subst e
        exact absurd rfl nf
      · rw [at_] at e
        injection e with e
        subst e
        exact absurd rfl (nd _)
  have names : ∀ (L : Addr) (m : Str → Option Value), s₁.heap.Ns L m → (hidT s₁.heap H).Ns L m := by
    rintro L m ⟨q, es, ep, e, dd, rest⟩
    exact ⟨q, es, ep, hidT_get e (out L q e (fun n z => by rw [dd] at z; cases z) (fun z => by rw [dd] at z; cases z)), dd, rest⟩
  have inB : K.In (hidT s₁.heap H) := by
    intro b q e
    refine hidT_get (inK b q e) ?_
    match z : H b with
    | none => rfl
    | some u =>
      rcases hH b u z with ⟨hb, _⟩ | ⟨rfl, nk, _⟩
      · rw [(isTab b hb).2] at e; cases e
      · rw [nk] at e; cases e
  have mod : Mod K mg (hidT s₁.heap H) := { kin := inB, glob := names _ _ glob, blt := ⟨mb, names _ _ blt, bltv⟩, nolimit := by obtain ⟨mc, n1, n2⟩ := nolim; exact ⟨mc, names _ _ n1, n2⟩ }
  have tb : ∀ p ∈ cs, LamX.TabB (hidT s₁.heap H) mg p.1 p.2 := fun p hp => by
    refine ⟨?_, ?_, fun z => ?_⟩
    · obtain ⟨oo, us, file, tf, flags, tg, inF, text, tt, e1, r1, r2, r3, rest⟩ := cod p hp
      refine ⟨oo, us, file, tf, flags, tg, inF, text, tt, hidT_get e1 (out _ _ e1 (fun n z => ?_) fun z => ?_), r1, r2, r3, rest⟩
      · rw [r2] at z; cases z
      · rw [r2] at z; cases z; simp at r3
    · obtain ⟨bm, om, m1, m2, m3, m4, m5, m6⟩ := bmn
      have n1 : bm ≠ mainGlobals := fun q => by
        obtain ⟨q2, es, ep, eq, dq, _⟩ := glob
        rw [q, eq] at m3
        cases m3
        rw [dq] at m6
        cases m6
      have n2 : bm ≠ p.2 := fun q => by
        rw [q, tabs p hp] at m3
        cases m3
        cases m6
      exact ⟨bm, om, m1, m2, n1, n2, hidT_get m3 (out _ _ m3 (fun n z => by rw [m6] at z; cases z) (fun z => by rw [m6] at z; cases z)), m4, m5, m6⟩
    · obtain ⟨q2, es, ep, eq, dq, _⟩ := glob
      rw [z, tabs p hp] at eq
      cases eq
      cases dq
  have held : HOk P w H s₁.heap := by
    intro b u e
    rcases hH b u e with ⟨hb, rfl⟩ | ⟨rfl, _, rfl⟩
    · exact (isTab b hb).1
    · exact ⟨at_, small, vs, _, rel, at_⟩
  have env : Env0 P w K mg (hidT s₁.heap H) callerA [] s₁ H := { frames := rfl, mod := mod, bs := fun b q e => of_hidT e, bsz := by rw [hidT_size]; exact Nat.le_refl _, funs := trivial, frf := fun b hb => (nomatch hb), hok := held, bare := .of_eq nogen }
  have scriptF : SqL K S0 a (ns.map V.int) := by
    match z : K.lookup a with
    | none => exact .inl (.inr ⟨ob, if_pos ⟨rfl, by rw [z]; rfl⟩⟩)
    | some q =>
      have e := inK a q z
      rw [at_] at e
      injection e with e
      subst e
      exact .inr ⟨_, vs.toArray, _, z, rfl, rfl, rfl, by rw [List.size_toArray, ← rel.length]; exact small, by simpa using rel⟩
  have want : spOf K mg T false 1 o [.ref a] H (fun v _ => v = .bl true) fun _ _ _ => False := by
    have s0H : Ex S0 H := fun b u e => by
      have eb := (scriptH_some e).1
      exact (if_neg (by rw [eb]; exact aNo)).trans e
    refine ⟨S0, [], [], [.fz (ns.map D.int)], ⟨s0H, rfl, List.nodup_nil, fun n b ds e => by simp at e, fun p hp => ?_, fun p hp => ?_⟩, .cons (.fz scriptF (reps_ints ns)) .nil, rfl, ?_⟩
    · obtain ⟨c, hc, e⟩ := Tcs p hp
      exact LamX.TabS.nil (by rw [e]; exact HT c hc)
    · obtain ⟨c, hc, e⟩ := Tcs p hp
      match z : S0 p.1 with
      | none => rfl
      | some u =>
        have ea := (scriptH_some z).1
        exact absurd (List.mem_map.mpr ⟨c, hc, by rw [← e, ea]⟩) aNo
    rw [end_]
    intro F' μ' H' _ _ _ v r
    have r : Rep K F' μ' (.bl true) v := r
    cases r
    rfl
  refine codeAny_mono ((FG _ inB (names _ _ glob) tb).run callerA [] s₁ H ⟨[.ref a], []⟩ [.ref a] [.ref a] _ _ room rfl env (bnd s₁ (.ref a)) (.cons rfl .nil) want) ?_
  intro r s' h
  match r, h with
  | .error e, h =>
    obtain ⟨_, _, _, _, _, _, _, _, _, _, _, _, z⟩ := h
    exact z.elim
  | .ok .next, h => exact h.elim
  | .ok .brk, h => exact h.elim
  | .ok .cont, h => exact h.elim
  | .ok (.ret u), ⟨v, H', os, bare, un, hok', rv, hv⟩ =>
    have hv : v = .bl true := hv
    subst hv
    have hu : u = Value.bool true := rv
    subst hu
    have keepO : ∀ b q, b ∉ cs.map (·.2) → s₁.heap.get? b = some q → s'.heap.get? b = some q := fun b q nb e => by
      match z : H b with
      | none => exact un.keep b q e z (fun z => nomatch z) (fun z => nomatch z)
      | some u =>
        rcases hH b u z with ⟨hb, _⟩ | ⟨rfl, _, rfl⟩
        · exact absurd hb nb
        · have k1 := hok' b _ (un.frzs b _ _ z)
          rw [at_] at e
          injection e with e
          subst e
          exact k1.1
    have grow : ∀ p ∈ cs, ∃ more : Array Value, s'.heap.get? p.2 = some { cls := .none, data := .fields more } := fun p hp => by
      obtain ⟨more, z⟩ := un.tbls p.2 #[] (HT p hp)
      exact ⟨_, hok' p.2 _ z⟩
    refine ⟨rfl, ⟨fun b q e => ?_, fun b q e => ?_⟩, os, bare⟩
    · by_cases hb : b ∈ cs.map (·.2)
      · obtain ⟨p, hp, rfl⟩ := List.mem_map.mp hb
        obtain ⟨more, hm⟩ := grow p hp
        rw [tabs p hp] at e
        cases e
        exact .inr (.inl ⟨((cod p hp).tab (tabs p hp)).isCodeTable, rfl, #[], more, rfl, by rw [Array.empty_append]; exact hm⟩)
      · exact .inl (keepO b q hb e)
    · by_cases hb : b ∈ cs.map (·.2)
      · obtain ⟨p, hp, rfl⟩ := List.mem_map.mp hb
        obtain ⟨more, hm⟩ := grow p hp
        exact ⟨_, hm⟩
      · exact ⟨q, keepO b q hb e⟩
end
/-- the law's end over a head by facts -/
theorem walk_pf {l : PySem.W.OpenLaw} {k : Nat} {q : Program} {loose : List Str} {XP : (Str → Option Value) → Heap → Prop} {YP : World → Heap → Prop} {d : DefRec} {x : Str} {o : OpB}
    (hn : l.most = some 63) (hdf : d.params.defaults = []) (hr : Room k callerA) (end_ : ∀ ns : List Int, ns.length ≤ 63 → o [.fz (ns.map D.int)] [] = some (.ok (.bl true), []))
    (F : ∀ (w : World) (mg : Str → Option Value) (fa : Addr) (h : Heap), YP w h → h.Ns mainGlobals mg → mg d.name = some (.ref fa) →
      ∃ (K : PySem.W.Frag) (fd : FuncData), K.In h ∧ (∀ (s : Shared) (u : Value), BindsTo s fd ⟨[u], []⟩ [(x, u)]) ∧ ∀ base : Heap, K.In base → base.Ns mainGlobals mg → FnG l.prog w K mg base k fa fd [x] (spOf K mg [] false 1 o)) :
    PySem.W.WalkO q loose XP YP l.row.toRowW d [] (fun f vs => PySem.call f vs) := by
  refine Att.attach_call hn hdf ?_
  intro w s₀ s₁ mg mb fa ob pm cd doc a vs ns G Y ho hd hcd hmg hobj hints hlen hg
  obtain ⟨K, fd, KX, hb, hF⟩ := F w mg fa _ Y G.T.g hmg
  exact law_run KX G.T.g G.T.b G.T.builtins G.T.nolimit hg hobj hints hlen hr hF hb (end_ ns hlen)
/-- .. with tables of code objects -/
theorem walk_pfT {l : PySem.W.OpenLaw} {k : Nat} {q : Program} {loose : List Str} {XP : (Str → Option Value) → Heap → Prop} {YP : World → Heap → Prop} {d : DefRec} {x : Str} {o : OpB}
    (hn : l.most = some 63) (hdf : d.params.defaults = []) (hr : Room k callerA) (end_ : ∀ ns : List Int, ns.length ≤ 63 → o [.fz (ns.map D.int)] [] = some (.ok (.bl true), []))
    (F : ∀ (w : World) (mg : Str → Option Value) (fa : Addr) (h : Heap), YP w h → h.Ns mainGlobals mg → mg d.name = some (.ref fa) →
      ∃ (K : PySem.W.Frag) (fd : FuncData) (cs : List (Addr × Addr)) (T : List (Addr × Str)), K.In h ∧ (∀ p ∈ cs, h.get? p.2 = some { cls := .none, data := .fields #[] }) ∧ (∀ p ∈ cs, K.lookup p.2 = none) ∧ (∀ p ∈ cs, PySem.W.CodeHd h p.1 p.2) ∧ (∀ t ∈ T, ∃ p ∈ cs, t.1 = p.2) ∧
        (∀ (s : Shared) (u : Value), BindsTo s fd ⟨[u], []⟩ [(x, u)]) ∧ ∀ base : Heap, K.In base → base.Ns mainGlobals mg → (∀ p ∈ cs, LamX.TabB base mg p.1 p.2) → FnG l.prog w K mg base k fa fd [x] (spOf K mg T false 1 o)) :
    PySem.W.WalkO q loose XP YP l.row.toRowW d [] (fun f vs => PySem.call f vs) := by
  refine Att.attach_call hn hdf ?_
  intro w s₀ s₁ mg mb fa ob pm cd doc a vs ns G Y ho hd hcd hmg hobj hints hlen hg
  obtain ⟨K, fd, cs, T, KX, t1, t2, t3, t4, hb, hF⟩ := F w mg fa _ Y G.T.g hmg
  exact law_runT KX G.T.g G.T.b G.T.builtins G.T.nolimit hg hobj hints hlen hr hF hb t1 t2 t3 t4 G.T.bmain (end_ ns hlen)
end PF
set_option Elab.async false
set_option linter.all false
set_option maxRecDepth 100000
set_option maxHeartbeats 4000000
/-! PF8: what the printed derivations call. -/
namespace PF
open PySem L2 Evl PySem.Spec PyProof.Rows
section
variable {X : Cx} {T : List (Addr × Str)} {W : WX}
theorem OpOk.freeze {r : R2} {o : Op2} (h : OpOk X T true r o) : OpOk X T false r o := fun F μ S H x y v u Q er s rx ry g => h F μ S H x y v u Q er s rx ry (gp_freeze g)
/-- + of ints, texts, tuples, lists -/
def oAddA : Op2 := fun x y S => match oAdd x y S with
  | some r => some r
  | none => oCat x y S
def rAddA (K : PySem.W.Frag) : R2 := fun x y H Q => rAdd3 K x y H Q ∨ rCat x y H Q
theorem op_add4 : OpR X (binaryOp .Add) (rAddA X.K) := op_add3.or op_cat
theorem oAddA_ok : OpOk X T false (rAddA X.K) oAddA := OpOk.or oAdd_ok oCat_ok.freeze fun x y S => by
  unfold oAddA
  cases h : oAdd x y S with
  | some r => exact .inl rfl
  | none => exact .inr rfl
theorem oAdd_nerr : ∀ x y S z S', oAdd x y S ≠ some (.error z, S') := by
  intro x y S z S' h
  unfold oAdd at h
  split at h
  · cases h
  · split at h <;> cases h
  · split at h <;> cases h
  · cases h
theorem oCat_nerr : ∀ x y S z S', oCat x y S ≠ some (.error z, S') := by
  intro x y S z S' h
  unfold oCat at h
  split at h
  · split at h
    · split at h <;> cases h
    · cases h
  · cases h
theorem oAddA_ne : ∀ x y S z S', oAddA x y S ≠ some (.error z, S') := by
  intro x y S z S' h
  unfold oAddA at h
  split at h
  · rename_i r hr
    rw [h] at hr
    exact oAdd_nerr _ _ _ _ _ hr
  · exact oCat_nerr _ _ _ _ _ h
theorem oI_ne {C : Int → Int → Bool} {g : Int → Int → D} : ∀ x y S z S', oI C g x y S ≠ some (.error z, S') := by
  intro x y S z S' h
  unfold oI at h
  split at h
  · split at h <;> cases h
  · cases h
theorem oSub_ne : ∀ x y S z S', oSub x y S ≠ some (.error z, S') := oI_ne
theorem oMul_ne : ∀ x y S z S', oMul x y S ≠ some (.error z, S') := oI_ne
def rIadd3 (K : PySem.W.Frag) : R2 := fun x y H Q => (∃ i j, x = .int i ∧ y = .int j ∧ Q (.int (i + j)) H) ∨ (∃ i j, x = .str i ∧ y = .str j ∧ i.length + j.length ≤ sizeLine ∧ Q (.str (i ++ j)) H)
/-- < of ints, texts, tuples of ints -/
def oLtA : Op2 := fun x y S => match x, y with
  | .int i, .int j => some (.ok (.bl (decide (i < j))), S)
  | .str i, .str j => some (.ok (.bl (decide (i.cps.toList < j.cps.toList))), S)
  | .tup a, .tup b => (match intsOf a, intsOf b with
    | some ns, some ms => some (.ok (.bl (HT.lexLt ns ms)), S)
    | _, _ => none)
  | _, _ => none
def rLtA (K : PySem.W.Frag) : R2 := fun x y H Q => (∃ i j, x = .int i ∧ y = .int j ∧ Q (.bl (decide (i < j))) H) ∨ (∃ i j, x = .str i ∧ y = .str j ∧ Q (.bl (decide (i.cps.toList < j.cps.toList))) H) ∨ rLtT K x y H Q
theorem op_ltA (hu : X.A.units < cLine) : OpR X (compareOp .Lt) (rLtA X.K) := op_lt.or (op_lt_str.or (op_ltT hu))
theorem oLtA_ok : OpOk X T false (rLtA X.K) oLtA := by
  intro F μ S H x y v u Q er s rx ry h
  unfold oLtA at h
  cases rx with
  | int i =>
    cases ry with
    | int j => exact .inl ⟨i, j, rfl, rfl, gp_val h s (.bl _)⟩
    | _ => exact h.elim
  | str i =>
    cases ry with
    | str j => exact .inr (.inl ⟨i, j, rfl, rfl, gp_val h s (.bl _)⟩)
    | _ => exact h.elim
  | @tup a xs ds hq rs =>
    cases ry with
    | @tup b ys es hq2 rs2 =>
      dsimp only at h
      split at h
      · rename_i ns ms h1 h2
        have e1 := ints_rep rs h1
        have e2 := ints_rep rs2 h2
        subst e1; subst e2
        exact .inr (.inr ⟨a, b, ns, ms, rfl, rfl, s.sqT hq, s.sqT hq2, gp_val h s (.bl _)⟩)
      · exact h.elim
    | _ => exact h.elim
  | _ => exact h.elim
/-- in: a thing in a list or tuple, a text in a text -/
def oInA (neg : Bool) : Op2 := fun x y S => match y with
  | .str _ => oInS neg x y S
  | _ => oIn neg x y S
theorem oInS_ok : OpOk X T false (fun x y H Q => ∃ i j, x = .str i ∧ y = .str j ∧ Q (.bl (!(Builtin.Str.occurrences j i 0 j.length 1).isEmpty)) H) (oInS false) := by
  intro F μ S H x y v u Q er s rx ry h
  unfold oInS at h
  cases rx with
  | str i =>
    cases ry with
    | str j => exact ⟨i, j, rfl, rfl, gp_val h s (.bl _)⟩
    | _ => exact h.elim
  | _ => exact h.elim
theorem oNinS_ok : OpOk X T false (fun x y H Q => ∃ i j, x = .str i ∧ y = .str j ∧ Q (.bl (!(!(Builtin.Str.occurrences j i 0 j.length 1).isEmpty))) H) (oInS true) := by
  intro F μ S H x y v u Q er s rx ry h
  unfold oInS at h
  cases rx with
  | str i =>
    cases ry with
    | str j => exact ⟨i, j, rfl, rfl, gp_val h s (.bl _)⟩
    | _ => exact h.elim
  | _ => exact h.elim
theorem op_inA : OpR X (compareOp .In) (fun x y H Q => rIn X.K false x y H Q ∨ ∃ i j, x = .str i ∧ y = .str j ∧ Q (.bl (!(Builtin.Str.occurrences j i 0 j.length 1).isEmpty)) H) := op_in_seq.or op_in_str
theorem op_ninA : OpR X (compareOp .NotIn) (fun x y H Q => rIn X.K true x y H Q ∨ ∃ i j, x = .str i ∧ y = .str j ∧ Q (.bl (!(!(Builtin.Str.occurrences j i 0 j.length 1).isEmpty))) H) := op_notIn_seq.or op_notin_str
theorem oInA_ok : OpOk X T false (fun x y H Q => rIn X.K false x y H Q ∨ ∃ i j, x = .str i ∧ y = .str j ∧ Q (.bl (!(Builtin.Str.occurrences j i 0 j.length 1).isEmpty)) H) (oInA false) := OpOk.or oIn_ok oInS_ok fun x y S => by
  cases y <;> first | exact .inr rfl | exact .inl rfl
theorem oNinA_ok : OpOk X T false (fun x y H Q => rIn X.K true x y H Q ∨ ∃ i j, x = .str i ∧ y = .str j ∧ Q (.bl (!(!(Builtin.Str.occurrences j i 0 j.length 1).isEmpty))) H) (oInA true) := OpOk.or oIn_ok oNinS_ok fun x y S => by
  cases y <;> first | exact .inr rfl | exact .inl rfl
/-- a[lo:hi], whatever a is: a list goes as a value -/
def cSliceA (a : EX) (lo hi : OX) : EX := fun ρ S => bindO (a ρ S) fun x S => bindO (lo ρ S) fun l S => bindO (hi ρ S) fun h S => match x with
  | .tup xs => some (.ok (.tup (cutL xs l h)), S)
  | .str z => if z.length ≤ lim then some (.ok (.str (cutS z l h)), S) else none
  | d => (match asL d S with
    | some xs => some (.ok (.lst (cutL xs l h)), S)
    | none => none)
theorem re_sliceA {e : Expr} {lo hi : Option Expr} {a : EX} {cl ch : OX} {pos p2 : Pos} (ha : RE T false X W e a) (hl : RO T X W lo cl) (hh : RO T X W hi ch) : RE T false X W (.Subscript e (.Slice lo hi none p2) pos) (cSliceA a cl ch) := by
  obtain ⟨ta, pa, fa⟩ := ha
  obtain ⟨tl, pl, fl⟩ := hl
  obtain ⟨th, ph, fh⟩ := hh
  refine ⟨_, pe_slice (sl_tupA.or (sl_str.or sl_list)) pa pl ph, fun σ ρ F μ S H Q s hE g => ?_⟩
  refine fa σ ρ F μ S H _ s hE (GP.seq g fun x F1 μ1 H1 S1 e1 p1 s1 g1 v rx => ?_)
  refine fl σ ρ F1 μ1 S1 H1 _ s1 (hE.mono e1 p1) (GP.seq g1 fun l F2 μ2 H2 S2 e2 p2 s2 g2 => ?_)
  refine fh σ ρ F2 μ2 S2 H2 _ s2 ((hE.mono e1 p1).mono e2 p2) (GP.seq g2 fun h F3 μ3 H3 S3 e3 p3 s3 g3 => ?_)
  have rx := Rep.mono e3 p3 (Rep.mono e2 p2 rx)
  have aslist : ∀ ds, asL x S3 = some ds → GP X.K T F3 μ3 (some (.ok (.lst (cutL ds l h)), S3)) (OkV X.K false Q) (ErW X.K X.mg fun cls dd H' => W cls dd σ H') → rSlL X.K v l h H3 Q := by
    intro ds hq g
    obtain ⟨a, vs, rfl, h1, h2⟩ := asL_ok s3 rx hq
    exact ⟨a, vs, rfl, h1, gp_lst (gp_freeze g) s3 (h2.cut _ _)⟩
  cases rx with
  | @tup a xs ds hq rs =>
    refine .inl ⟨a, xs, rfl, s3.sqT hq, fun hw => ?_, fun _ => gp_tup g3 s3 (rs.cut _ _)⟩
    dsimp only at g3
    rw [sIx_all hw rs.length] at g3
    exact gp_val g3 s3 (.tup hq rs)
  | str z =>
    dsimp only at g3
    split at g3
    · rename_i hz
      exact .inr (.inl ⟨z, rfl, lim_ok hz, gp_val g3 s3 (.str _)⟩)
    · exact g3.elim
  | lst hq rs =>
    dsimp only at g3
    split at g3
    · rename_i ds hd
      exact .inr (.inr (aslist ds hd g3))
    · exact g3.elim
  | fz hq rs =>
    dsimp only at g3
    split at g3
    · rename_i ds hd
      exact .inr (.inr (aslist ds hd g3))
    · exact g3.elim
  | loc hq =>
    dsimp only at g3
    split at g3
    · rename_i ds hd
      exact .inr (.inr (aslist ds hd g3))
    · exact g3.elim
  | _ => simp only [asL] at g3; exact g3.elim
/-- what is walked: a list, a tuple, a text -/
def srcOfA : D → Option Src
  | .str z => some (.items (z.cps.toList.map fun c => .str ⟨#[c]⟩))
  | d => srcOf d
def cSeqA (c : EX) : IX := fun ρ S => bindO (c ρ S) fun d S => match srcOfA d with
  | some src => some (.ok src, S)
  | none => none
theorem walks_s {K : PySem.W.Frag} {F : Hp} {μ : List MA} {z : Str} : Walks K T F μ (.items (z.cps.toList.map fun c => .str ⟨#[c]⟩)) (Its z) := by
  intro F' μ' S H ds i e p s q
  cases q
  refine ⟨fun d hd => ?_, fun hl => ?_⟩
  · rw [List.getElem?_map, Option.map_eq_some_iff] at hd
    obtain ⟨c, hc, rfl⟩ := hd
    have hc' : z.cps[i]? = some c := by simpa using hc
    have hi : i < z.cps.size := by
      rcases Nat.lt_or_ge i z.cps.size with q | q
      · exact q
      · rw [Array.getElem?_eq_none q] at hc'; cases hc'
    refine ⟨hi, fun x H' y => ?_⟩
    obtain ⟨rfl, c', h1, rfl⟩ := y
    rw [hc'] at h1; cases h1
    exact ⟨F', Ex.refl _, s, .str _⟩
  · show z.cps.size ≤ i
    simpa using hl
theorem ri_seqA {tg e : Expr} {c : EX} (h : RE T false X W e c) : RI T X W tg e (cSeqA c) := by
  obtain ⟨t, pe, f⟩ := h
  refine ⟨fun σ H R => t σ H fun x H1 => (∃ a, x = .ref a ∧ (((∃ vs, SqL X.K H1 a vs) ∧ R (Itl X.K a) H1) ∨ ((∃ vs, SqT X.K H1 a vs) ∧ R (Itt X.K a) H1))) ∨ ∃ z, x = .str z ∧ R (Its z) H1, ⟨fun pins s σ H R I h => ?_⟩, fun σ ρ F μ S H R s hE g => ?_⟩
  · refine thn (pe.run pins s σ H _ I h) ?_
    rintro v s1 ⟨x, H1, I1, r1, q1⟩
    have newest : ∀ (ob : Obj), Inv X pins σ H1 { s1 with heap := s1.heap.push ob } := fun ob => Inv.kept (t' := s1.toks) I1 fun b o q => Heap.get?_push_of_some _ q
    have foot : ∀ b ∈ [s1.heap.objs.size], FpOk X pins H1 b := fun b hb => by
      rw [List.mem_singleton] at hb
      subst hb
      exact Inv.fpOk I1 (Nat.le_refl _) (HOk.fresh I1.hok (Nat.le_refl _))
    rcases q1 with ⟨a, rfl, q1⟩ | ⟨z, rfl, q⟩
    · cases r1
      rcases q1 with ⟨⟨vs, hq⟩, q⟩ | ⟨⟨vs, hq⟩, q⟩
      · obtain ⟨its, _, pl, _⟩ := Inv.list I1 hq
        exact wpAny_pyIter_list pl.isList ⟨_, _, _, _, H1, rfl, newest _, turn_list a _, ⟨_, Heap.get?_push_size _ rfl, rfl, rfl⟩, foot, q⟩
      · obtain ⟨its, _, pt, _⟩ := Inv.tuple I1 hq
        exact wpAny_pyIter_tuple (items := its.toArray) pt ⟨_, _, _, _, H1, rfl, newest _, turn_tuple a _, ⟨_, Heap.get?_push_size _ rfl, rfl, rfl⟩, foot, q⟩
    · obtain ⟨tk, rfl⟩ := r1
      by_cases ha : z.cps.all (· < 128) = true
      · exact wpAny_pyIter_ascii ha ⟨_, _, _, _, H1, rfl, newest _, turn_str _ z tk "str_ascii_iterator" (.inl rfl), ⟨_, Heap.get?_push_size _ rfl, rfl, rfl⟩, foot, q⟩
      · exact wpAny_pyIter_wide (by simpa using ha) ⟨_, _, _, _, H1, rfl, newest _, turn_str _ z tk "str_iterator" (.inr rfl), ⟨_, Heap.get?_push_size _ rfl, rfl, rfl⟩, foot, q⟩
  · refine f σ ρ F μ S H _ s hE (GP.seq g fun d F1 μ1 H1 S1 e1 p1 s1 g1 v rv => ?_)
    split at g1
    · rename_i src hs
      have fin := GP.here g1 s1
      have other : srcOf d = some src → (∃ a, v = .ref a ∧ (((∃ vs, SqL X.K H1 a vs) ∧ R (Itl X.K a) H1) ∨ ((∃ vs, SqT X.K H1 a vs) ∧ R (Itt X.K a) H1))) := by
        intro hs
        obtain ⟨a, rfl, hh⟩ := stand s1 rv hs
        refine ⟨a, rfl, ?_⟩
        rcases hh with ⟨h1, h2⟩ | ⟨h1, h2⟩
        · exact .inl ⟨h1, fin _ (walks_l h2)⟩
        · exact .inr ⟨h1, fin _ (walks_t h2)⟩
      cases d with
      | str z =>
        cases rv
        simp only [srcOfA] at hs
        cases hs
        exact .inr ⟨z, rfl, fin _ walks_s⟩
      | _ => exact .inl (other hs)
    · exact g1.elim
abbrev cEnum : AX → IX := cEnumL
theorem ri_enum {e : Expr} {ca : AX} {p pos : Pos} {elts : List Expr} {kk : Nat} {tpos : Pos} (ha : RA T X W [e] ca) (hm : X.mg "enumerate" = none) (hg : Gl X "enumerate" := by rfl) (hs : starEach [e] X.env = [(false, eval e X.env)] := by rfl) : RI T X W (.Tuple elts kk tpos) (.Call (.Name "enumerate" p) [e] [] pos) (cEnum ca) := ri_enumL ha hm hg hs
/-! ### what is let out -/
theorem pass_blk {s : Shared} {H : Hp} {scope : Scope} {env : PySem.Env} {fp : List Addr} : ∀ σ, PassesAt (L2.CX X.prog X.w) (X.blk s H scope env fp) σ fun cls d H => WF cls d σ H := fun σ pins H s e s' I h => by
  obtain ⟨_, _, _, _, _, _, _, _, _, _, _, _, z⟩ := h
  exact z.elim
end
section
variable {P : Program} {w : World} {K : PySem.W.Frag} {mg : Str → Option Value} {base : Heap} {N : List Str} {qual : Str} {scope : Scope} {f : Addr} {cd : Value} {A : Around} {outer : List PySem.Env} {s : Shared} {H : Hp} {E : XK}
theorem pass_cx : ∀ σ, PassesAt (L2.CX P w) (cxOf (L2.CX P w) P w K mg base N qual scope f cd A outer s H E) σ fun cls d H' => E cls d H' := fun σ =>
  passAt (X := cxOf (L2.CX P w) P w K mg base N qual scope f cd A outer s H E) (W := fun cls d _ H' => E cls d H') (takes_of rfl rfl rfl rfl) σ
theorem own_cx : PassesOwn (model P w) (cxOf (L2.CX P w) P w K mg base N qual scope f cd A outer s H E).A (cxOf (L2.CX P w) P w K mg base N qual scope f cd A outer s H E).env (cxOf (L2.CX P w) P w K mg base N qual scope f cd A outer s H E).xe := passes_of rfl
theorem globInt {x : Str} {i : Int} (h : ∃ t, mg x = some (.int i t)) : GlobK K mg x (.int i) := by
  obtain ⟨t, h⟩ := h
  exact ⟨_, .int i, h, ⟨t, rfl⟩, fun F μ => .int i⟩
theorem globStr {x z : Str} (h : ∃ t, mg x = some (.str z t)) : GlobK K mg x (.str z) := by
  obtain ⟨t, h⟩ := h
  exact ⟨_, .str z, h, ⟨t, rfl⟩, fun F μ => .str z⟩
end
/-! ### == with texts of any kind -/
section
variable {X : Cx} {T : List (Addr × Str)}
def oEqS : Op2 := fun x y S => match x, y with
  | .str a, .str b => some (.ok (.bl (a == b)), S)
  | _, _ => none
def oNeS : Op2 := fun x y S => match x, y with
  | .str a, .str b => some (.ok (.bl (!(a == b))), S)
  | _, _ => none
theorem oEqS_ok : OpOk X T false rEq oEqS := by
  intro F μ S H x y v u Q er s rx ry h
  unfold oEqS at h
  split at h
  · cases rx; cases ry
    exact ⟨rfl, by rw [dec_str]; exact gp_val h s (.bl _)⟩
  · exact h.elim
theorem oNeS_ok : OpOk X T false rNe oNeS := by
  intro F μ S H x y v u Q er s rx ry h
  unfold oNeS at h
  split at h
  · cases rx; cases ry
    exact ⟨rfl, by rw [dec_str]; exact gp_val h s (.bl _)⟩
  · exact h.elim
def oEqA : Op2 := fun x y S => match oEqS x y S with
  | some r => some r
  | none => oEq x y S
def oNeA : Op2 := fun x y S => match oNeS x y S with
  | some r => some r
  | none => oNe x y S
theorem op_eqA (hu : X.A.units + 64 < cLine) : OpR X (compareOp .Eq) (fun x y H Q => rEq x y H Q ∨ rEqD X.K x y H Q) := op_eq.or (op_eqD hu)
theorem op_neA (hu : X.A.units + 64 < cLine) : OpR X (compareOp .NotEq) (fun x y H Q => rNe x y H Q ∨ rNeD X.K x y H Q) := op_ne.or (op_neD hu)
theorem oEqA_ok : OpOk X T false (fun x y H Q => rEq x y H Q ∨ rEqD X.K x y H Q) oEqA := OpOk.or oEqS_ok oEq_ok fun x y S => by
  unfold oEqA
  cases h : oEqS x y S with
  | none => exact .inr rfl
  | some r => exact .inl rfl
theorem oNeA_ok : OpOk X T false (fun x y H Q => rNe x y H Q ∨ rNeD X.K x y H Q) oNeA := OpOk.or oNeS_ok oNe_ok fun x y S => by
  unfold oNeA
  cases h : oNeS x y S with
  | none => exact .inr rfl
  | some r => exact .inl rfl
end
end PF
set_option Elab.async false
set_option linter.all false
set_option maxRecDepth 100000
set_option maxHeartbeats 4000000
/-! PFX: xs[::-1], range with a step. -/
namespace PF
open PySem L2 Evl PySem.Spec PyProof.Rows
section
variable {X : Cx} {T : List (Addr × Str)} {W : WX} {F H : Hp} {μ : List MA} {K : PySem.W.Frag}
/-- xs[::-1] of a list -/
def cBack (a : EX) : EX := fun ρ S => bindO (a ρ S) fun x S => match asL x S with
  | some xs => some (.ok (.lst xs.reverse), S)
  | none => none
theorem re_back {e : Expr} {a : EX} {k : Nat} {p1 p2 p3 pos : Pos} (ha : RE T false X W e a) : RE T true X W (.Subscript e (.Slice none none (some (.UnaryOp .USub (.Constant (.int 1) k p1) p2)) p3) pos) (cBack a) := by
  obtain ⟨ta, pa, fa⟩ := ha
  refine ⟨_, pe_revL pa, fun σ ρ F μ S H Q s hE g => fa σ ρ F μ S H _ s hE (GP.seq g fun x F1 μ1 H1 S1 e1 p1 s1 g1 v rx => ?_)⟩
  split at g1
  · rename_i xs hq
    obtain ⟨a, vs, rfl, h1, h2⟩ := asL_ok s1 rx hq
    exact ⟨a, vs, rfl, h1, gp_lst g1 s1 h2.reverse⟩
  · exact g1.elim
/-- lo, lo + c, .. -/
def stepped (lo c : Int) : Nat → List D
  | 0 => []
  | n + 1 => .int lo :: stepped (lo + c) c n
theorem stepped_get : ∀ (n : Nat) (lo c : Int) (i : Nat), i < n → (stepped lo c n)[i]? = some (.int (lo + i * c))
  | n + 1, lo, c, 0, _ => by simp [stepped]
  | n + 1, lo, c, i + 1, h => by
    simp only [stepped, List.getElem?_cons_succ]
    rw [stepped_get n (lo + c) c i (by omega)]
    congr 2
    rw [Int.natCast_add, Int.add_mul]
    omega
theorem stepped_len : ∀ (n : Nat) (lo c : Int), (stepped lo c n).length = n
  | 0, _, _ => rfl
  | n + 1, lo, c => by simp [stepped, stepped_len n]
theorem walks_st {lo c : Int} {n : Nat} : Walks K T F μ (.items (stepped lo c n)) (Itc lo c n) := by
  intro F' μ' S H ds i e p s q
  cases q
  refine ⟨fun d hd => ?_, fun hl => by rw [stepped_len] at hl; exact hl⟩
  have hi : i < n := by
    have := (List.getElem?_eq_some_iff.mp hd).1
    rw [stepped_len] at this; exact this
  rw [stepped_get n lo c i hi] at hd
  cases hd
  refine ⟨hi, fun x H' y => ?_⟩
  obtain ⟨rfl, rfl⟩ := y
  exact ⟨F', Ex.refl _, s, .int _⟩
/-- range(i, j, -1) -/
def cRangeD (c : AX) : IX := fun ρ S => bindO (c ρ S) fun ds S => match ds with
  | [.int i, .int j, .int d] => if d = -1 ∧ (i < 1000000000 ∧ -1000000000 < i) ∧ (j < 1000000000 ∧ -1000000000 < j) then some (.ok (.items (stepped i (-1) (i - j).toNat)), S) else none
  | _ => none
theorem ri_rangeD {tg e1 e2 e3 : Expr} {ca : AX} {p pos : Pos} (ha : RA T X W [e1, e2, e3] ca) (hm : X.mg "range" = none) (hg : Gl X "range" := by rfl) (hs : starEach [e1, e2, e3] X.env = (false, eval e1 X.env) :: starEach [e2, e3] X.env := by rfl) (hpl : (backTo pos (starEach [e2, e3] X.env)).any (·.1) = false := by rfl) :
    RI T X W tg (.Call (.Name "range" p) [e1, e2, e3] [] pos) (cRangeD ca) := by
  obtain ⟨t, pa, f⟩ := ha
  refine ⟨_, pi_range3 hg hm pa hs hpl, fun σ ρ F μ S H R s hE g => f σ ρ F μ S H _ s hE (GP.seq g fun ds F1 μ1 H1 S1 e1 p1 s1 g1 vs rs => ?_)⟩
  split at g1
  · rename_i i j d
    split at g1
    · rename_i hn
      cases rs with
      | cons rv rs' =>
      obtain ⟨u, w, rfl, ru, rw'⟩ := rs'.inv2
      cases rv; cases ru; cases rw'
      obtain ⟨rfl, h1, h2⟩ := hn
      exact ⟨i, j, -1, (i - j).toNat, rfl, RgC.neg (by omega) (by omega) (by omega) (by omega), GP.here g1 s1 _ walks_st⟩
    · exact g1.elim
  · exact g1.elim
/-! list(range(n)), list(range(m, n)) -/
theorem reps_of_get : ∀ {ds : List D} {vs : List V}, ds.length = vs.length → (∀ (i : Nat) (d : D) (v : V), ds[i]? = some d → vs[i]? = some v → Rep K F μ d v) → Reps K F μ ds vs
  | [], [], _, _ => .nil
  | [], _ :: _, h, _ => by cases h
  | _ :: _, [], h, _ => by cases h
  | d :: ds, v :: vs, h, f => .cons (f 0 d v rfl rfl) (reps_of_get (by simpa using h) fun i d v h1 h2 => f (i + 1) d v (by simpa using h1) (by simpa using h2))
theorem reps_rg {a b : Int} : Reps K F μ (ranged a (b - a).toNat) (rgV a b) := by
  refine reps_of_get (by rw [ranged_len, rgV_length]) fun i d v h1 h2 => ?_
  have hi : i < (b - a).toNat := by
    have := (List.getElem?_eq_some_iff.mp h1).1
    rw [ranged_len] at this; exact this
  rw [ranged_get _ _ _ hi] at h1
  unfold rgV at h2
  rw [List.getElem?_map, List.getElem?_range hi] at h2
  cases h1; cases h2
  exact .int _
def cListR1 (c : EX) : EX := fun ρ S => bindO (c ρ S) fun d S => match d with
  | .int n => if n ≤ 1000000 ∧ -1000000000 < n then some (.ok (.lst (ranged 0 n.toNat)), S) else none
  | _ => none
def cListR2 (a b : EX) : EX := fun ρ S => bindO (a ρ S) fun x S => bindO (b ρ S) fun y S => match x, y with
  | .int m, .int n => if (n ≤ 1000000 ∧ -1000000000 < n) ∧ (0 ≤ m ∧ m ≤ 1000000) then some (.ok (.lst (ranged m (n - m).toNat)), S) else none
  | _, _ => none
theorem re_listR1 {e : Expr} {c : EX} {p p2 pos pos2 : Pos} (ha : RE T false X W e c) (hc : X.calm = true) (hml : X.mg "list" = none) (hmr : X.mg "range" = none) (hg : Gl X "list" := by rfl) (hgr : Gl X "range" := by rfl) (na : starEach [e] X.env = (false, eval e X.env) :: starEach [] X.env := by rfl)
    (nb : starEach [.Call (.Name "range" p2) [e] [] pos2] X.env = (false, eval (.Call (.Name "range" p2) [e] [] pos2) X.env) :: starEach [] X.env := by rfl) :
    RE T true X W (.Call (.Name "list" p) [.Call (.Name "range" p2) [e] [] pos2] [] pos) (cListR1 c) := by
  obtain ⟨t, pa, f⟩ := ha
  refine ⟨_, pe_listRg hc hg hml (prg_1 hgr hmr pa na) nb, fun σ ρ F μ S H Q s hE g => f σ ρ F μ S H _ s hE (GP.seq g fun d F1 μ1 H1 S1 e1 p1 s1 g1 v rv => ?_)⟩
  split at g1
  · rename_i n
    split at g1
    · rename_i hn
      cases rv
      refine ⟨n, rfl, ⟨by omega, by omega, by omega, by omega, by omega⟩, gp_lst g1 s1 ?_⟩
      have := reps_rg (K := X.K) (F := F1) (μ := μ1) (a := 0) (b := n)
      rw [Int.sub_zero] at this
      exact this
    · exact g1.elim
  · exact g1.elim
end
end PF
set_option Elab.async false
set_option linter.all false
set_option maxRecDepth 100000
set_option maxHeartbeats 4000000
/-! PFE: enumerate of a tuple. -/
namespace PF
open PySem L2 Evl PySem.Spec PyProof.Rows
abbrev tupIt (t : Addr) : Obj := { cls := .type "tuple_iterator", data := .fields #[.ref t, .int 0 0] }
abbrev enuOf (a : Addr) : Obj := { cls := .type "enumerate", data := .fields #[.none, .bool false, .ref a, rawInt 0, .none, .none] }
theorem meets_enumT (t : Addr) (items : Array Value) :
    Meets (Builtin.«enumerate.__new__» ⟨[.type "enumerate", .ref t], []⟩) (fun _ R s => s.heap.IsTuple t items ∧ R (.ok (.ret (.ref (s.heap.push (tupIt t)).objs.size))) { s with heap := (s.heap.push (tupIt t)).push (enuOf s.heap.objs.size) }) :=
  .of_wp fun pr wo ar re st hh => by
    obtain ⟨hp, gg, dd, tk, oo⟩ := st; obtain ⟨hl, hk⟩ := hh
    have enumSub := sub_enumerate
    have it1 : ∀ {ar' : Around} {E : Value → Shared → Prop} {Q : Value → Shared → Prop}, Q (.ref hp.objs.size) ⟨hp.push (tupIt t), gg, dd, tk, oo⟩ → wpAny (model pr wo) ar' (pyIter (.ref t)) Q E ⟨hp, gg, dd, tk, oo⟩ :=
      fun q => wpAny_pyIter_tuple (s := ⟨hp, gg, dd, tk, oo⟩) hl q
    obtain ⟨⟨c, dct, dt, sl⟩, hl1, hc1, n1, hd1⟩ := id hl
    have hc1 : c = .type "tuple" := hc1
    have hd1 : dt = .seq items n1 := hd1
    subst hc1 hd1
    wp_walk using AutoSeq1.wpAny_loadPart' hl1, it1
    refine wpAny_stack_any fun stk => wpAny_pure ?_
    split
    · rename_i c _ _ _ _ _
      cases (c == Value.type "enumerate")
      · wp_walk using AutoSeq1.wpAny_loadPart' hl1, it1
        exact ⟨_, rfl, hk⟩
      · wp_walk using AutoSeq1.wpAny_loadPart' hl1, it1
        exact ⟨_, rfl, hk⟩
    · wp_walk using AutoSeq1.wpAny_loadPart' hl1, it1
      exact ⟨_, rfl, hk⟩
theorem call_enumT {prog : Program} {w : World} {A : Around} {E : Value → Shared → Prop} {s : Shared} {t : Addr} {items : Array Value} {Q : Value → Shared → Prop} (ht : s.heap.IsTuple t items)
    (h : ∀ h', IsEnum h' (s.heap.objs.size + 1) s.heap.objs.size 0 .none → h'.IsTupleIter s.heap.objs.size t 0 → h'.objs.size = s.heap.objs.size + 2 → (∀ b o, s.heap.get? b = some o → h'.get? b = some o) → Q (.ref (s.heap.objs.size + 1)) { s with heap := h' }) :
    wpAny (model prog w) A (call (.type "enumerate") [.ref t]) Q E s := by
  refine callType_new F.called_enumerate (by decide) (F.typeCall_enumerate_1 _) (F.newCall_enumerate_1 _) (fun ob => F.args_object_init_2 ob _) F.entry_enumerate_new (meets_enumT t items) ⟨ht, ?_⟩
  have size1 : (s.heap.push (tupIt t)).objs.size = s.heap.objs.size + 1 := Heap.size_push ..
  show _ ∧ _
  rw [size1]
  have isE : IsEnum ((s.heap.push (tupIt t)).push (enuOf s.heap.objs.size)) (s.heap.objs.size + 1) s.heap.objs.size 0 .none := by
    have e := Heap.get?_push_size (s.heap.push (tupIt t)) (o := enuOf s.heap.objs.size) rfl
    rw [size1] at e; exact e
  exact ⟨⟨_, isE, rfl⟩, h _ isE ⟨_, Heap.get?_push_of_some _ (Heap.get?_push_size _ rfl), rfl, rfl⟩ (by rw [Heap.size_push, size1]) fun b o x => Heap.get?_push_of_some _ (Heap.get?_push_of_some _ x)⟩
/-- an enumeration of a tuple that is through -/
theorem next_endT {prog : Program} {w : World} {A : Around} {E : Value → Shared → Prop} {s : Shared} {e it a : Addr} {i : Nat} {items : Array Value} {old : Value} {k : Int} {Q : Option Value → Shared → Prop} (hh : A.handled = none)
    (isE : IsEnum s.heap e it k old) (isI : s.heap.IsTupleIter it a i) (isT : s.heap.IsTuple a items) (no : items[i]? = none) (q : ∀ h', Heap.ExtBut it s.heap h' → Q none { s with heap := h' }) : wpAny (model prog w) A (pyNext (.ref e)) Q E s := by
  have ty : s.TypeIs (.ref e) "enumerate" := ⟨_, isE, rfl⟩
  unfold pyNext
  refine wpAny_bind (wpAny_attempt (wpAny_callSpecial?_slot (name := Str.ofString "__next__") ty F.slot_enumerate_next (wpAny_call_entry F.slot_enumerate_next ty F.entry_enumerate_next ?_ (F.args_enumerate_next_1 _))))
  show wpAny _ _ (field (.ref e) 2 >>= _) _ _ s
  refine wpAny_bind (wpAny_field isE rfl (x := .ref it) rfl (wpAny_bind (wpAny_nextOf_tuple_end (show A.in1.handled = none from hh) isI isT no fun h' x ext stop => ?_)))
  obtain ⟨so, hso, cso⟩ := stop
  exact wpAny_bind (wpAny_isInstance (T := "StopIteration") (b := true) ⟨so, hso, cso⟩ isSubtype_stop (wpAny_pure (q _ ext)))
/-- the tuple at a, each item in a new pair with its place -/
def IteT (K : PySem.W.Frag) (a : Addr) : It :=
  ⟨fun i H => ∃ (xs : List V) (x : V), SqT K H a xs ∧ xs[i]? = some x, fun i H v H' => ∃ (A : Addr) (x : V), v = .ref A ∧ H A = none ∧ H' = upd H A (.tup [.int (i : Nat), x]) ∧ ∀ xs, SqT K H a xs → xs[i]? = some x, fun i H => ∃ xs : List V, SqT K H a xs ∧ xs.length ≤ i⟩
theorem turn_enumT {P : Program} {w : World} {K : PySem.W.Frag} {elts : List Expr} {kk : Nat} {tpos : Pos} (a e it : Addr) :
    Turn P w K (.Tuple elts kk tpos) (IteT K a) [e, it] e (fun i h => (∃ old, IsEnum h e it ((i : Nat) : Int) old) ∧ h.IsTupleIter it a i ∧ e ≠ it) where
  mem := List.mem_cons_self ..
  obj := fun i h st b hb => by
    obtain ⟨⟨old, he⟩, ⟨oo, ho, _, hd⟩, _⟩ := st
    rcases List.mem_cons.mp hb with rfl | hb
    · exact ⟨_, he, fun v q => nomatch q⟩
    · rw [List.mem_singleton] at hb
      subst hb
      exact ⟨oo, ho, fun v q => by rw [hd] at q; cases q⟩
  keep := fun i h h' st k => let ⟨⟨old, he⟩, hi, hne⟩ := st; ⟨⟨old, k e (by simp) _ he⟩, hi.at fun o q => k it (by simp) o q, hne⟩
  item := by
    intro X hP hw hK hc i pins s σ H E I hf st hg
    subst hP hw hK
    obtain ⟨⟨old, isE⟩, isI, apart⟩ := st
    obtain ⟨xs, x, hq, hx⟩ := hg
    obtain ⟨its, rv, p, hz⟩ := I.tuple hq
    obtain ⟨u, hu, ru⟩ := rv.get hx
    have eLt : e < s.heap.objs.size := Heap.lt_size isE
    have iLt : it < s.heap.objs.size := by obtain ⟨_, q, _⟩ := isI; exact Heap.lt_size q
    have aIt : a ≠ it := fun z => by
      obtain ⟨o1, q1, c1, _⟩ := isI
      obtain ⟨o2, q2, c2, _⟩ := p
      rw [z, q1] at q2
      cases q2
      rw [c1] at c2
      exact absurd (Value.type.inj c2) (by decide)
    have aE : a ≠ e := fun z => by
      obtain ⟨o2, q2, c2, _⟩ := p
      rw [z, isE] at q2
      cases q2
      exact absurd (Value.type.inj c2) (by decide)
    have size : i < its.toArray.size := by
      have := (List.getElem?_eq_some_iff.mp hu).1
      simpa using this
    refine wpAny_pyNext_enum_itemD (Draws.tuple (A := X.A.in1) (show X.A.in1.handled = none from I.ok.hd hc) it a aIt its.toArray) isE ⟨isI, p⟩ size apart (by simp only [List.mem_cons, List.not_mem_nil, or_false, not_or]; exact ⟨apart, fun z => aE z.symm⟩) fun y h' tk hy ho st' hT hsz hk => ?_
    have hyu : y = u := by
      have hy : its.toArray[i]? = some y := hy
      have hu2 : its.toArray[i]? = some u := by simpa using hu
      rw [hu2] at hy
      exact (Option.some.inj hy).symm
    subst hyu
    refine ⟨_, rfl, wpAny_letOwnedTupleGo_enum (s := { s with heap := h', toks := tk + 1 }) ho fun h2 he2 sb => ?_⟩
    have newT : h2.get? s.heap.objs.size = some { cls := .type "tuple", data := .seq #[.int i tk, y] } := (sb.2 _ (Nat.ne_of_gt eLt)).trans hT
    have newOk : ObjOk X.prog X.w (upd H s.heap.objs.size (.tup [.int (i : Nat), x])) h2 s.heap.objs.size (.tup [.int (i : Nat), x]) :=
      ⟨by show 2 ≤ sizeLine; decide, [.int i tk, y], .cons ⟨_, rfl⟩ (.cons ru .nil), ⟨_, newT, rfl, _, rfl⟩⟩
    have J : Inv X pins σ (upd H s.heap.objs.size (.tup [.int (i : Nat), x])) { s with heap := h2, toks := tk + 1 } :=
      I.turnedNew (ch := [e, it]) (fun b ob hb q => (sb.2 b (fun z => hb (by simp [z]))).trans (hk b ob (fun z => hb (by simp [z])) (fun z => hb (by simp [z])) q)) hf (Nat.le_refl _) newOk
    refine ⟨.ref s.heap.objs.size, _, J, rfl, ⟨_, x, rfl, I.hok.fresh (Nat.le_refl _), rfl, fun ys hys => by rw [I.tuple_inj hys hq]; exact hx⟩, ⟨⟨y, ?_⟩, st'.1.at fun o q => (sb.2 it (Ne.symm apart)).trans q, apart⟩, fun b hb => ?_⟩
    · rw [show ((i + 1 : Nat) : Int) = (i : Int) + 1 by omega]; exact he2
    · have bLt : b < s.heap.objs.size := by
        rcases List.mem_cons.mp hb with rfl | hb
        · exact eLt
        · rw [List.mem_singleton] at hb; subst hb; exact iLt
      rw [upd_ne (Nat.ne_of_lt bLt)]
      exact (hf b hb).1
  done := by
    intro X hP hw hK hc i pins s σ H E I hf st hg
    subst hP hw hK
    obtain ⟨⟨old, isE⟩, isI, apart⟩ := st
    obtain ⟨xs, hq, hx⟩ := hg
    obtain ⟨its, rv, p, hz⟩ := I.tuple hq
    obtain ⟨f0, f1, f2, f3, f4, f5⟩ := hf it (by simp)
    have hl := rv.length
    exact next_endT (I.ok.hd hc) isE isI p (by simp; omega) fun h' eb => ⟨rfl, I.turned (t' := s.toks) (fun b o hb q => eb b o hb q) f0 f1 f3 f4 f5⟩
  self := fun A i s Q E st h => let ⟨⟨_, he⟩, _⟩ := st; wpAny_pyIter_enum he h
/-- enumerate of a list or a tuple -/
def iEnumA (K : PySem.W.Frag) (ta : TA) : TI := fun σ H R => ta σ H fun vs H1 => ∃ a, vs = [.ref a] ∧ ((∃ xs, SqL K H1 a xs ∧ R (Ite K a) H1) ∨ (∃ xs, SqT K H1 a xs ∧ R (IteT K a) H1))
theorem pi_enumA {X : Cx} {e : Expr} {ta : TA} {p pos tpos : Pos} {elts : List Expr} {kk : Nat} (hg : Gl X "enumerate") (hm : X.mg "enumerate" = none) (ha : PA X [e] ta) (hs : starEach [e] X.env = [(false, eval e X.env)] := by rfl) :
    PI X (.Tuple elts kk tpos) (.Call (.Name "enumerate" p) [e] [] pos) (iEnumA X.K ta) := by
  refine ⟨fun pins s σ H R I h => Call_ (ld_blt I hg hm boot_enumerate (PyProof.Rows.callWith_type1 (thn (ha.run pos pins s σ H _ I h) fun us s1 ⟨vs, H1, I1, r1, q1⟩ => ?_) hs rfl))⟩
  obtain ⟨a, rfl, q1⟩ := q1
  cases r1 with
  | cons r rr =>
    cases rr
    cases r
    have away : ∀ b : Addr, b ∈ [s1.heap.objs.size + 1, s1.heap.objs.size] → s1.heap.objs.size ≤ b := fun b hb => by
      rcases List.mem_cons.mp hb with rfl | hb
      · exact Nat.le_succ _
      · rw [List.mem_singleton] at hb; subst hb; exact Nat.le_refl _
    rcases q1 with ⟨xs, hq, q⟩ | ⟨xs, hq, q⟩
    · obtain ⟨its, rv, pl, _⟩ := I1.list hq
      refine call_enumerate_list pl.isList fun h' isE isI hsz hk => wpAny_pyIter_enum isE ?_
      have J : Inv X pins σ H1 { s1 with heap := h' } := I1.kept (t' := s1.toks) hk
      exact ⟨s1.heap.objs.size + 1, [s1.heap.objs.size + 1, s1.heap.objs.size], _, _, H1, rfl, J, turn_enum a (s1.heap.objs.size + 1) s1.heap.objs.size, ⟨⟨.none, isE⟩, isI, Nat.succ_ne_self _⟩, fun b hb => I1.fpOk (away b hb) (I1.hok.fresh (away b hb)), q⟩
    · obtain ⟨its, rv, pl, _⟩ := I1.tuple hq
      refine call_enumT pl fun h' isE isI hsz hk => wpAny_pyIter_enum isE ?_
      have J : Inv X pins σ H1 { s1 with heap := h' } := I1.kept (t' := s1.toks) hk
      exact ⟨s1.heap.objs.size + 1, [s1.heap.objs.size + 1, s1.heap.objs.size], _, _, H1, rfl, J, turn_enumT a (s1.heap.objs.size + 1) s1.heap.objs.size, ⟨⟨.none, isE⟩, isI, Nat.succ_ne_self _⟩, fun b hb => I1.fpOk (away b hb) (I1.hok.fresh (away b hb)), q⟩
section
variable {X : Cx} {T : List (Addr × Str)} {W : WX} {K : PySem.W.Frag} {F : Hp} {μ : List MA} {src : Src} {a : Addr}
theorem walks_eT (h : StandT K T F μ src a) : PF.Walks K T F μ (.enum src) (IteT K a) := by
  intro F' μ' S H ds i e p s q
  simp only [srcAt, Option.map_eq_some_iff] at q
  obtain ⟨es, q, rfl⟩ := q
  obtain ⟨vs, h1, h2⟩ := h F' μ' S H es e p s q
  refine ⟨fun d hd => ?_, fun hl => ⟨vs, h1, by rw [← h2.length]; rw [numb_len] at hl; exact hl⟩⟩
  rw [numb_get, Option.map_eq_some_iff] at hd
  obtain ⟨d', hd, rfl⟩ := hd
  obtain ⟨v, k1, k2⟩ := h2.get hd
  refine ⟨⟨vs, v, h1, k1⟩, fun x H' y => ?_⟩
  obtain ⟨A, w, rfl, hA, rfl, y⟩ := y
  have := (y vs h1).symm.trans k1
  cases this
  have hF := fresh_back s.ex hA
  rw [Nat.zero_add]
  exact ⟨upd F' A (.tup [.int (i : Nat), _]), Ex.new hF, s.new hA, .tup (st_of upd_same) (.cons (.int _) (.cons (k2.mono (Ex.new hF) (List.prefix_refl _)) .nil))⟩
def cEnumA (c : AX) : IX := fun ρ S => bindO (c ρ S) fun ds S => match ds with
  | [d] => (match srcOf d with
    | some src => some (.ok (.enum src), S)
    | none => none)
  | _ => none
theorem ri_enumA {e : Expr} {ca : AX} {p pos : Pos} {elts : List Expr} {kk : Nat} {tpos : Pos} (ha : RA T X W [e] ca) (hm : X.mg "enumerate" = none) (hg : Gl X "enumerate" := by rfl) (hs : starEach [e] X.env = [(false, eval e X.env)] := by rfl) : RI T X W (.Tuple elts kk tpos) (.Call (.Name "enumerate" p) [e] [] pos) (cEnumA ca) := by
  obtain ⟨t, pa, f⟩ := ha
  refine ⟨_, pi_enumA hg hm pa hs, fun σ ρ F μ S H R s hE g => f σ ρ F μ S H _ s hE (GP.seq g fun ds F1 μ1 H1 S1 e1 p1 s1 g1 vs rs => ?_)⟩
  split at g1
  · rename_i d
    split at g1
    · rename_i src hsrc
      obtain ⟨v, rfl, rv⟩ := rs.inv1
      cases hl : isL d with
      | true =>
        obtain ⟨a, rfl, ⟨ws, h1⟩, h2⟩ := stand_l s1 rv hsrc hl
        exact ⟨a, rfl, .inl ⟨ws, h1, GP.here g1 s1 _ (walks_e h2)⟩⟩
      | false =>
        obtain ⟨a, rfl, ⟨ws, h1⟩, h2⟩ := stand_t s1 rv hsrc hl
        exact ⟨a, rfl, .inr ⟨ws, h1, GP.here g1 s1 _ (walks_eT h2)⟩⟩
    · exact g1.elim
  · exact g1.elim
end
end PF
set_option Elab.async false
set_option linter.all false
set_option maxRecDepth 100000
set_option maxHeartbeats 4000000
/-! PFT: sorted of a tuple of numbers. -/
namespace PF
open PySem L2 Evl PySem.Spec PyProof.Rows
section
variable {pr : Program} {wo : World} {ar : Around} {ex : Value → Shared → Prop} {st : Shared}
theorem tup_collect {p : Addr} {ws : List Value} {R : List Value → Shared → Prop} (tp : st.heap.IsTuple p ws.toArray) (len : ws.length ≤ sizeLine)
    (go : R ws { st with heap := (st.heap.push (seqObj "list" #[] 0)).update st.heap.objs.size (Obj.mapSeq (· ++ ws.toArray)) }) : wpAny (model pr wo) ar (collect (.ref p)) R ex st := by
  obtain ⟨ob, hob, hcl, nn, hdt⟩ := id tp
  have kept : (st.heap.push (seqObj "list" #[] 0)).get? p = some ob := Heap.get?_push_of_some _ hob
  have mine : (st.heap.push (seqObj "list" #[] 0)).get? st.heap.objs.size = some (seqObj "list" #[] 0) := Heap.get?_push_size _ rfl
  have is2 : (Value.type "tuple" == Value.type "tuple") = true := by rfl
  have joined : ((#[] : Array Value) ++ ws.toArray).toList = ws := by simp
  have short : (#[] ++ ws.toArray : Array Value).size ≤ sizeLine + 1 := by
    rw [Array.size_append, List.size_toArray]
    show 0 + ws.length ≤ _
    omega
  (unfold collect)
  refine wpAny_bind (wpAny_runValue (codeAny_builtin entry_proto_collect' (?_ : wpAny _ _ (do again (.builtin "list.__iadd__" ⟨[← newList [], .ref p], []⟩)) _ _ st)))
  refine wpAny_bind (wpAny_newList (wpAny_pure ⟨Code.quiet_builtin _ (by decide +kernel), codeAny_builtin entry_list_iadd' (?_ : wpAny _ _ (Builtin.List.listExtendWith (.ref st.heap.objs.size) (.ref p) (.ref st.heap.objs.size)) _ _ { st with heap := st.heap.push (seqObj "list" #[] 0) })⟩))
  (unfold Builtin.List.listExtendWith)
  refine wpAny_bind (wpAny_typeOf (T := "tuple") ⟨ob, kept, hcl⟩ ?_)
  rw [if_pos (by rw [is2, Bool.or_true])]
  refine wpAny_bind (listItems_at kept hdt (wpAny_bind (listItems_at (xs := #[]) (n := 0) mine rfl ?_)))
  rw [if_neg (by simp)]
  refine wpAny_bind (listUpdate_at (xs := #[]) (n := 0) mine rfl (wpAny_pure ?_) (Nat.zero_le _) short)
  refine wpAny_bind (m := load st.heap.objs.size) (wpAny_load (get?_update_seq mine _) ?_)
  show wpAny _ _ (pure (#[] ++ ws.toArray : Array Value).toList) R ex _
  rw [joined]
  exact wpAny_pure go
/-- as sorted_ord, of a tuple -/
theorem tup_sorted {p : Addr} {ws : List Value} {lt : Value → Value → Bool} {R : Value → Shared → Prop} (sw : SrtO.Swo lt) (tp : st.heap.IsTuple p ws.toArray) (len : ws.length ≤ sizeLine)
    (able : 2 ≤ ws.length → ∀ (hp : Heap) (b : Addr), hp.get? b = some (seqObj "list" ws.toArray 0) → (∀ c q, st.heap.get? c = some q → c ≠ b ∧ hp.get? c = some q) → SrtO.SortableO pr wo ar.in1.in1 { st with heap := hp } b ws lt)
    (go : ∀ zs : List Value, SrtO.Srtd lt zs → SrtO.Stb lt zs ws → R (.ref (st.heap.objs.size + 1)) { st with heap := sortedAll st.heap ws zs.toArray }) : wpAny (model pr wo) ar (call (.builtin "sorted") [.ref p]) R ex st := by
  generalize hq : ((st.heap.push (seqObj "list" #[] 0)).update st.heap.objs.size (Obj.mapSeq (· ++ ws.toArray))) = mid
  have sz : mid.objs.size = st.heap.objs.size + 1 := by rw [← hq, Heap.size_update, size_push']
  have made : (mid.push (seqObj "list" ws.toArray 0)).get? (st.heap.objs.size + 1) = some (seqObj "list" ws.toArray 0) := by rw [← sz]; exact Heap.get?_push_size _ rfl
  have old : ∀ c q, st.heap.get? c = some q → c ≠ st.heap.objs.size + 1 ∧ (mid.push (seqObj "list" ws.toArray 0)).get? c = some q := fun c q h => by
    have below := Heap.lt_size h
    refine ⟨Nat.ne_of_lt (Nat.lt_succ_of_lt below), Heap.get?_push_of_some _ ?_⟩
    rw [← hq, Heap.get?_update_ne _ _ _ _ (Nat.ne_of_lt below)]
    exact Heap.get?_push_of_some _ h
  refine Calls.call_function_entry kind_sorted plain_sorted entry_sorted (args_sorted1 _) ?_
  (unfold Builtin.«sorted»)
  refine wpAny_bind (m := checkCount "sorted" 1 1 _) (wpAny_pure (wpAny_bind (tup_collect tp len (wpAny_bind (wpAny_newList ?_ len)))))
  rw [hq]
  show wpAny _ _ _ _ _ { st with heap := mid.push (seqObj "list" ws.toArray 0) }
  have go2 : ∀ zs : List Value, SrtO.Srtd lt zs → SrtO.Stb lt zs ws → R (.ref (st.heap.objs.size + 1)) { st with heap := sortedHeap (mid.push (seqObj "list" ws.toArray 0)) (st.heap.objs.size + 1) ws zs.toArray } := fun zs h1 h2 => by
    have := go zs h1 h2
    unfold sortedAll at this
    rw [hq] at this
    exact this
  rw [sz]
  exact wpAny_bind (wpAny_holding (wpAny_call_entry slot_list_sort ⟨_, made, rfl⟩ entry_list_sort (SrtO.list_sort_ord sw made len (fun h2 => able h2 _ _ made old) fun zs h1 h2 => ⟨_, rfl, wpAny_pure ⟨_, rfl, go2 zs h1 h2⟩⟩) (args_list_sort _)))
end
section
variable {X : Cx} {T : List (Addr × Str)}
def rSortedTI (K : PySem.W.Frag) : List V → Hp → VK → Prop := fun xs H Q => ∃ (b : Addr) (is : List Int), xs = [V.ref b] ∧ SqT K H b (is.map V.int) ∧
  ∀ (js : List Int) (c : Addr), js.Perm is → js.Pairwise (· ≤ ·) → H c = none → Q (.ref c) (upd H c (.lst (js.map V.int)))
theorem cr_sortedTI : CallR X (.builtin "sorted") (rSortedTI X.K) := by
  intro pn sh σ H xs us Q I rel h
  obtain ⟨b, is, rfl, ht, q⟩ := h
  obtain ⟨its, rv, tp, hz⟩ := I.tuple ht
  rw [Vals.ref1 rel]
  have hI := rv.ints
  have len2 : its.length ≤ sizeLine := by rw [← rv.length]; exact hz
  refine tup_sorted SrtO.swo_int tp len2 (fun h2 _ _ _ _ => SrtO.ints_sortable hI h2) fun zs h1 h2 => ?_
  obtain ⟨i1, i2, i3⟩ := SrtO.ints_out hI h1 h2
  obtain ⟨ep, hep⟩ := PyProof.Rows.sortedAll_at sh.heap its zs.toArray
  have lenz : ((zs.map SrtO.iv).map V.int).length ≤ sizeLine := by
    rw [List.length_map, i2.length_eq]
    rw [List.length_map] at hz
    exact hz
  have J := I.laid (t' := sh.toks) (fun _ _ => PyProof.Rows.sortedAll_old) (Nat.le_succ _) (show ObjOk X.prog X.w _ _ _ (.lst ((zs.map SrtO.iv).map V.int)) from ⟨lenz, zs, ep, vals_of_ints i1, hep⟩)
  exact ⟨.ref _, _, J, rfl, q _ _ i2 i3 (I.hok.fresh (Nat.le_succ _))⟩
def bSortedTI : OpB := fun ds S => match ds with
  | [.tup xs] => (match intsOf xs with
    | some ns => some (.ok (.lst ((sortI ns).map D.int)), S)
    | none => none)
  | _ => none
theorem bSortedTI_ok : BltOk X T true (rSortedTI X.K) bSortedTI := by
  intro F μ S H ds vs Q er s rs h
  unfold bSortedTI at h
  split at h
  · rename_i xs
    split at h
    · rename_i ns hn
      obtain ⟨v, rfl, r⟩ := rs.inv1
      obtain ⟨b, ws, rfl, h1, h2⟩ := asT_ok s r (ds := xs) rfl
      rw [ints_rep h2 hn] at h1
      refine ⟨b, ns, rfl, h1, fun js c k1 k2 hc => ?_⟩
      have e : js = sortI ns := sorted_unique (k1.trans (sortI_perm ns).symm) k2 (sortI_sorted ns)
      subst e
      exact gp_lst h s (reps_ints _) c hc
    · exact h.elim
  · exact h.elim
/-- of a list or a tuple -/
def bSortedA : OpB := fun ds S => match bSortedTI ds S with
  | some r => some r
  | none => bSorted ds S
theorem BltOk.or {fr : Bool} {r r' : List V → Hp → VK → Prop} {o o' : OpB} (h : BltOk X T fr r o) (h' : BltOk X T fr r' o') : BltOk X T fr (fun xs H Q => r xs H Q ∨ r' xs H Q) (fun ds S => match o ds S with
  | some r => some r
  | none => o' ds S) := by
  intro F μ S H ds vs Q er s rs g
  cases e : o ds S with
  | none =>
    simp only [e] at g
    exact .inr (h' F μ S H ds vs Q er s rs g)
  | some z =>
    simp only [e] at g
    exact .inl (h F μ S H ds vs Q er s rs (by rw [e]; exact g))
theorem cr_sortedA : CallR X (.builtin "sorted") (fun xs H Q => rSortedTI X.K xs H Q ∨ rSortedI X.K xs H Q) := cr_sortedTI.or cr_sortedI
theorem bSortedA_ok : BltOk X T true (fun xs H Q => rSortedTI X.K xs H Q ∨ rSortedI X.K xs H Q) bSortedA := bSortedTI_ok.or bSorted_ok
end
end PF
set_option Elab.async false
set_option linter.all false
set_option maxRecDepth 100000
set_option maxHeartbeats 4000000
/-! PFS: places in a text; the makers' tables. -/
namespace PF
open PySem L2 Evl PySem.Spec PyProof.Rows
def noE : Expr := .Name "" ⟨0, 0, 0, 0⟩
def noS : Stmt := .Pass ⟨0, 0, 0, 0⟩
def nthS (b : List Stmt) (i : Nat) : Stmt := b.getD i noS
def stE : Stmt → Expr
  | .Assign _ v _ => v
  | .Return (some v) _ => v
  | .Expr v _ => v
  | .AugAssign _ _ v _ => v
  | .If t _ _ _ => t
  | .While t _ _ _ => t
  | .For _ i _ _ _ => i
  | _ => noE
def stB (i : Nat) : Stmt → Stmt
  | .If _ b _ _ => nthS b i
  | .While _ b _ _ => nthS b i
  | .For _ _ b _ _ => nthS b i
  | _ => noS
def stO (i : Nat) : Stmt → Stmt
  | .If _ _ b _ => nthS b i
  | _ => noS
def exA (i : Nat) : Expr → Expr
  | .Call _ as _ _ => as.getD i noE
  | .Compare _ _ as _ => as.getD i noE
  | .BoolOp _ as _ => as.getD i noE
  | .Tuple as _ _ => as.getD i noE
  | .List as _ => as.getD i noE
  | _ => noE
def exK (i : Nat) : Expr → Expr
  | .Call _ _ ks _ => (ks[i]?.map (·.value)).getD noE
  | _ => noE
def ex0 : Expr → Expr
  | .IfExp t _ _ _ => t
  | _ => noE
def ex1 : Expr → Expr
  | .IfExp _ a _ _ => a
  | .BinOp a _ _ _ => a
  | .Compare a _ _ _ => a
  | .UnaryOp _ a _ => a
  | .Subscript a _ _ => a
  | _ => noE
def ex2 : Expr → Expr
  | .IfExp _ _ b _ => b
  | .BinOp _ _ b _ => b
  | _ => noE
def lamAt (q : Str) : Expr → LamSite
  | .Lambda a b s _ => ⟨a, b, s, q⟩
  | _ => ⟨⟨[], [], none, [], [], none, []⟩, noE, ⟨.function, [], false, false, []⟩, q⟩
/-! ### how a new list is held -/
inductive Held : EX → EX → Prop
  | val {c : EX} : Held c c
  | loc {c : EX} : Held c (cAlloc c)
section
variable {X : Cx} {T : List (Addr × Str)} {W : WX} {fr : Bool}
theorem rs_setLh {os : List Nat} {i : Nat} {y : Str} {elt tg iter : Expr} {ifs : List Expr} {scope : Scope} {own : List (Str × Nat)} {js : List Nat} {pos spos py : Pos} {ci : IX} {ct : TX} {cb : BX} {ce c2 : EX} (hd : Held (cComp ci os ct cb ce) c2) (hc : X.calm = true) (hN : X.N.Nodup)
    (ok : BlkOk X.N X.env.scope scope own) (hos : own.map (·.2) = os) (hjs : ∀ j ∈ js, j ∈ os) (hi : RI T X W tg iter ci)
    (hg : ∀ (s : Shared) (H : Hp) (C : Addr) (cl : List (Str × Addr)) (fp : List Addr), RG T (X.blk s H scope (compEnvC scope cl C X.env) fp) js tg ct) (ht : ∀ (s : Shared) (H : Hp) (C : Addr) (cl : List (Str × Addr)) (fp : List Addr), RTs T (X.blk s H scope (compEnvC scope cl C X.env) fp) WF ifs cb)
    (he : ∀ (s : Shared) (H : Hp) (C : Addr) (cl : List (Str × Addr)) (fp : List Addr), RE T false (X.blk s H scope (compEnvC scope cl C X.env) fp) WF elt ce)
    (hsw : swapsWith (.ListComp elt [⟨tg, iter, ifs, 0⟩] scope pos) (some (.Name y py)) spos.line X.env = pure true) (hy : X.N[i]? = some y := by rfl) (hyl : X.env.scope.names.lookup y = some .local := by rfl) (hs : ∀ x, foldedSetIterable iter X.env x = pure x := by intro _; rfl) :
    RS T fr X W (.Assign [.Name y py] (.ListComp elt [⟨tg, iter, ifs, 0⟩] scope pos) spos) (sSet i c2) := by
  cases hd with
  | val => exact rs_setLc hc hN ok hos hjs hi hg ht he _ hold_val hsw hy hyl hs
  | loc => exact rs_setLc hc hN ok hos hjs hi hg ht he _ hold_loc hsw hy hyl hs
end
/-! ### the makers -/
def qualL (p : He.Defn) : Str := p.1 ++ ".<locals>.<lambda>"
def tabsL (tf : List He.Defn) (K : PySem.W.Frag) : List (Addr × Str) := tf.map fun p => ((He.cT K p).2, qualL p)
def apartL (tf : List He.Defn) (K : PySem.W.Frag) : Bool := decide (tf.Pairwise fun p q => (He.cT K p).2 ≠ (He.cT K q).2)
theorem code_of {K : PySem.W.Frag} {p : Str × Option Str} {x qual : Str} {params : Arguments} {body : List Stmt} {scope : Scope} {dvs : List V} {kws : List (Str × V)} {fd : FuncData} (FD : FunD K x qual params body scope dvs kws (He.fAd K p) fd) : fd.code = .ref (He.codeOf K p) := by
  obtain ⟨oc, od, dV, kV, doc, pm, an, cdv, ct, osl, rfl, lk, hcd, _, _⟩ := FD.ex
  obtain ⟨c, rfl⟩ := He.codeIn_ref hcd
  rw [He.codeOf_eq lk rfl]
theorem apart_pick {α β : Type} {f : α → β} {q : α} : ∀ {l : List α} {p : α}, l.Pairwise (fun x y => f x ≠ f y) → p ∈ l → q ∈ l → f p = f q → p = q
  | x :: l, p, h, hp, hq, e => by
    obtain ⟨h1, h2⟩ := List.pairwise_cons.mp h
    rcases List.mem_cons.mp hp with rfl | hp'
    · rcases List.mem_cons.mp hq with rfl | hq'
      · rfl
      · exact absurd e (h1 q hq')
    · rcases List.mem_cons.mp hq with rfl | hq'
      · exact absurd e.symm (h1 p hp')
      · exact apart_pick h2 hp' hq' e
theorem uniqL {tf : List He.Defn} {K : PySem.W.Frag} (h : apartL tf K = true) {a : He.Defn} (ha : a ∈ tf) : ∀ p ∈ tabsL tf K, p.1 = (He.cT K a).2 → p.2 = qualL a := by
  intro p hp e
  obtain ⟨b, hb, rfl⟩ := List.mem_map.mp hp
  rw [apart_pick (f := fun p => (He.cT K p).2) (of_decide_eq_true h) hb ha e]
theorem memL {tf : List He.Defn} {K : PySem.W.Frag} {a : He.Defn} (ha : a ∈ tf) : ((He.cT K a).2, qualL a) ∈ tabsL tf K := List.mem_map.mpr ⟨a, ha, rfl⟩
/-- what a maker's derivation asks -/
theorem makes {tf : List He.Defn} {K : PySem.W.Frag} {mg : Str → Option Value} {base : Heap} {x : Str} {params : Arguments} {body : List Stmt} {scope : Scope} {fd : FuncData} (a : He.Defn) (h : apartL tf K = true) (ha : a ∈ tf) (tb : ∀ p ∈ tf.map (He.cT K), LamX.TabB base mg p.1 p.2) (FD : FunD K x x params body scope [] [] (He.fAd K a) fd) (hm : mg x = some (.ref (He.fAd K a))) :
    ∃ f fd c P, FunD K x x params body scope [] [] f fd ∧ mg x = some (.ref f) ∧ fd.code = .ref c ∧ LamX.TabB base mg c P ∧ (P, qualL a) ∈ tabsL tf K ∧ ∀ p ∈ tabsL tf K, p.1 = P → p.2 = qualL a :=
  ⟨_, fd, _, _, FD, hm, code_of FD, tb _ (List.mem_map.mpr ⟨a, ha, rfl⟩), memL ha, uniqL h ha⟩
end PF
set_option Elab.async false
set_option linter.all false
set_option maxRecDepth 100000
set_option maxHeartbeats 4000000
/-! PFJ: defs as values, tables of the module, a try that runs through, sorted(set(..)) of ints, insert. -/
namespace PF
open PySem L2 Evl PySem.Spec PyProof.Rows
section
variable {X : Cx} {T : List (Addr × Str)} {W : WX} {x : Str} {pos : Pos}
/-- a name of the module: a def, a table -/
theorem re_gfn (hm : X.mg x = some (.ref (He.ga X.K x))) (hg : Gl X x := by rfl) (hd : (x == ("__debug__" : Str)) = false := by decide) : RE T false X W (.Name x pos) (cK (.gfn x)) :=
  ⟨_, pe_glob (v := .ref (He.ga X.K x)) hg hm rfl hd, fun σ ρ F μ S H Q s hE g => gp_val g s .gfn⟩
/-! ### tables -/
/-- the table x: what it has for some keys -/
structure TabF (K : PySem.W.Frag) (w : World) (x : Str) (t : List (Str × Option D)) : Prop where
  kd : ∃ es n, KDict K w (He.ga K x) es n
  has : ∀ p ∈ t, match p.2 with
    | some d => ∃ u v, PySem.W.nsIn K (He.ga K x) p.1 = some (some u) ∧ RelV v u ∧ ∀ F μ, Rep K F μ d v
    | none => PySem.W.nsIn K (He.ga K x) p.1 = some none
def lkT (z : Str) : List (Str × Option D) → Option (Option D)
  | [] => none
  | p :: t => if z = p.1 then some p.2 else lkT z t
theorem lkT_mem {z : Str} : ∀ {t : List (Str × Option D)} {o : Option D}, lkT z t = some o → (z, o) ∈ t
  | [], _, h => by cases h
  | p :: t, o, h => by
    simp only [lkT] at h
    split at h
    · rename_i e; cases h; subst e; exact List.mem_cons_self
    · exact List.mem_cons_of_mem _ (lkT_mem h)
def oTabIn (neg : Bool) (x : Str) (t : List (Str × Option D)) : Op2 := fun a b S => match a, b with
  | .str z, .gfn x' => if x' = x then (match lkT z t with
    | some o => some (.ok (.bl (if neg then !o.isSome else o.isSome)), S)
    | none => none) else none
  | _, _ => none
def oTabGet (x : Str) (t : List (Str × Option D)) : Op2 := fun b a S => match a, b with
  | .str z, .gfn x' => if x' = x then (match lkT z t with
    | some (some d) => some (.ok d, S)
    | _ => none) else none
  | _, _ => none
theorem tab_some {K : PySem.W.Frag} {w : World} {t : List (Str × Option D)} {z : Str} {o : Option D} (tf : TabF K w x t) (h : lkT z t = some o) : ∃ r, PySem.W.nsIn K (He.ga K x) z = some r ∧ r.isSome = o.isSome := by
  have := tf.has _ (lkT_mem h)
  cases o with
  | none => exact ⟨none, this, rfl⟩
  | some d => obtain ⟨u, v, h1, _⟩ := this; exact ⟨some u, h1, rfl⟩
theorem op_tabIn {t : List (Str × Option D)} (tf : TabF X.K X.w x t) : ∃ r, OpR X (compareOp .In) r ∧ OpOk X T false r (oTabIn false x t) := by
  obtain ⟨es, n, kd⟩ := tf.kd
  refine ⟨_, op_in_kd kd, ?_⟩
  intro F μ S H a b v u Q er s ra rb g
  unfold oTabIn at g
  split at g
  · split at g
    · rename_i e; subst e
      split at g
      · rename_i o ho
        cases ra; cases rb
        obtain ⟨r, h1, h2⟩ := tab_some tf ho
        refine ⟨_, r, rfl, rfl, h1, ?_⟩
        rw [h2]; exact gp_val g s (.bl _)
      · exact g.elim
    · exact g.elim
  · exact g.elim
theorem op_tabNin {t : List (Str × Option D)} (tf : TabF X.K X.w x t) : ∃ r, OpR X (compareOp .NotIn) r ∧ OpOk X T false r (oTabIn true x t) := by
  obtain ⟨es, n, kd⟩ := tf.kd
  refine ⟨_, op_notIn_kd kd, ?_⟩
  intro F μ S H a b v u Q er s ra rb g
  unfold oTabIn at g
  split at g
  · split at g
    · rename_i e; subst e
      split at g
      · rename_i o ho
        cases ra; cases rb
        obtain ⟨r, h1, h2⟩ := tab_some tf ho
        refine ⟨_, r, rfl, rfl, h1, ?_⟩
        rw [h2]; exact gp_val g s (.bl _)
      · exact g.elim
    · exact g.elim
  · exact g.elim
theorem re_cmpX {op : CmpOp} {o : Op2} {e1 e2 : Expr} {a b : EX} {pos : Pos} (h : ∃ r, OpR X (compareOp op) r ∧ OpOk X T false r o) (ha : RE T false X W e1 a) (hb : RE T false X W e2 b) (hm : behindInMarks op e2 = false) : RE T false X W (.Compare e1 [op] [e2] pos) (cBin o a b) := by
  obtain ⟨r, hr, ho⟩ := h
  exact re_cmp hr ho ha hb hm
theorem rt_cmpX {op : CmpOp} {o : Op2} {e1 e2 : Expr} {a b : EX} {pos : Pos} (h : ∃ r, OpR X (compareOp op) r ∧ OpOk X T false r o) (ha : RE T false X W e1 a) (hb : RE T false X W e2 b) (hm : behindInMarks op e2 = false) : RT T X W (.Compare e1 [op] [e2] pos) (cTest (cBin o a b)) := by
  obtain ⟨r, hr, ho⟩ := h
  exact rt_cmp hr ho ha hb hm
/-- TABLE[key] -/
theorem re_tabGet {t : List (Str × Option D)} {e1 e2 : Expr} {a b : EX} (tf : TabF X.K X.w x t) (ha : RE T false X W e1 a) (hb : RE T false X W e2 b) (hs : NoSl e2) : RE T false X W (.Subscript e1 e2 pos) (cBin (oTabGet x t) a b) := by
  obtain ⟨es, n, kd⟩ := tf.kd
  obtain ⟨ta, pa, fa⟩ := ha
  obtain ⟨tb, pb, fb⟩ := hb
  refine ⟨fun σ H Q => ta σ H fun x1 H1 => tb σ H1 fun y H2 => ∃ (z : Str) (u0 : Value) (v0 : V), x1 = .ref (He.ga X.K x) ∧ y = .str z ∧ PySem.W.nsIn X.K (He.ga X.K x) z = some (some u0) ∧ RelV v0 u0 ∧ Q v0 H2, ⟨fun pins s σ H Q I h => ?_⟩, fun σ ρ F μ S H Q s hE g => ?_⟩
  · refine subD_of PySem.F.slot_dict_getitem.lookup hs (thn (pa.run pins s σ H _ I h) fun u s1 ⟨x1, H1, I1, rx, q1⟩ => thn (pb.run pins s1 σ H1 _ I1 q1) fun iv s2 ⟨y, H2, I2, ry, z, u0, v0, e1, e2, e3, rv, q2⟩ => ?_)
    subst e1; subst e2
    obtain rfl : u = Value.ref (He.ga X.K x) := rx
    exact ⟨kd_type kd I2, op_item_kd kd pins s2 σ H2 (.ref (He.ga X.K x)) (.str z) _ _ _ I2 rfl ry ⟨z, u0, v0, rfl, rfl, e3, rv, q2⟩⟩
  · refine fa σ ρ F μ S H _ s hE (GP.seq g fun x1 F1 μ1 H1 S1 e1 p1 s1 g1 v rx => ?_)
    refine fb σ ρ F1 μ1 S1 H1 _ s1 (hE.mono e1 p1) (GP.seq g1 fun y F2 μ2 H2 S2 e2 p2 s2 g2 u ry => ?_)
    unfold oTabGet at g2
    split at g2
    · split at g2
      · rename_i e; subst e
        split at g2
        · rename_i d hd
          cases rx; cases ry
          obtain ⟨u0, v0, h1, h2, h3⟩ := tf.has _ (lkT_mem hd)
          exact ⟨_, u0, v0, rfl, rfl, h1, h2, gp_val g2 s2 (h3 _ _)⟩
        · exact g2.elim
      · exact g2.elim
    · exact g2.elim
/-! ### the call of a name that holds a def -/
structure Callee (P : Program) (w : World) (K : PySem.W.Frag) (mg : Str → Option Value) (base : Heap) (T : List (Addr × Str)) (k : Nat) (x : Str) (n : Nat) (o : OpB) : Prop where
  ex : ∃ params body scope ps fd, FunD K x x params body scope [] [] (He.ga K x) fd ∧ Posn params body scope x ps ∧ ps.length = n ∧ FnG P w K mg base k (He.ga K x) fd ps (spOf K mg T false n o)
theorem callee_of {P : Program} {w : World} {K : PySem.W.Frag} {mg : Str → Option Value} {base : Heap} {j k : Nat} {params : Arguments} {body : List Stmt} {scope : Scope} {ps : List Str} {o : OpB} (G : DefG P w K mg base T j x params body scope ps false o) (hp : Posn params body scope x ps) (hm : mg x = some (.ref (He.ga K x))) (l : j ≤ k) :
    Callee P w K mg base T k x ps.length o := by
  obtain ⟨f, fd, FD, hf, FG⟩ := G.ex
  have e : f = He.ga K x := by rw [hm] at hf; cases hf; rfl
  subst e
  exact ⟨params, body, scope, ps, fd, FD, hp, rfl, FG.mono l⟩
def pickO (x : Str) : List (Str × OpB) → Option OpB
  | [] => none
  | p :: l => if x = p.1 then some p.2 else pickO x l
theorem pickO_mem {x : Str} : ∀ {l : List (Str × OpB)} {o : OpB}, pickO x l = some o → (x, o) ∈ l
  | [], _, h => by cases h
  | p :: t, o, h => by
    simp only [pickO] at h
    split at h
    · rename_i e; cases h; subst e; exact List.mem_cons_self
    · exact List.mem_cons_of_mem _ (pickO_mem h)
def cCallGs (i n : Nat) (l : List (Str × OpB)) (r : AX) : EX := fun ρ S => match ρ[i]? with
  | some (some (.gfn x)) => (match pickO x l with
    | some o => bindO (r ρ S) fun ds S => if ds.length = n then o ds S else none
    | none => none)
  | _ => none
theorem re_callGs {k i n : Nat} {a : Str} {l : List (Str × OpB)} {e : Expr} {es : List Expr} {p : Pos} {c : AX} (G : ∀ q ∈ l, Callee X.prog X.w X.K X.mg X.base T k q.1 n q.2) (hr : Room k X.A) (hgu : X.A.guards = some []) (hx : ∀ σ, PassesAt (L2.CX X.prog X.w) X σ fun cls d H => W cls d σ H)
    (ha : RA T X W (e :: es) c) (hN : X.N[i]? = some a := by rfl) (hv : Vis X.env.scope a := by first | exact Or.inl rfl | exact Or.inr (Or.inl rfl) | exact Or.inr (Or.inr rfl)) (hd : (a == ("__debug__" : Str)) = false := by decide) (hcd : (a == ("__classdict__" : Str)) = false := by decide)
    (he : starEach (e :: es) X.env = (false, eval e X.env) :: starEach es X.env := by rfl) (hpl : (backTo pos (starEach es X.env)).any (·.1) = false := by rfl) :
    RE T false X W (.Call (.Name a p) (e :: es) [] pos) (cCallGs i n l c) := by
  obtain ⟨t, pa, rd⟩ := ha
  refine ⟨fun σ H Q => ∃ x o, σ[i]? = some (some (.ref (He.ga X.K x))) ∧ pickO x l = some o ∧ t σ H fun vs H1 => spOf X.K X.mg T false n o vs H1 Q (fun cls d H => W cls d σ H), ⟨fun pins s σ H Q I h => ?_⟩, fun σ ρ F μ S H Q s hE g => ?_⟩
  · obtain ⟨x, o, hs, ho, ht⟩ := h
    obtain ⟨params, body, scope, ps, fd, FD, hp, hn, FG⟩ := (G _ (pickO_mem ho)).ex
    refine wpAny_Call_Name_kw (thn ((pe_var (pos := p) (i := i) hN hv hd hcd).run pins s σ H (fun v H1 => v = .ref (He.ga X.K x) ∧ H1 = H) I ⟨.ref (He.ga X.K x), hs, rfl, rfl⟩) fun u s1 ⟨v, H1, I1, r1, q1⟩ => ?_)
    obtain ⟨rfl, rfl⟩ := q1
    obtain rfl : u = Value.ref (He.ga X.K x) := r1
    refine PySem.W.callWith_K (h₀ := X.base) I.ok.mod.kin FD.kp (thn (pa.run pos pins s1 σ _ _ I1 ht) fun us s2 ⟨vs, H2, I2, r, q⟩ => ⟨I2.kIn, ?_⟩) he hpl
    obtain ⟨kV, doc, pm, an, cdv, ct, rfl⟩ := FunD.to FD
    have hl : us.length = ps.length := by
      obtain ⟨_, _, _, _, _, _, hl, _⟩ := id q
      rw [← r.length, hn]; exact hl
    exact run_g (us := us) FG hr hgu (.of_eq (hp _ _ _ _ _ _ us hl)) (hx σ) I2 r q
  · unfold cCallGs at g
    split at g
    · rename_i x hρ
      split at g
      · rename_i o ho
        obtain ⟨v, hs, rv⟩ := hE.2 i _ hρ
        cases rv
        refine ⟨x, o, hs, ho, rd σ ρ F μ S H _ s hE (GP.seq g fun ds F1 μ1 H1 S1 e1 p1 s1 g1 vs rs => ?_)⟩
        split at g1
        · rename_i hn
          exact ⟨F1, μ1, S1, ds, s1, rs, by rw [← rs.length]; exact hn, g1⟩
        · exact g1.elim
      · exact g.elim
    · exact g.elim
theorem one_callee {P : Program} {w : World} {K : PySem.W.Frag} {mg : Str → Option Value} {base : Heap} {k n : Nat} {x : Str} {o : OpB} (c : Callee P w K mg base T k x n o) : ∀ q ∈ [(x, o)], Callee P w K mg base T k q.1 n q.2 := fun q hq => by
  rw [List.mem_singleton.mp hq]; exact c
theorem no_callee {P : Program} {w : World} {K : PySem.W.Frag} {mg : Str → Option Value} {base : Heap} {k n : Nat} : ∀ q ∈ ([] : List (Str × OpB)), Callee P w K mg base T k q.1 n q.2 := fun q hq => by cases hq
theorem more_callee {P : Program} {w : World} {K : PySem.W.Frag} {mg : Str → Option Value} {base : Heap} {k n : Nat} {x : Str} {o : OpB} {l : List (Str × OpB)} (c : Callee P w K mg base T k x n o) (h : ∀ q ∈ l, Callee P w K mg base T k q.1 n q.2) : ∀ q ∈ (x, o) :: l, Callee P w K mg base T k q.1 n q.2 := fun q hq => by
  rcases List.mem_cons.mp hq with e | hq
  · rw [e]; exact c
  · exact h q hq
/-! ### a try whose body lets nothing out -/
def sThru (b : SX) : SX := fun ρ S => match b ρ S with
  | some (.ok (.exc _ _), _) => none
  | r => r
theorem rs_thru {fr : Bool} {body : List Stmt} {h0 : ExceptHandler} {hs : List ExceptHandler} {b : SX} (h : RSs T fr X.nox WF body b) : RS T fr X W (.Try body (h0 :: hs) [] [] pos) (sThru b) := by
  obtain ⟨t, p, f⟩ := h
  refine ⟨_, ps_try_thru0 p, fun σ ρ F μ S H D s hE g => f σ ρ F μ S H D s hE ?_⟩
  unfold sThru at g
  match hb : b ρ S with
  | none => rw [hb] at g; exact g
  | some (.error y, S') => rw [hb] at g; exact g
  | some (.ok (.nx ρ'), S') => rw [hb] at g; exact g
  | some (.ok (.brk ρ'), S') => rw [hb] at g; exact g
  | some (.ok (.ct ρ'), S') => rw [hb] at g; exact g
  | some (.ok (.ret d), S') => rw [hb] at g; exact g
  | some (.ok (.exc y ρ'), S') => rw [hb] at g; exact g.elim
theorem pass_nox : ∀ σ, PassesAt (L2.CX X.nox.prog X.nox.w) X.nox σ fun cls d H => WF cls d σ H := fun σ pins H s e s' I h => by
  obtain ⟨_, _, _, _, _, _, _, _, _, _, _, _, z⟩ := h
  exact z.elim
/-! ### sorted(set(xs)) -/
def uniqI : List Int → List Int
  | x :: y :: r => if x = y then uniqI (y :: r) else x :: uniqI (y :: r)
  | l => l
theorem mem_uniqI : ∀ {l : List Int} {k : Int}, k ∈ uniqI l ↔ k ∈ l
  | [], _ => Iff.rfl
  | [x], _ => Iff.rfl
  | x :: y :: r, k => by
    unfold uniqI
    split
    · rename_i e
      rw [mem_uniqI (l := y :: r), e]
      constructor
      · exact List.mem_cons_of_mem _
      · intro h
        rcases List.mem_cons.mp h with h | h
        · rw [h]; exact List.mem_cons_self
        · exact h
    · rw [List.mem_cons, List.mem_cons, mem_uniqI (l := y :: r)]
theorem uniqI_lt : ∀ {l : List Int}, l.Pairwise (· ≤ ·) → (uniqI l).Pairwise (· < ·)
  | [], _ => .nil
  | [x], _ => by simp [uniqI]
  | x :: y :: r, h => by
    rw [List.pairwise_cons] at h
    unfold uniqI
    split
    · exact uniqI_lt h.2
    · rename_i e
      refine List.pairwise_cons.mpr ⟨fun z hz => ?_, uniqI_lt h.2⟩
      have hz := mem_uniqI.mp hz
      have h1 := h.1 y List.mem_cons_self
      have h2 : y ≤ z := by
        rcases List.mem_cons.mp hz with e2 | hz
        · omega
        · exact (List.pairwise_cons.mp h.2).1 z hz
      omega
theorem lt_unique : ∀ {a b : List Int}, a.Pairwise (· < ·) → b.Pairwise (· < ·) → (∀ k, k ∈ a ↔ k ∈ b) → a = b := by
  intro a b ha hb h
  have na : a.Nodup := ha.imp fun h e => absurd (e ▸ h) (Int.lt_irrefl _)
  have nb : b.Nodup := hb.imp fun h e => absurd (e ▸ h) (Int.lt_irrefl _)
  exact sorted_unique ((List.perm_ext_iff_of_nodup na nb).mpr h) (ha.imp Int.le_of_lt) (hb.imp Int.le_of_lt)
end
end PF
set_option Elab.async false
set_option linter.all false
set_option maxRecDepth 100000
set_option maxHeartbeats 4000000
/-! PFY: instances of the program's classes: made, their fields, properties, methods. -/
namespace PF
open PySem L2 Evl PySem.Spec PyProof.Rows
/-! ### fields -/
def decF : List D → Option (List Str × List D)
  | [] => some ([], [])
  | .str f :: d :: r => (decF r).map fun p => (f :: p.1, d :: p.2)
  | _ => none
theorem decF_enc : ∀ {ns : List Str} {es : List D}, ns.length = es.length → decF (encF ns es) = some (ns, es)
  | [], [], _ => rfl
  | n :: ns, d :: ds, h => by
    simp only [encF, decF]
    rw [decF_enc (ns := ns) (es := ds) (by simpa using h)]; rfl
/-- the fields of an instance of c -/
def fieldsOf (c : Str) : D → Store → Option (List Str × List D)
  | .ins c' ns ds, _ => if c' = c then some (ns, ds) else none
  | .obj c' n, S => if c' = c then (match S[n]? with
    | some es => decF es
    | none => none) else none
  | _, _ => none
def lkF (f : Str) : List Str → List D → Option D
  | n :: ns, d :: ds => if f = n then some d else lkF f ns ds
  | _, _ => none
section
variable {K : PySem.W.Frag} {T : List (Addr × Str)} {F H : Hp} {μ : List MA} {S : Store} {d : D} {v : V}
theorem lk_zip {f : Str} : ∀ {ns : List Str} {ds : List D} {vs : List V} {y : D}, Reps K F μ ds vs → lkF f ns ds = some y → ∃ u, (ns.zip vs).lookup f = some u ∧ Rep K F μ y u
  | [], _, _, _, _, h => by simp [lkF] at h
  | _ :: _, [], _, _, .nil, h => by simp [lkF] at h
  | n :: ns, d :: ds, v :: vs, y, .cons r rs, h => by
    simp only [lkF] at h
    by_cases e : f = n
    · rw [if_pos e] at h; cases h
      refine ⟨v, ?_, r⟩
      rw [List.zip_cons_cons, List.lookup_cons, e, beq_self_eq_true]
    · rw [if_neg e] at h
      obtain ⟨u, h1, h2⟩ := lk_zip rs h
      refine ⟨u, ?_, h2⟩
      rw [List.zip_cons_cons, List.lookup_cons, beq_false_of_ne e]
      exact h1
theorem lk_none {f : Str} : ∀ {ns : List Str} {ds : List D} {vs : List V}, Reps K F μ ds vs → ns.length = ds.length → lkF f ns ds = none → (ns.zip vs).lookup f = none
  | [], [], _, .nil, _, h => rfl
  | n :: ns, d :: ds, v :: vs, .cons r rs, hl, h => by
    simp only [lkF] at h
    by_cases e : f = n
    · rw [if_pos e] at h; cases h
    · rw [if_neg e] at h
      rw [List.zip_cons_cons, List.lookup_cons, beq_false_of_ne e]
      exact lk_none rs (by simpa using hl) h
theorem fields_ok {c : Str} {ns : List Str} {ds : List D} (s : SR K T F μ S H) (r : Rep K F μ d v) (h : fieldsOf c d S = some (ns, ds)) :
    ∃ a dx vs, v = .ref a ∧ H a = some (.ins (He.ga K c) dx (ns.zip vs)) ∧ Reps K F μ ds vs ∧ ns.length = ds.length := by
  cases r with
  | ins h1 h2 h3 =>
    simp only [fieldsOf] at h
    split at h
    · rename_i e
      cases h
      subst e
      exact ⟨_, _, _, rfl, s.ex _ _ h1, h3, h2⟩
    · cases h
  | obj hm =>
    simp only [fieldsOf] at h
    split at h
    · rename_i e
      subst e
      obtain ⟨es, h1, h2, h3, hc⟩ := s.at hm
      rw [h1] at h
      cases hc with
      | ins k1 k2 k3 =>
        dsimp only at h
        rw [decF_enc k1] at h
        cases h
        exact ⟨_, _, _, rfl, k2, k3, k1⟩
    · cases h
  | _ => simp [fieldsOf] at h
end
/-- what the written part says of a class -/
structure ClsI (K : PySem.W.Frag) (c : Str) : Prop where
  cl : Cls K (He.ga K c)
  ha : PySem.W.findIn K (.ref (He.ga K c)) "__class__" = some (some (.builtin "object.__class__"))
  hn : PySem.W.specialIn K (.builtin "object.__class__") "__get__" = some (some (.builtin "getset_descriptor.__get__"))
  ht : PySem.W.takesIn K (.builtin "object.__class__") = some true
  hm : PySem.W.mroIn K (He.ga K c) (.type "object") = some true
  kp : PySem.W.keepIn K (.ref (He.ga K c)) = true
section
variable {X : Cx} {T : List (Addr × Str)} {W : WX} {k : Nat} {c m f q : Str} {e o : Expr} {es : List Expr} {a : EX} {ca : AX} {pos apos : Pos}
/-- o.f -/
def cFld (c f : Str) (a : EX) : EX := fun ρ S => bindO (a ρ S) fun d S => match fieldsOf c d S with
  | some (ns, ds) => (match lkF f ns ds with
    | some y => some (.ok y, S)
    | none => none)
  | none => none
theorem re_fld (hc : ClsI X.K c) (hn : NoAttr X.K (He.ga X.K c) f) (ha : RE T false X W e a) (hb : attributeBase e f X.env (eval e X.env) = eval e X.env := by rfl) : RE T false X W (.Attribute e f pos) (cFld c f a) := by
  obtain ⟨t, pe, rd⟩ := ha
  refine ⟨_, pe_fld pe hb, fun σ ρ F μ S H Q s hE g => ?_⟩
  refine rd σ ρ F μ S H _ s hE (GP.seq g fun d F1 μ1 H1 S1 e1 p1 s1 g1 v rv => ?_)
  split at g1
  · rename_i ns ds hf
    split at g1
    · rename_i y hy
      obtain ⟨x, dx, vs, rfl, h1, h2, h3⟩ := fields_ok s1 rv hf
      obtain ⟨u, h4, h5⟩ := lk_zip h2 hy
      exact ⟨x, _, dx, _, u, rfl, h1, hc.cl, hn, h4, gp_val g1 s1 h5⟩
    · exact g1.elim
  · exact g1.elim
/-- o.f = e -/
def putN (f : Str) (y : D) : List Str → List D → List Str × List D
  | n :: ns, d :: ds => if n = f then (n :: ns, y :: ds) else let p := putN f y ns ds; (n :: p.1, d :: p.2)
  | _, _ => ([f], [y])
def sFldS (c f : Str) (o a : EX) : SX := fun ρ S => stm ρ (a ρ S) fun y S => stm ρ (o ρ S) fun x S => match x with
  | .obj c' n => if c' = c ∧ y.pure = true then (match S[n]? with
    | some es => (match decF es with
      | some (ns, ds) => if ns.length < 900 then some (.ok (.nx ρ), S.set n (encF (putN f y ns ds).1 (putN f y ns ds).2)) else none
      | none => none)
    | none => none) else none
  | _ => none
theorem putN_ok {K : PySem.W.Frag} {F : Hp} {μ : List MA} {f : Str} {y : D} {u : V} (ry : Rep K F μ y u) : ∀ {ns : List Str} {ds : List D} {vs : List V}, Reps K F μ ds vs → ns.length = ds.length →
    ∃ vs', putF f u (ns.zip vs) = (putN f y ns ds).1.zip vs' ∧ Reps K F μ (putN f y ns ds).2 vs' ∧ (putN f y ns ds).1.length = (putN f y ns ds).2.length
  | [], [], _, .nil, _ => ⟨[u], rfl, .cons ry .nil, rfl⟩
  | n :: ns, d :: ds, v :: vs, .cons r rs, hl => by
    simp only [putN, List.zip_cons_cons, putF]
    by_cases e : n = f
    · rw [if_pos e, if_pos e]
      exact ⟨u :: vs, by rw [List.zip_cons_cons], .cons ry rs, by simpa using hl⟩
    · rw [if_neg e, if_neg e]
      obtain ⟨vs', h1, h2, h3⟩ := putN_ok ry rs (by simpa using hl)
      exact ⟨v :: vs', by rw [h1, List.zip_cons_cons], .cons r h2, by simpa using h3⟩
theorem putN_pures {f : Str} {y : D} (hy : y.pure = true) : ∀ {ns : List Str} {ds : List D}, D.pures ds = true → D.pures (putN f y ns ds).2 = true
  | [], _, _ => by simp [putN, D.pures, hy]
  | _ :: _, [], _ => by simp [putN, D.pures, hy]
  | n :: ns, d :: ds, h => by
    simp only [D.pures, Bool.and_eq_true] at h
    simp only [putN]
    split
    · simp [D.pures, hy, h.2]
    · simp [D.pures, h.1, putN_pures hy h.2]
theorem rs_fld {fr : Bool} {cy co : EX} {pos' : Pos} (hc : ClsI X.K c) (hn : NoAttr X.K (He.ga X.K c) f) (ho : RE T false X W o co) (hy : RE T false X W e cy) (hs : swapsWith e (some (.Attribute o f pos')) pos.line X.env = pure false := by rfl) :
    RS T fr X W (.Assign [.Attribute o f pos'] e pos) (sFldS c f co cy) := by
  obtain ⟨to, po, fo⟩ := ho
  obtain ⟨te, pe, fe⟩ := hy
  refine ⟨_, ps_fld po pe hs, fun σ ρ F μ S H D s hE g => ?_⟩
  refine fe σ ρ F μ S H _ s hE (GP.stm g hE fun y F1 μ1 H1 S1 e1 p1 s1 g1 u ru => ?_)
  have hE1 := hE.mono e1 p1
  refine fo σ ρ F1 μ1 S1 H1 _ s1 hE1 (GP.stm g1 hE1 fun x F2 μ2 H2 S2 e2 p2 s2 g2 v rv => ?_)
  split at g2
  · rename_i c' n
    split at g2
    · rename_i hcp
      obtain ⟨rfl, hp⟩ := hcp
      cases rv with
      | obj hm =>
        obtain ⟨es, h1, h2, h3, hcell⟩ := s2.at hm
        rw [h1] at g2
        cases hcell with
        | ins k1 k2 k3 =>
          dsimp only at g2
          rw [decF_enc k1] at g2
          dsimp only at g2
          split at g2
          · rename_i hlen
            obtain ⟨vs', q1, q2, q3⟩ := putN_ok (f := f) (Rep.mono e2 p2 ru) k3 k1
            refine ⟨_, _, _, _, rfl, k2, hc.cl, hn, ?_, ?_⟩
            · rw [List.length_zip]; omega
            rw [q1]
            rw [pures_encF k1] at h3
            exact GP.here (er := NoEr) g2 (s2.putM hm (.ins q3 upd_same q2) (by rw [pures_encF q3]; exact putN_pures hp h3)) σ (hE1.mono e2 p2)
          · exact g2.elim
    · exact g2.elim
  · exact g2.elim

/-! ### properties -/
/-- the getter of a property -/
structure PropG (P : Program) (w : World) (K : PySem.W.Frag) (mg : Str → Option Value) (base : Heap) (T : List (Addr × Str)) (k : Nat) (c f q : Str) (params : Arguments) (body : List Stmt) (scope : Scope) (ps : List Str) (fr : Bool) (o : OpB) : Prop where
  ex : ∃ p g fd, PropOf K (He.ga K c) f p g ∧ FunD K f q params body scope [] [] g fd ∧ FnG P w K mg base k g fd ps (spOf K mg T fr ps.length o)
def PosnQ (params : Arguments) (body : List Stmt) (scope : Scope) (x q : Str) (ps : List Str) : Prop := ∀ (kV doc pm : Value) (an : Option Addr) (cdv ct : Value) (us : List Value), us.length = ps.length → bindArgs (PySem.W.fnOf x q params body scope .none kV doc pm an cdv ct) ⟨us, []⟩ = pure (ps.zip us)
def KeynQ (params : Arguments) (body : List Stmt) (scope : Scope) (x q : Str) (ps ks : List Str) (n : Nat) (g : {α : Type} → List α → List α → List α) : Prop := ∀ (kV doc pm : Value) (an : Option Addr) (cdv ct : Value) (us ws : List Value), us.length = n → ws.length = ks.length →
  bindArgs (PySem.W.fnOf x q params body scope .none kV doc pm an cdv ct) ⟨us, ks.zip ws⟩ = pure (ps.zip (g us ws))
def cProp (c : Str) (o : OpB) (a : EX) : EX := fun ρ S => bindO (a ρ S) fun d S => match fieldsOf c d S with
  | some _ => noX (o [d] S)
  | none => none
theorem re_prop {params : Arguments} {body : List Stmt} {scope : Scope} {s1 : Str} {fr : Bool} {o : OpB} (hc : ClsI X.K c) (G : PropG X.prog X.w X.K X.mg X.base T k c f q params body scope [s1] fr o) (hp : PosnQ params body scope f q [s1]) (hr : Room (k + 1) X.A) (hgu : X.A.guards = some [])
    (ha : RE T false X W e a) (hab : attributeBase e f X.env (eval e X.env) = eval e X.env := by rfl) : RE T fr X W (.Attribute e f pos) (cProp c o a) := by
  obtain ⟨p, g, fd, PO, FD, FG⟩ := G.ex
  obtain ⟨t, pe, rd⟩ := ha
  refine ⟨fun σ H Q => t σ H fun x H1 => ∃ b dx fs, x = .ref b ∧ H1 b = some (.ins (He.ga X.K c) dx fs) ∧ spOf X.K X.mg T fr 1 o [.ref b] H1 Q (fun _ _ _ => False), ⟨fun pins s σ H Q I h => ?_⟩, fun σ ρ F μ S H Q s hE gg => ?_⟩
  · refine attr_of hab (thn (pe.run pins s σ H _ I h) fun u s2 ⟨x, H1, I1, rx, b, dx, fs, ex, ea, h⟩ => ?_)
    subst ex
    obtain rfl : u = Value.ref b := rx
    obtain ⟨mA, O, _, _, _, _⟩ := ins_get I1.hok ea
    obtain ⟨od, J, _⟩ := O.look
    obtain ⟨rest, hrec⟩ := PO.rec_
    have I2 := I1.tok (s2.toks + 1)
    have hcl : (PySem.W.clsIn X.K (He.ga X.K c)).isSome = true := by
      obtain ⟨cd, hc, _⟩ := PySem.W.any_some hc.cl.hd
      rw [hc]
      rfl
    refine PySem.W.get_bind I1.kIn J (PySem.W.plainGet_of (hc.cl.get f)).1 (PySem.W.findObj_data hcl PO.at_ PO.get PO.tak) (PySem.W.plainGet_of (hc.cl.get f)).2 (wpAny_call (PySem.W.prop_get (s := { s2 with toks := s2.toks + 1 }) I1.kIn hrec ?_))
    obtain ⟨kV, doc, pm, an, cdv, ct, rfl⟩ := FunD.to FD
    refine codeAny_mono (FG.run X.A.in1 X.stack { s2 with toks := s2.toks + 1 } H1 ⟨[.ref b], []⟩ [.ref b] [.ref b] Q (fun _ _ _ => False) hr.in1 hgu I2.env0.in1 (.of_eq (hp _ _ _ _ _ _ [.ref b] rfl)) (.cons rfl .nil) h) fun r s' hq => ?_
    cases r with
    | error er =>
      obtain ⟨_, _, _, _, _, _, _, _, _, _, _, _, z⟩ := hq
      exact z.elim
    | ok fl =>
      cases fl with
      | ret u =>
        obtain ⟨v, H', I3, rv, q3⟩ := I2.after hq
        show wpAny _ _ (handedOut u) _ _ _
        rw [PySem.W.handedOut_of (handed_of rv)]
        exact wpAny_pure ⟨v, H', I3, rv, q3⟩
      | next => exact False.elim hq
      | brk => exact False.elim hq
      | cont => exact False.elim hq
  · refine rd σ ρ F μ S H _ s hE (GP.seq gg fun d F1 μ1 H1 S1 e1 p1 s1 g1 v rv => ?_)
    split at g1
    · rename_i pr hf
      obtain ⟨ns, ds⟩ := pr
      obtain ⟨b, dx, vs, rfl, h1, h2, h3⟩ := fields_ok s1 rv hf
      exact ⟨b, dx, _, rfl, h1, F1, μ1, S1, [d], s1, .cons rv .nil, rfl, GP.er (GP.noX (er' := NoEr) g1)⟩
    · exact g1.elim

/-! ### methods -/
structure MethG (P : Program) (w : World) (K : PySem.W.Frag) (mg : Str → Option Value) (base : Heap) (T : List (Addr × Str)) (k : Nat) (c m q : Str) (params : Arguments) (body : List Stmt) (scope : Scope) (ps : List Str) (fr : Bool) (o : OpB) : Prop where
  ex : ∃ g fd, Meth K (He.ga K c) m g ∧ FunD K m q params body scope [] [] g fd ∧ FnG P w K mg base k g fd ps (spOf K mg T fr ps.length o)
def cMeth (c m : Str) (n : Nat) (o : OpB) (a : EX) (r : AX) : EX := fun ρ S => bindO (a ρ S) fun d S => match fieldsOf c d S with
  | some (ns, ds) => (match lkF m ns ds with
    | some _ => none
    | none => bindO (r ρ S) fun xs S => if xs.length + 1 = n then o (d :: xs) S else none)
  | none => none
theorem re_meth {params : Arguments} {body : List Stmt} {scope : Scope} {ps : List Str} {fr : Bool} {ob : OpB} {pl : Sem Bool} (hc : ClsI X.K c) (G : MethG X.prog X.w X.K X.mg X.base T k c m q params body scope ps fr ob) (hp : PosnQ params body scope m q ps) (hr : Room k X.A) (hgu : X.A.guards = some [])
    (hx : ∀ σ, PassesAt (L2.CX X.prog X.w) X σ fun cls d H => W cls d σ H) (ho : RE T false X W o a) (ha : RA T X W (e :: es) ca)
    (hst : starEach (e :: es) X.env = (false, eval e X.env) :: starEach es X.env := by rfl) (hpl : (backTo pos (starEach es X.env)).any (·.1) = false := by rfl)
    (ht : eval (.Call (.Attribute o m apos) (e :: es) [] pos) X.env = (do
      let ov ← eval o X.env
      standAt apos.atName
      let (f, first) ← holding [ov] (getMethod ov m pl)
      callWith pos f first (backTo pos (starEach (e :: es) X.env)) (backToKw pos (keywordEach [] X.env))) := by rfl) :
    RE T fr X W (.Call (.Attribute o m apos) (e :: es) [] pos) (cMeth c m ps.length ob a ca) := by
  obtain ⟨g, fd, M, FD, FG⟩ := G.ex
  obtain ⟨t, pe, rd⟩ := ho
  obtain ⟨t2, pa, rd2⟩ := ha
  refine ⟨fun σ H Q => t σ H fun x H1 => ∃ b dx fs, x = .ref b ∧ H1 b = some (.ins (He.ga X.K c) dx fs) ∧ fs.lookup m = none ∧ t2 σ H1 fun vs H2 => spOf X.K X.mg T fr ps.length ob (.ref b :: vs) H2 Q (fun cls d H => W cls d σ H), ⟨fun pins s σ H Q I h => ?_⟩, fun σ ρ F μ S H Q s hE gg => ?_⟩
  · refine PySem.W.methodCall_KW (pl := pl) (thn (pe.run pins s σ H _ I h) fun u s1 ⟨x, H1, I1, rx, b, dx, fs, ex, ea, l, q⟩ => ?_) ht
    subst ex
    obtain rfl : u = Value.ref b := rx
    refine getmeth_ok I1 ea hc.cl M l ?_
    refine PySem.W.callWith_K (first := [.ref b]) (h₀ := X.base) I.ok.mod.kin M.kp (thn (pa.run pos pins s1 σ H1 _ I1 q) fun us s2 ⟨vs, H2, I2, r, q2⟩ => ⟨I2.kIn, ?_⟩) hst hpl
    obtain ⟨kV, doc, pm, an, cdv, ct, rfl⟩ := FunD.to FD
    have hl : (Value.ref b :: us).length = ps.length := by
      obtain ⟨_, _, _, _, _, _, hl, _⟩ := id q2
      rw [← hl, List.length_cons, List.length_cons, r.length]
    exact run_g (us := .ref b :: us) (vs := .ref b :: vs) FG hr hgu (.of_eq (hp _ _ _ _ _ _ _ hl)) (hx σ) I2 (.cons rfl r) q2
  · refine rd σ ρ F μ S H _ s hE (GP.seq gg fun d F1 μ1 H1 S1 e1 p1 s1 g1 v rv => ?_)
    split at g1
    · rename_i ns ds hf
      split at g1
      · exact g1.elim
      · rename_i hlk
        obtain ⟨b, dx, vs, rfl, h1, h2, h3⟩ := fields_ok s1 rv hf
        refine ⟨b, dx, _, rfl, h1, lk_none h2 h3 hlk, ?_⟩
        refine rd2 σ ρ F1 μ1 S1 H1 _ s1 (hE.mono e1 p1) (GP.seq g1 fun xs F2 μ2 H2 S2 e2 p2 s2 g2 us rs => ?_)
        split at g2
        · rename_i hn
          exact ⟨F2, μ2, S2, d :: xs, s2, .cons (Rep.mono e2 p2 rv) rs, by rw [List.length_cons, ← rs.length]; exact hn, g2⟩
        · exact g2.elim
    · exact g1.elim
end
end PF
set_option Elab.async false
set_option linter.all false
set_option maxRecDepth 100000
set_option maxHeartbeats 4000000
/-! PFY2: instances made; isinstance of a class of the program. -/
namespace PF
open PySem L2 Evl PySem.Spec PyProof.Rows
/-- what a constructor gives: the instance, which never changes behind it -/
def madeI (c : Str) (n0 : Nat) (r : Out D) : Out D := match r with
  | some (.ok .non, S2) => (match S2[n0]? with
    | some es => (match decF es with
      | some (ns, ds) => some (.ok (.ins c ns ds), S2.take n0)
      | none => none)
    | none => none)
  | some (.error x, S2) => if D.pures (x.fields.map (·.2)) = true then some (.error x, S2.take n0) else none
  | _ => none
/-- .. or a thing of the store, which may change -/
def madeM (c : Str) (n0 : Nat) (r : Out D) : Out D := match r with
  | some (.ok .non, S2) => some (.ok (.obj c n0), S2)
  | some (.error x, S2) => if D.pures (x.fields.map (·.2)) = true then some (.error x, S2.take n0) else none
  | _ => none
def cMake (mk : Str → Nat → Out D → Out D) (c : Str) (n : Nat) (o : OpB) (r : AX) : EX := fun ρ S => bindO (r ρ S) fun ds S => if ds.length + 1 = n then mk c S.length (o (.obj c S.length :: ds) (S ++ [[]])) else none
def cMakeK (mk : Str → Nat → Out D → Out D) (c : Str) (m : Nat) (g : List D → List D → List D) (o : OpB) (rk : AX) : EX := fun ρ S => bindO (rk ρ S) fun es S => if es.length = m then mk c S.length (o (g [.obj c S.length] es) (S ++ [[]])) else none
structure MakeG (P : Program) (w : World) (K : PySem.W.Frag) (mg : Str → Option Value) (base : Heap) (T : List (Addr × Str)) (k : Nat) (c q : Str) (params : Arguments) (body : List Stmt) (scope : Scope) (ps : List Str) (o : OpB) : Prop where
  ex : ∃ f fd, Mk K (He.ga K c) f ∧ mg c = some (.ref (He.ga K c)) ∧ FunD K "__init__" q params body scope [] [] f fd ∧ FnG P w K mg base k f fd ps (spOf K mg T false ps.length o)
section
variable {K : PySem.W.Frag} {mg : Str → Option Value} {T : List (Addr × Str)} {F H : Hp} {μ : List MA} {S : Store} {r : Out D} {Q : VK} {E : XK} {c : Str} {x : Addr}
theorem cut_pre {F' H' : Hp} {μ' : List MA} {S' : Store} (s0 : SR K T F μ S H) (p : μ <+: μ') (s' : SR K T F' μ' S' H') : SR K T F' μ (S'.take S.length) H' := by
  have := s'.cut S.length
  rwa [take_pre s0 p] at this
theorem er_cut (s0 : SR K T F μ S H) {y : XV} {S2 : Store} {μ2 : List MA} (q : μ <+: μ2) (g : GP K T F μ (if D.pures (y.fields.map (·.2)) = true then some (.error y, S2.take S.length) else none : Out D) (OkV K false Q) (ErW K mg E)) :
    GP K T F μ2 (some (.error y, S2) : Out D) (OkV K false fun v H3 => v = .non ∧ Q (.ref x) H3) (ErW K mg E) := by
  split at g
  · rename_i hp
    intro F' μ' H' e p s' cls dd hx
    obtain ⟨C, h1, h2, h3⟩ := hx
    exact g F' μ H' e (List.prefix_refl _) (cut_pre s0 (q.trans p) s') cls dd ⟨C, h1, h2, h3.imp id fun ⟨d, vs, a1, a2, a3⟩ => ⟨d, vs, a1, a2.free hp, a3⟩⟩
  · exact g.elim
theorem new_get (s0 : SR K T F μ S H) {m : MA} {μ' : List MA} (p : (μ ++ [m]) <+: μ') : μ'[S.length]? = some m := pre_get p (by rw [← s0.len, List.getElem?_append_right (Nat.le_refl _)]; simp)
theorem madeI_gp (s0 : SR K T F μ S H) (g : GP K T F μ (madeI c S.length r) (OkV K false Q) (ErW K mg E)) :
    GP K T F (μ ++ [⟨x, .ins c⟩]) r (OkV K false fun v H3 => v = .non ∧ Q (.ref x) H3) (ErW K mg E) := by
  match r, g with
  | none, g => exact g.elim
  | some (.error y, S2), g => exact er_cut s0 (List.prefix_append _ _) g
  | some (.ok d, S2), g =>
    intro F' μ' H' e q s' v rv
    have pq : μ <+: μ' := (List.prefix_append _ _).trans q
    cases d with
    | non =>
      cases rv
      have hm := new_get s0 q
      obtain ⟨es, h1, h2, h3, hc⟩ := s'.at hm
      simp only [madeI, h1] at g
      have na : Out_ x μ := out_new s0 s' pq (Nat.lt_irrefl _) hm
      cases hc with
      | ins k1 k2 k3 =>
        rw [decF_enc k1] at g
        rw [pures_encF k1] at h3
        exact ⟨rfl, g (upd F' x _) μ H' (e.trans (Ex.new h2)) (List.prefix_refl _) ((cut_pre s0 pq s').freezeO h2 na k2 (.inr (.inl ⟨_, _, _, rfl⟩))) _ (.ins upd_same k1 ((k3.free h3).mono (Ex.new h2) (List.prefix_refl _)))⟩
    | _ => exact g.elim
theorem madeM_gp (s0 : SR K T F μ S H) (g : GP K T F μ (madeM c S.length r) (OkV K false Q) (ErW K mg E)) :
    GP K T F (μ ++ [⟨x, .ins c⟩]) r (OkV K false fun v H3 => v = .non ∧ Q (.ref x) H3) (ErW K mg E) := by
  match r, g with
  | none, g => exact g.elim
  | some (.error y, S2), g => exact er_cut s0 (List.prefix_append _ _) g
  | some (.ok d, S2), g =>
    intro F' μ' H' e q s' v rv
    have pq : μ <+: μ' := (List.prefix_append _ _).trans q
    cases d with
    | non =>
      cases rv
      exact ⟨rfl, g F' μ' H' e pq s' _ (.obj (new_get s0 q))⟩
    | _ => exact g.elim
/-- the two ways a constructor's result is kept -/
def MkOk (mk : Str → Nat → Out D → Out D) : Prop := ∀ {K : PySem.W.Frag} {mg : Str → Option Value} {T : List (Addr × Str)} {F H : Hp} {μ : List MA} {S : Store} {r : Out D} {Q : VK} {E : XK} {c : Str} {x : Addr}, SR K T F μ S H →
  GP K T F μ (mk c S.length r) (OkV K false Q) (ErW K mg E) → GP K T F (μ ++ [⟨x, .ins c⟩]) r (OkV K false fun v H3 => v = .non ∧ Q (.ref x) H3) (ErW K mg E)
theorem madeI_ok : MkOk madeI := fun s g => madeI_gp s g
theorem madeM_ok : MkOk madeM := fun s g => madeM_gp s g
theorem sr_made (s0 : SR K T F μ S H) {dx : Addr} (hx : H x = none) (hd : H dx = none) (ne : dx ≠ x) :
    SR K T F (μ ++ [⟨x, .ins c⟩]) (S ++ [[]]) (upd (upd H dx (.own x)) x (.ins (He.ga K c) dx [])) := by
  have s1 := s0.lay (o := .own x) hd
  have hx1 : upd H dx (.own x) x = none := by rw [upd_ne (Ne.symm ne)]; exact hx
  have s2 := s1.lay (o := .ins (He.ga K c) dx []) hx1
  exact s2.allocM (m := ⟨x, .ins c⟩) (ds := encF [] []) (fresh_back s0.ex hx) (s0.notin hx) (.ins (ns := []) (es := []) (vs := []) rfl upd_same .nil) rfl
end
section
variable {X : Cx} {T : List (Addr × Str)} {W : WX} {k : Nat} {c q : Str} {e : Expr} {es : List Expr} {kws : List Keyword} {ca cs : AX} {p pos : Pos}
theorem run_makeG {C f : Addr} {fd : FuncData} {ps : List Str} {sp : Sp} {kw : List (Str × Value)} {us : List Value} {ws : Addr → List Value} {vs : Addr → List V} {pins : List (Addr × Obj)} {σ : L2.St} {H : Hp} {s : Shared} {Q : VK} {E : XK}
    (M : Mk X.K C f) (F : FnG X.prog X.w X.K X.mg X.base k f fd ps sp) (hr : Room (k + 1) X.A) (hgu : X.A.guards = some []) (hb : ∀ (s' : Shared) (x : Addr), BindsTo s' fd ⟨.ref x :: us, kw⟩ (ps.zip (ws x))) (hx : PassesAt (L2.CX X.prog X.w) X σ E)
    (I : Inv X pins σ H s) (r : ∀ x, Vals (vs x) (ws x)) (h : ∀ x dx, H x = none → H dx = none → dx ≠ x → sp (vs x) (upd (upd H dx (.own x)) x (.ins C dx [])) (fun v H2 => v = .non ∧ Q (.ref x) H2) E) :
    wpAny (model X.prog X.w) X.A (call (.ref C) us kw) (EP X pins σ Q) X.xe s := by
  have hq := h (s.heap.objs.size + 1) s.heap.objs.size (I.hok.fresh (Nat.le_succ _)) (I.hok.fresh (Nat.le_refl _)) (Nat.ne_of_lt (Nat.lt_succ_self _))
  have I2 := Inv.made (C := C) I
  refine wpAny_call (make_map (f := f) I.kIn M.makes M.init (beq_iff_eq.mp M.fn) (codeAny_mono (F.run _ X.stack _ _ ⟨Value.ref (s.heap.objs.size + 1) :: us, kw⟩ (ws (s.heap.objs.size + 1)) _ _ E (hr.make C us kw) ?_
    (I2.env0.make C us kw) (hb _ _) (r _) hq) fun r s' hq' => ?_))
  · show (X.A.under (.builtin "type.__call__" ⟨.ref C :: us, kw⟩)).guards = some []
    simp [Around.under, Code.guards, Code.isGuard, guardIds, pushGuards, hgu]
  cases r with
  | error e => exact hx pins _ _ e s' I2 hq'
  | ok fl =>
    cases fl with
    | ret u =>
      obtain ⟨v, H', I3, rv, ev, q3⟩ := I2.after hq'
      subst ev
      exact ⟨rv, ⟨V.ref (s.heap.objs.size + 1), H', I3, rfl, q3⟩⟩
    | next => exact False.elim hq'
    | brk => exact False.elim hq'
    | cont => exact False.elim hq'
theorem re_make {params : Arguments} {body : List Stmt} {scope : Scope} {ps : List Str} {o : OpB} {mk : Str → Nat → Out D → Out D} (hmk : MkOk mk) (hc : ClsI X.K c) (G : MakeG X.prog X.w X.K X.mg X.base T k c q params body scope ps o) (hp : PosnQ params body scope "__init__" q ps) (hr : Room (k + 1) X.A) (hgu : X.A.guards = some [])
    (hx : ∀ σ, PassesAt (L2.CX X.prog X.w) X σ fun cls d H => W cls d σ H) (ha : RA T X W (e :: es) ca) (hg : Gl X c := by rfl) (hdb : (c == ("__debug__" : Str)) = false := by decide)
    (he : starEach (e :: es) X.env = (false, eval e X.env) :: starEach es X.env := by rfl) (hpl : (backTo pos (starEach es X.env)).any (·.1) = false := by rfl) :
    RE T false X W (.Call (.Name c p) (e :: es) [] pos) (cMake mk c ps.length o ca) := by
  obtain ⟨f, fd, M, hm, FD, FG⟩ := G.ex
  obtain ⟨t, pa, rd⟩ := ha
  refine ⟨fun σ H Q => t σ H fun vs H1 => vs.length + 1 = ps.length ∧ ∀ x dx, H1 x = none → H1 dx = none → dx ≠ x → spOf X.K X.mg T false ps.length o (.ref x :: vs) (upd (upd H1 dx (.own x)) x (.ins (He.ga X.K c) dx [])) (fun v H2 => v = .non ∧ Q (.ref x) H2) (fun cls d H => W cls d σ H), ⟨fun pins s σ H Q I h => ?_⟩, fun σ ρ F μ S H Q s hE g => ?_⟩
  · refine wpAny_Call_Name_kw (ld_glob I hg hm ?_ hdb)
    refine PySem.W.callWith_K (h₀ := X.base) I.ok.mod.kin M.kp (thn (pa.run pos pins s σ H _ I h) fun us s1 ⟨vs, H1, I1, r, hl, q⟩ => ⟨I1.kIn, ?_⟩) he hpl
    obtain ⟨kV, doc, pm, an, cdv, ct, rfl⟩ := FunD.to FD
    exact run_makeG (ws := fun x => .ref x :: us) (vs := fun x => .ref x :: vs) M FG hr hgu (us := us) (fun s' x => .of_eq (hp _ _ _ _ _ _ (.ref x :: us) (by rw [List.length_cons, ← r.length]; exact hl))) (hx σ) I1 (fun x => .cons rfl r) q
  · refine rd σ ρ F μ S H _ s hE (GP.seq g fun ds F1 μ1 H1 S1 e1 p1 s1 g1 vs rs => ?_)
    split at g1
    · rename_i hn
      refine ⟨by rw [← rs.length]; exact hn, fun x dx nx ndx ne => ?_⟩
      exact ⟨F1, μ1 ++ [⟨x, .ins c⟩], S1 ++ [[]], _, sr_made s1 nx ndx ne, .cons (.obj (new_get s1 (List.prefix_refl _))) (rs.mono (Ex.refl _) (List.prefix_append _ _)), by rw [List.length_cons, ← rs.length]; exact hn, hmk s1 g1⟩
    · exact g1.elim
theorem re_makeK {params : Arguments} {body : List Stmt} {scope : Scope} {ps ks : List Str} {o : OpB} {mk : Str → Nat → Out D → Out D} {g : {α : Type} → List α → List α → List α} (hmk : MkOk mk) (hc : ClsI X.K c) (G : MakeG X.prog X.w X.K X.mg X.base T k c q params body scope ps o) (hp : KeynQ params body scope "__init__" q ps ks 1 g)
    (hgr : ∀ {K F μ} {ds es : List D} {vs us : List V}, ds.length = 1 → es.length = ks.length → Reps K F μ ds vs → Reps K F μ es us → Reps K F μ (g ds es) (g vs us))
    (hgv : ∀ {vs us : List V} {ws zs : List Value}, vs.length = 1 → us.length = ks.length → Vals vs ws → Vals us zs → Vals (g vs us) (g ws zs)) (hgl : ∀ {ds es : List V}, ds.length = 1 → es.length = ks.length → (g ds es).length = ps.length)
    (hr : Room (k + 1) X.A) (hgu : X.A.guards = some []) (hx : ∀ σ, PassesAt (L2.CX X.prog X.w) X σ fun cls d H => W cls d σ H)
    (hkw : RK T X W kws cs) (hg : Gl X c := by rfl) (hall : (backToKw pos (keywordEach kws X.env)).all (·.1.isSome) = true := by rfl) (hks : (backToKw pos (keywordEach kws X.env)).filterMap (·.1) = ks := by rfl)
    (hdb : (c == ("__debug__" : Str)) = false := by decide)
    (hpl : ((backTo pos (starEach [] X.env)).any (·.1) || (backToKw pos (keywordEach kws X.env)).any (·.1.isNone)) = false := by rfl) :
    RE T false X W (.Call (.Name c p) [] kws pos) (cMakeK mk c ks.length g o cs) := by
  obtain ⟨f, fd, M, hm, FD, FG⟩ := G.ex
  obtain ⟨t2, pk, rd2⟩ := hkw
  refine ⟨fun σ H Q => t2 σ H fun us H1 => us.length = ks.length ∧ ∀ x dx, H1 x = none → H1 dx = none → dx ≠ x → spOf X.K X.mg T false ps.length o (g [.ref x] us) (upd (upd H1 dx (.own x)) x (.ins (He.ga X.K c) dx [])) (fun v H2 => v = .non ∧ Q (.ref x) H2) (fun cls d H => W cls d σ H), ⟨fun pins s σ H Q I h => ?_⟩, fun σ ρ F μ S H Q s hE gg => ?_⟩
  · refine wpAny_Call_Name_kw (ld_glob I hg hm ?_ hdb)
    refine PySem.W.callWith_KW0 (h₀ := X.base) I.ok.mod.kin M.kp hall ?_ hpl
    refine thn (pk.run pos pins s σ H _ I h) fun ws s2 ⟨zs, H2, I2, rz, l2, q2⟩ => ⟨I2.kIn, ?_⟩
    obtain ⟨kV, doc, pm, an, cdv, ct, rfl⟩ := FunD.to FD
    rw [hks]
    exact run_makeG (us := []) (ws := fun x => g [.ref x] ws) (vs := fun x => g [.ref x] zs) M FG hr hgu (fun s' x => .of_eq (hp _ _ _ _ _ _ [.ref x] ws rfl (by rw [← rz.length]; exact l2))) (hx σ) I2 (fun x => hgv rfl l2 (.cons rfl .nil) rz) q2
  · refine rd2 σ ρ F μ S H _ s hE (GP.seq gg fun es F1 μ1 H1 S1 e1 p1 s1 g1 us rs => ?_)
    split at g1
    · rename_i hn
      have l2 : us.length = ks.length := by rw [← rs.length]; exact hn
      refine ⟨l2, fun x dx nx ndx ne => ?_⟩
      exact ⟨F1, μ1 ++ [⟨x, .ins c⟩], S1 ++ [[]], _, sr_made s1 nx ndx ne, hgr rfl hn (.cons (.obj (new_get s1 (List.prefix_refl _))) .nil) (rs.mono (Ex.refl _) (List.prefix_append _ _)), hgl rfl l2, hmk s1 g1⟩
    · exact g1.elim

/-! ### isinstance -/
def isC (c : Str) : D → Option Bool
  | .ins c' _ _ => if c' = c then some true else none
  | .obj c' _ => if c' = c then some true else none
  | .fn _ => none
  | .gfn _ => none
  | .dct _ => none
  | .dks _ _ => none
  | .dkc _ => none
  | _ => some false
structure IsF (K : PySem.W.Frag) (c : Str) : Prop where
  no : ∀ d : D, isC c d = some false → PySem.W.kitOne K (.type (tyNm d)) (.ref (He.ga K c)) = some false
def cIsC (c : Str) (a : EX) : EX := fun ρ S => bindO (a ρ S) fun x S => match isC c x with
  | some b => some (.ok (.bl b), S)
  | none => none
theorem tyx_ins {K : PySem.W.Frag} {F H : Hp} {μ : List MA} {S : Store} {d : D} {v : V} {c : Str} (hc : ClsI K c) (s : SR K T F μ S H) (r : Rep K F μ d v) (h : isC c d = some true) : TyX K H v (.ref (He.ga K c)) := by
  cases r with
  | ins h1 h2 h3 =>
    simp only [isC] at h
    split at h
    · rename_i e; subst e
      exact .base (.ins (s.ex _ _ h1) hc.cl hc.ha hc.hn hc.ht hc.hm)
    · cases h
  | obj hm =>
    simp only [isC] at h
    split at h
    · rename_i e; subst e
      obtain ⟨es, h1, h2, h3, hcell⟩ := s.at hm
      cases hcell with
      | ins k1 k2 k3 => exact .base (.ins k2 hc.cl hc.ha hc.hn hc.ht hc.hm)
    · cases h
  | _ => simp [isC] at h
theorem isC_fn {d : D} {c : Str} (h : isC c d = some false) : d.isFn = false := by
  cases d <;> first | rfl | (simp [isC] at h)
theorem re_isC {a : EX} {p2 : Pos} (hc : ClsI X.K c) (hi : IsF X.K c) (hmc : X.mg c = some (.ref (He.ga X.K c))) (ha : RE T false X W e a) (hm : X.mg "isinstance" = none) (hg : Gl X "isinstance" := by rfl) (hgt : Gl X c := by rfl)
    (hdt : (c == ("__debug__" : Str)) = false := by decide)
    (he : starEach [e, .Name c p2] X.env = (false, eval e X.env) :: starEach [.Name c p2] X.env := by rfl) (hpl : (backTo pos (starEach [.Name c p2] X.env)).any (·.1) = false := by rfl) :
    RE T false X W (.Call (.Name "isinstance" p) [e, .Name c p2] [] pos) (cIsC c a) := by
  obtain ⟨ta, pa, fa⟩ := ha
  refine ⟨_, pe_callB call_isi hg hm (by decide +kernel) (pa_cons pa (pa_cons (pe_glob (v := .ref (He.ga X.K c)) hgt hmc rfl hdt) pa_nil) he) (by decide) (by decide) he hpl, fun σ ρ F μ S H Q s hE g => ?_⟩
  refine fa σ ρ F μ S H _ s hE (GP.seq g fun x F1 μ1 H1 S1 e1 p1 s1 g1 v rx => ?_)
  split at g1
  · rename_i b hb
    cases b with
    | true => exact ⟨v, .ref (He.ga X.K c), _, _, true, rfl, .own _, tyx_ins hc s1 rx hb, by simp [PySem.W.kitOne], gp_val g1 s1 (.bl _)⟩
    | false => exact ⟨v, .ref (He.ga X.K c), _, _, false, rfl, .own _, tyx_of s1 rx (isC_fn hb), hi.no x hb, gp_val g1 s1 (.bl _)⟩
  · exact g1.elim
end
end PF
set_option Elab.async false
set_option linter.all false
set_option maxRecDepth 100000
set_option maxHeartbeats 4000000
/-! PFH: facts of a head that the layer wants beyond the kit's kinds: tables, classes. -/
namespace PF
open PySem L2 Evl PySem.Spec PyProof.Rows
/-- what stands in a table -/
inductive TV where | int (i : Int) | str (z : Str) | gfn (x : Str) | no
def TV.d : TV → Option D
  | .int i => some (.int i)
  | .str z => some (.str z)
  | .gfn x => some (.gfn x)
  | .no => none
def tvB (K : PySem.W.Frag) (a : Addr) (p : Str × TV) : Bool := match p.2, PySem.W.nsIn K a p.1 with
  | .int i, some (some (.int j _)) => decide (i = j)
  | .str i, some (some (.str j _)) => decide (i = j)
  | .gfn x, some (some (.ref b)) => decide (b = He.ga K x)
  | .no, some none => true
  | _, _ => false
def tabB (K : PySem.W.Frag) (x : Str) (t : List (Str × TV)) : Bool := t.all (tvB K (He.ga K x))
theorem tabF_of {K : PySem.W.Frag} {w : World} {x : Str} {t : List (Str × TV)} (kd : ∃ es n, KDict K w (He.ga K x) es n) (h : tabB K x t = true) : TabF K w x (t.map fun p => (p.1, p.2.d)) := by
  refine ⟨kd, fun p hp => ?_⟩
  obtain ⟨⟨k, v⟩, hq, rfl⟩ := List.mem_map.mp hp
  have hv : tvB K (He.ga K x) (k, v) = true := List.all_eq_true.mp h _ hq
  unfold tvB at hv
  cases v with
  | int i =>
    dsimp only at hv
    split at hv
    · rename_i e1 e2; cases e1
      have e := of_decide_eq_true hv; subst e
      exact ⟨_, .int i, e2, ⟨_, rfl⟩, fun F μ => .int i⟩
    · rename_i e1 _; cases e1
    · rename_i e1 _; cases e1
    · rename_i e1 _; cases e1
    · cases hv
  | str i =>
    dsimp only at hv
    split at hv
    · rename_i e1 _; cases e1
    · rename_i e1 e2; cases e1
      have e := of_decide_eq_true hv; subst e
      exact ⟨_, .str i, e2, ⟨_, rfl⟩, fun F μ => .str i⟩
    · rename_i e1 _; cases e1
    · rename_i e1 _; cases e1
    · cases hv
  | gfn i =>
    dsimp only at hv
    split at hv
    · rename_i e1 _; cases e1
    · rename_i e1 _; cases e1
    · rename_i e1 e2; cases e1
      have e := of_decide_eq_true hv; subst e
      exact ⟨_, .ref (He.ga K i), e2, rfl, fun F μ => .gfn⟩
    · rename_i e1 _; cases e1
    · cases hv
  | no =>
    dsimp only at hv
    split at hv
    · rename_i e1 _; cases e1
    · rename_i e1 _; cases e1
    · rename_i e1 _; cases e1
    · rename_i e1 e2; exact e2
    · cases hv
/-! ### classes -/
def clsIB (K : PySem.W.Frag) (c : Str) : Bool := (He.Fa.cls c).ok K && (decide (PySem.W.findIn K (.ref (He.ga K c)) "__class__" = some (some (.builtin "object.__class__"))) && (decide (PySem.W.specialIn K (.builtin "object.__class__") "__get__" = some (some (.builtin "getset_descriptor.__get__"))) &&
  (decide (PySem.W.takesIn K (.builtin "object.__class__") = some true) && (decide (PySem.W.mroIn K (He.ga K c) (.type "object") = some true) && PySem.W.keepIn K (.ref (He.ga K c))))))
theorem clsI_of {K : PySem.W.Frag} {c : Str} (h : clsIB K c = true) : ClsI K c := by
  obtain ⟨h1, h⟩ := Bool.and_eq_true_iff.mp h
  obtain ⟨h2, h⟩ := Bool.and_eq_true_iff.mp h
  obtain ⟨h3, h⟩ := Bool.and_eq_true_iff.mp h
  obtain ⟨h4, h⟩ := Bool.and_eq_true_iff.mp h
  obtain ⟨h5, h6⟩ := Bool.and_eq_true_iff.mp h
  exact ⟨He.cls_ok h1, of_decide_eq_true h2, of_decide_eq_true h3, of_decide_eq_true h4, of_decide_eq_true h5, h6⟩
def isFB (K : PySem.W.Frag) (c : Str) : Bool := ["NoneType", "bool", "int", "str", "tuple", "list"].all fun n => decide (PySem.W.kitOne K (.type n) (.ref (He.ga K c)) = some false)
theorem isF_of {K : PySem.W.Frag} {c : Str} (h : isFB K c = true) : IsF K c := by
  refine ⟨fun d hd => ?_⟩
  have g : ∀ n, n ∈ ["NoneType", "bool", "int", "str", "tuple", "list"] → PySem.W.kitOne K (.type n) (.ref (He.ga K c)) = some false := fun n hn => of_decide_eq_true (List.all_eq_true.mp h n hn)
  cases d <;> first
    | (refine g _ ?_; simp [tyNm]; done)
    | (simp [isC] at hd; done)
def propB (K : PySem.W.Frag) (c f : Str) : Bool := match PySem.W.findIn K (.ref (He.ga K c)) f with
  | some (some (.ref p)) => decide (PySem.W.specialIn K (.ref p) "__get__" = some (some (.builtin "property.__get__"))) && (decide (PySem.W.takesIn K (.ref p) = some true) && (match PySem.W.recIn K p "property" with
    | some (.ref _ :: _) => true
    | _ => false))
  | _ => false
/-- the getter of a property -/
def pga (c f : Str) (K : PySem.W.Frag) : Addr := match PySem.W.findIn K (.ref (He.ga K c)) f with
  | some (some (.ref p)) => (match PySem.W.recIn K p "property" with
    | some (.ref g :: _) => g
    | _ => 0)
  | _ => 0
theorem prop_of {K : PySem.W.Frag} {c f : Str} (h : propB K c f = true) : ∃ p, PropOf K (He.ga K c) f p (pga c f K) := by
  unfold propB at h
  unfold pga
  split at h
  · rename_i p hp
    obtain ⟨h1, h⟩ := Bool.and_eq_true_iff.mp h
    obtain ⟨h2, h⟩ := Bool.and_eq_true_iff.mp h
    split at h
    · rename_i g r hr
      exact ⟨p, hp, of_decide_eq_true h1, of_decide_eq_true h2, r, hr⟩
    · cases h
  · cases h
/-! ### a Hook that tells the getters of properties, too -/
abbrev AlZ : Type := He.AlX × He.AlD
def obsZ (n : Nat) (fa : List He.Fa) (fn : List He.DefD) (ts : List He.Tab) (tf : List He.Defn) (ex : PySem.W.Frag → Bool) (fp : List He5.DefA) (g : Addr → Option Obj) : AlZ := (He.obsX n fa fn ts tf ex g, He5.obsA [] fp (He.frT g (He.asD g n)))
def hookZ (n : Nat) (fa : List He.Fa) (fn : List He.DefD) (ts : List He.Tab) (tf : List He.Defn) (ex : PySem.W.Frag → Bool) (fp : List He5.DefA) : PySem.W.Hook where
  α := AlZ
  obs := fun s => obsZ n fa fn ts tf ex fp s.heap.get?
  val := fun w => (He.valX fn ts w, He5.valA fp)
  says := fun w h => ∃ K : PySem.W.Frag, K.In h ∧ He.SaysX fa fn ts tf ex w h K ∧ He5.SaysA [] fp K
  of := fun _ _ e => ⟨_, He.frT_in, He.saysX_of (congrArg Prod.fst e), congrArg Prod.snd e⟩
  keeps := fun _ _ _ ⟨K, hK, c, d⟩ k => ⟨K, PySem.W.Frag.In.keeps hK k, ⟨c.t, c.more, c.hd, c.out, fun p hp => k _ _ (c.empty p hp)⟩, d⟩
theorem obsZ_eq {n : Nat} {fa : List He.Fa} {fn : List He.DefD} {ts : List He.Tab} {tf : List He.Defn} {ex : PySem.W.Frag → Bool} {fp : List He5.DefA} {g : Addr → Option Obj} {s : Shared} (h : ∀ a, g a = s.heap.get? a) : obsZ n fa fn ts tf ex fp g = (hookZ n fa fn ts tf ex fp).obs s := by
  have e : g = s.heap.get? := funext h
  rw [e] <;> rfl
/-! ### tuples of numbers and texts that stand in the module -/
inductive CV where | int (i : Int) | str (z : Str)
def CV.d : CV → D
  | .int i => .int i
  | .str z => .str z
def cvB : CV → Value → Bool
  | .int i, .int j _ => decide (i = j)
  | .str i, .str j _ => decide (i = j)
  | _, _ => false
def cvsB : List CV → List Value → Bool
  | [], [] => true
  | c :: cs, v :: vs => cvB c v && cvsB cs vs
  | _, _ => false
def cstB (K : PySem.W.Frag) (x : Str) (cs : List CV) : Bool := match K.lookup (He.ga K x) with
  | some ⟨cls, _, .seq its _, _⟩ => decide (cls = .type "tuple") && (decide (its.size ≤ 1000) && cvsB cs its.toList)
  | _ => false
theorem cvB_ok {c : CV} {v : Value} (h : cvB c v = true) : ∃ x : V, RelV x v ∧ ∀ K F μ, Rep K F μ c.d x := by
  cases c with
  | int i =>
    cases v <;> try (cases h; done)
    have e := of_decide_eq_true h
    subst e
    exact ⟨.int i, ⟨_, rfl⟩, fun K F μ => .int i⟩
  | str i =>
    cases v <;> try (cases h; done)
    have e := of_decide_eq_true h
    subst e
    exact ⟨.str i, ⟨_, rfl⟩, fun K F μ => .str i⟩
theorem cvsB_ok : ∀ {cs : List CV} {vs : List Value}, cvsB cs vs = true → ∃ xs : List V, Vals xs vs ∧ ∀ K F μ, Reps K F μ (cs.map CV.d) xs
  | [], [], _ => ⟨[], .nil, fun _ _ _ => .nil⟩
  | c :: cs, v :: vs, h => by
    obtain ⟨h1, h2⟩ := Bool.and_eq_true_iff.mp h
    obtain ⟨x, r, d⟩ := cvB_ok h1
    obtain ⟨xs, rs, ds⟩ := cvsB_ok h2
    exact ⟨x :: xs, .cons r rs, fun K F μ => .cons (d K F μ) (ds K F μ)⟩
  | [], _ :: _, h => by cases h
  | _ :: _, [], h => by cases h
theorem globTup {K : PySem.W.Frag} {mg : Str → Option Value} {x : Str} {cs : List CV} (hm : mg x = some (.ref (He.ga K x))) (h : cstB K x cs = true) : GlobK K mg x (.tup (cs.map CV.d)) := by
  unfold cstB at h
  split at h
  · rename_i cls dd its n sl hk
    obtain ⟨h1, h⟩ := Bool.and_eq_true_iff.mp h
    obtain ⟨h2, h3⟩ := Bool.and_eq_true_iff.mp h
    have e1 := of_decide_eq_true h1
    have e2 := of_decide_eq_true h2
    subst e1
    obtain ⟨xs, rs, ds⟩ := cvsB_ok h3
    refine ⟨_, .ref (He.ga K x), hm, rfl, fun F μ => .tup (.inr ⟨_, its, n, hk, rfl, rfl, ?_, rs⟩) (ds K F μ)⟩
    rw [sizeLine_eq]
    omega
  · cases h
end PF
set_option Elab.async false
set_option linter.all false
set_option maxRecDepth 100000
set_option maxHeartbeats 4000000
/-! PFCL: a lambda of one parameter that captures names of its def, handed to another def. -/
namespace PF
open PySem L2 Evl PySem.Spec PyProof.Rows LamX
section
variable {X : Cx} {pins : List (Addr × Obj)} {σ : L2.St} {H HZ : Hp} {s s1 : Shared}
/-- the lambda is made; but for its def's table all stays -/
theorem lam_make4 {T : List (Addr × Str)} {c P : Addr} {params : Arguments} {body : Expr} {scope : Scope} {pos : Pos} {E : Value → Shared → Prop} {Q : Value → Shared → Prop} (I : Inv X pins σ H s) (TB : TabB X.base X.mg c P) (hcode : X.env.code = .ref c)
    (hm : (P, X.env.qual ++ "<lambda>") ∈ T) (hu : ∀ p ∈ T, p.1 = P → p.2 = X.env.qual ++ "<lambda>") (hT : Tabs T H) (hdef : defaultsOf params X.env = ([], [])) (hfree : ∀ y ∈ scope.names, y.2 = .free → ∃ c, X.env.cells.lookup y.1 = some c)
    (h : ∀ (f c' : Addr) (pm ctv : Value) (H1 : Hp) (s' : Shared), Inv X pins σ H1 s' → (∀ b o, H b = some o → b ≠ P → H1 b = some o) → Tabs T H1 →
      s'.heap.get? f = some (PySem.W.kla_obj "<lambda>" (X.env.qual ++ "<lambda>") params body scope (cloFrom X.env.cells scope.names []) pm c' ctv) → H1 f = none → f ∉ frs X.stack → H1 c' = some (CodeO c' (X.env.qual ++ "<lambda>")) → Q (.ref f) s') :
    wpAny (model X.prog X.w) X.A (eval (.Lambda params body scope pos) X.env) Q E s := by
  obtain ⟨ps, hP, ht, ha⟩ := hT _ hm
  refine PySem.W.kla_eval hdef ?_
  have bP : s.heap.BuiltinsAt X.mg P := TB.bm.keeps I.bk
  have tabP : s.heap.get? P = some { cls := .none, data := .fields ps } := I.hok P _ hP
  have nofr : ∀ f, s.heap.objs.size ≤ f → f ∉ frs X.stack := fun f hf z => by
    rcases List.mem_cons.mp (I.stkSub _ z) with e | e
    · have h1 := I.lt
      rw [← e] at h1
      exact Nat.lt_irrefl _ (Nat.lt_of_lt_of_le h1 hf)
    · exact I.nofs hf e
  cases hc : codeAmong pos ps.toList with
  | some cv =>
    obtain ⟨c', rfl, hco⟩ := ha pos cv hc
    refine PySem.W.kla_makeFunctionHit (mg := X.mg) (c := c) (P := P) (ps := ps) (closure_ok hfree) I.ok.glob (I.mod.glob.keeps I.bk) hcode (TB.code.keeps I.bk) tabP ht hc bP fun ctv h' tk hx hsz => ?_
    exact h h'.objs.size c' _ ctv H _ (I.kept fun b o e => Heap.get?_push_of_some _ (hx b o e)) (fun _ _ e _ => e) hT (Heap.get?_push_size _ rfl) (I.hok.fresh hsz) (nofr _ hsz) hco
  | none =>
    refine PySem.W.kla_makeFunction (mg := X.mg) (c := c) (P := P) (ps := ps) (closure_ok hfree) I.ok.glob (I.mod.glob.keeps I.bk) hcode (TB.code.keeps I.bk) tabP ht hc TB.gP bP fun c' ctv h' tk hx hge hlt hrec htb => ?_
    obtain ⟨z2, oz, vz, tz, ez, ho2, hd2, hv2⟩ := hrec
    cases ez
    have big : s.heap.objs.size ≤ h'.objs.size := Nat.le_trans hge (Nat.le_of_lt hlt)
    have fresh' : H c' = none := I.hok.fresh hge
    have nPc : P ≠ c' := ne_of_none hP fresh'
    have I1 := inv_table (t' := tk) (more := #[rawInt pos.line, rawInt pos.col, .ref c']) (h' := h'.push (PySem.W.kla_obj "<lambda>" (X.env.qual ++ "<lambda>") params body scope (cloFrom X.env.cells scope.names []) ((X.mg "__name__").getD .none) c' ctv)) I hP
      (fun b o hb e => Heap.get?_push_of_some _ (hx b o hb e)) (Heap.get?_push_of_some _ htb) hge ⟨oz, vz, tz, Heap.get?_push_of_some _ ho2, hd2, hv2⟩
    have out : ∀ b, b ≠ P → b ≠ c' → upd (upd H P (.tbl (ps ++ #[rawInt pos.line, rawInt pos.col, .ref c']))) c' (CodeO c' (X.env.qual ++ "<lambda>")) b = H b := fun b h1 h2 => by rw [upd_ne h2, upd_ne h1]
    have exn : ExtN H (upd (upd H P (.tbl (ps ++ #[rawInt pos.line, rawInt pos.col, .ref c']))) c' (CodeO c' (X.env.qual ++ "<lambda>"))) := fun b o e n =>
      (out b (fun z => n ps (Option.some.inj (e.symm.trans (by rw [z]; exact hP)))) (ne_of_none e fresh')).trans e
    have fP : h'.objs.size ≠ P := Nat.ne_of_gt (Nat.lt_of_lt_of_le (Heap.lt_size tabP) big)
    refine h h'.objs.size c' _ ctv _ _ I1 (fun b o e n => (out b n (ne_of_none e fresh')).trans e) (fun p hp => ?_) (Heap.get?_push_size _ rfl) (by rw [out _ fP (Nat.ne_of_gt hlt)]; exact I.hok.fresh big) (nofr _ big) upd_same
    by_cases hb : p.1 = P
    · have e2 := hu p hp hb
      rw [hb, e2]
      refine ⟨ps ++ #[rawInt pos.line, rawInt pos.col, .ref c'], by rw [upd_ne nPc, upd_same], ?_, fun p' cv hcv => ?_⟩
      · simpa using PySem.TriplesOk_snoc _ _ _ _ ht
      · rcases among_app _ ht (by simpa using hcv) with z | z
        · obtain ⟨c0, a1, a2⟩ := ha p' cv z
          exact ⟨c0, a1, exn _ _ a2 codeO_ne⟩
        · exact ⟨c', z, upd_same⟩
    · obtain ⟨qs, a1, a2, a3⟩ := hT p hp
      refine ⟨qs, (out _ hb (ne_of_none a1 fresh')).trans a1, a2, fun p' cv hcv => ?_⟩
      obtain ⟨c0, b1, b2⟩ := a3 p' cv hcv
      exact ⟨c0, b1, exn _ _ b2 codeO_ne⟩
/-! ### the lambda's names -/
/-- one parameter p; else captured names and globals -/
structure LamP (sc scope : Scope) (p : Str) : Prop where
  kind : scope.kind = .function
  co : scope.isCoroutine = false
  gen : scope.isGenerator = false
  own : ∀ y ∈ scope.names, (y.2 = .local → y.1 = p) ∧ y.2 ≠ .cell
  par : scope.names.lookup p = some .local
  free : ∀ y ∈ scope.names, y.2 = .free → sc.names.lookup y.1 = some .cell ∨ sc.names.lookup y.1 = some .free
def lamPB (sc scope : Scope) (p : Str) : Bool :=
  decide (scope.kind = .function) && !scope.isCoroutine && !scope.isGenerator && decide (scope.names.lookup p = some .local) && scope.names.all fun y => (!decide (y.2 = .local) || decide (y.1 = p)) && !decide (y.2 = .cell) && (!decide (y.2 = .free) || decide (sc.names.lookup y.1 = some .cell) || decide (sc.names.lookup y.1 = some .free))
theorem lamP_by {sc scope : Scope} {p : Str} (h : lamPB sc scope p = true) : LamP sc scope p := by
  unfold lamPB at h
  simp only [Bool.and_eq_true, Bool.or_eq_true, Bool.not_eq_true', decide_eq_true_eq, decide_eq_false_iff_not, List.all_eq_true] at h
  obtain ⟨⟨⟨⟨h1, h2⟩, h3⟩, h5⟩, h4⟩ := h
  refine ⟨h1, h2, h3, fun y hy => ⟨fun e => ?_, (h4 y hy).1.2⟩, h5, fun y hy e => ?_⟩
  · exact (h4 y hy).1.1.elim (fun z => absurd e z) id
  · rcases (h4 y hy).2 with (z | z) | z
    · exact absurd e z
    · exact .inl z
    · exact .inr z
theorem LamP.has {X : Cx} {scope : Scope} {p : Str} (L : LamP X.env.scope scope p) (ok : X.Ok) : ∀ y ∈ scope.names, y.2 = .free → ∃ c, X.env.cells.lookup y.1 = some c := fun y hy e => by
  rcases L.free y hy e with k | k
  · exact ok.has _ (.inl k)
  · exact ok.has _ (.inr k)
/-- the context of the lambda's body, entered at s from the frames outer -/
def lamCx1 (X : Cx) (A : Around) (outer : List PySem.Env) (s : Shared) (H : Hp) (E : XK) (scope : Scope) (f c' : Addr) (p : Str) : Cx where
  prog := X.prog
  w := X.w
  K := X.K
  mg := X.mg
  base := X.base
  A := A.deeper (lamEnv X scope s.heap.objs.size f c')
  N := X.N ++ [p]
  s_0 := s
  H_0 := H
  env := lamEnv X scope s.heap.objs.size f c'
  outer := outer
  stack := lamEnv X scope s.heap.objs.size f c' :: outer
  ex := []
  fn := fun _ => false
  calm := true
  pn := []
  xe := fun e s' => wpAny (model X.prog X.w) (A.deeper (lamEnv X scope s.heap.objs.size f c')) (leaving (lamEnv X scope s.heap.objs.size f c') e) (fun _ s'' => L2.CX X.prog X.w outer H s E e s'') (fun e' s'' => L2.CX X.prog X.w outer H s E e' s'') s'
theorem lam_start1 {A : Around} {outer : List PySem.Env} {E : XK} {scope : Scope} {f c' : Addr} {p : Str} {n : V} {u : Value} {h₁ : Heap} {tk : Nat} (I : Inv X pins σ H s) (L : LamP X.env.scope scope p) (hp : p ∉ X.N) (e0 : Env0 X.prog X.w X.K X.mg X.base A outer s1 HZ) (hd : A.handled = none)
    (un : Un (frs X.stack) [] H HZ s.heap s1.heap) (rn : RelV n u) (hns : h₁.Ns s1.heap.objs.size fun y => ([(p, u)] : List (Str × Value)).reverse.lookup y) (kp : ∀ b o, s1.heap.get? b = some o → h₁.get? b = some o) :
    Inv (lamCx1 X A outer s1 HZ E scope f c' p) [] (σ ++ [some n]) HZ { s1 with heap := h₁, toks := tk } := by
  have hfree := L.has I.ok
  have cm : ∀ {y c}, (cloFrom X.env.cells scope.names []).lookup y = some c → X.env.cells.lookup y = some c := fun {y c} e => by
    rcases cloFrom_mem (PySem.mem_of_lookup e) with hm | ⟨h1, h2⟩
    · cases hm
    · obtain ⟨c1, hc⟩ := hfree _ h1 rfl
      have hc : X.env.cells.lookup y = some c1 := hc
      have e2 : c = c1 := by
        rw [h2, hc] <;> rfl
      rw [e2]
      exact hc
  have look : ∀ {y}, scope.names.lookup y = some .free → ∃ c, (cloFrom X.env.cells scope.names []).lookup y = some c := fun {y} hl => by
    have hy : (y, NameKind.free) ∈ scope.names := PySem.mem_of_lookup hl
    exact mem_lookup (cloFrom_has (cells := X.env.cells) (acc := []) hy)
  have cellK : ∀ {c : Addr} {v : Option Value}, H c = none → s.heap.IsCell c v → h₁.IsCell c v := fun {c v} n ⟨o, ho, hd⟩ => by
    obtain ⟨sl, q⟩ := un.any ho n (by simp)
    exact ⟨_, kp _ _ q, hd⟩
  have noA : ∀ b : Addr, b ∉ (lamCx1 X A outer s1 HZ E scope f c' p).ex := fun b z => absurd (show b ∈ ([] : List Addr) from z) (by simp)
  refine ⟨⟨e0.mod, L.kind, rfl, rfl, Nat.le_refl _, fun y z c e1 e2 => I.ok.inj y z c (cm e1) (cm e2), fun y hy => ?_, fun y c z _ => ?_, fun _ => hd, Around.frames_deeper e0.frames, .inr ⟨rfl, rfl⟩, fun b z => absurd z (noA b), e0.bs, e0.bsz, fun b _ _ => noA b,
      fun b z => absurd z (noA b), e0.funs, e0.frf⟩,
    rfl, e0.bare, Un.kept kp, ⟨_, hns, fun i y v e1 e2 e3 => ?_⟩, fun y c e => ?_, e0.hok.fresh (Nat.le_refl _), fun y c e => ?_, fun q hq => absurd (show q ∈ ([] : List (Addr × Obj)) ++ [] from hq) (by simp), e0.hok.kept kp, ?_⟩
  · have hy : scope.names.lookup y = some .cell ∨ scope.names.lookup y = some .free := hy
    rcases hy with hy | hy
    · exact absurd rfl (L.own _ (PySem.mem_of_lookup hy)).2
    · exact look hy
  · have z : false = true := z
    cases z
  · have e3 : Vis scope y := e3
    have e1 : (X.N ++ [p])[i]? = some y := e1
    have e2 : (σ ++ [some n])[i]? = some (some v) := e2
    have hlen := I.len
    rcases Nat.lt_or_ge i X.N.length with hi | hi
    · rw [List.getElem?_append_left hi] at e1
      rw [List.getElem?_append_left (by omega)] at e2
      have hyN : y ∈ X.N := List.mem_of_getElem? e1
      rcases e3 with k | k | k
      · have := (L.own _ (PySem.mem_of_lookup k)).1 rfl
        have this : y = p := this
        exact absurd (this ▸ hyN) hp
      · exact absurd rfl (L.own _ (PySem.mem_of_lookup k)).2
      · obtain ⟨m, hn, hl⟩ := I.loc
        have hvis : Vis X.env.scope y := (L.free _ (PySem.mem_of_lookup k) rfl).elim (fun k => .inr (.inl k)) (fun k => .inr (.inr k))
        obtain ⟨w', r, q⟩ := hl i y v e1 e2 hvis
        obtain ⟨c2, h2⟩ := look k
        refine ⟨w', r, .inr ⟨.inr k, c2, h2, ?_⟩⟩
        have c1 := cm h2
        rcases q with ⟨k', _⟩ | ⟨_, c3, e', z⟩
        · have k' : X.env.scope.names.lookup y = some .local := k'
          rcases L.free _ (PySem.mem_of_lookup k) rfl with k2 | k2 <;> rw [show X.env.scope.names.lookup y = _ from k2] at k' <;> cases k'
        · rw [c1] at e'
          cases e'
          exact cellK (I.freeC y _ c1) z
    · rw [List.getElem?_append_right hi] at e1
      rw [List.getElem?_append_right (by omega)] at e2
      have hz : i - X.N.length = 0 := by
        by_cases h0 : i - X.N.length = 0
        · exact h0
        · rw [List.getElem?_eq_none (by simp; omega)] at e1
          cases e1
      rw [hz] at e1
      rw [show i - σ.length = 0 by omega] at e2
      cases e1
      cases e2
      refine ⟨u, rn, .inl ⟨L.par, ?_⟩⟩
      show ([(p, u)] : List (Str × Value)).reverse.lookup p = some u
      simp [List.lookup]
  · obtain ⟨w', z⟩ := I.cell y c (cm e)
    exact ⟨w', cellK (I.freeC y c (cm e)) z⟩
  · obtain ⟨v, o, ho, hd⟩ := I.cell y c (cm e)
    exact un.free c o ho (I.freeC y c (cm e)) (by simp)
  · show (σ ++ [some n]).length = (X.N ++ [p]).length
    rw [List.length_append, List.length_append, I.len]
    rfl
/-- x(e), in the def that got the lambda: Z is that def's context, entered at s -/
theorem pe_act1 {CXg : CXT} {Eg : XK} {Ng : List Str} {qg : Str} {sg : Scope} {g f c' : Addr} {cdg pm ctv : Value} {params : Arguments} {body : Expr} {scope : Scope} {k i : Nat} {a p : Str} {pn : List (Addr × Obj)} {xe : Value → Shared → Prop} {W : WX} {E : XK} {te tb : TE} {e : Expr} {p1 p2 : Pos}
    (I : Inv X pins σ H s) (L : LamP X.env.scope scope p) (hpN : p ∉ X.N) (hf : s.heap.get? f = some (PySem.W.kla_obj "<lambda>" (X.env.qual ++ "<lambda>") params body scope (cloFrom X.env.cells scope.names []) pm c' ctv)) (hfn : H f = none) (hfr : f ∉ frs X.stack)
    (hbind : ∀ u : Value, bindArgs (PySem.W.kla_fn "<lambda>" (X.env.qual ++ "<lambda>") params body scope (cloFrom X.env.cells scope.names []) pm (.ref c') ctv) ⟨[u], []⟩ = pure [(p, u)])
    (tk : Takes ((cxOf CXg X.prog X.w X.K X.mg X.base Ng qg sg g cdg X.A X.stack s H Eg).tr pn xe) W) (hW : ∀ cls d σ' H', E cls d H' → W cls d σ' H') (hr : Room (k + 1) (X.A.deeper (envOfC qg sg s.heap.objs.size g cdg)))
    (hbody : ∀ (A : Around) (outer : List PySem.Env) (s : Shared) (H : Hp), A.guards = X.A.guards → Room k (A.deeper (lamEnv X scope s.heap.objs.size f c')) → PE (lamCx1 X A outer s H E scope f c' p) body tb)
    (he : PE ((cxOf CXg X.prog X.w X.K X.mg X.base Ng qg sg g cdg X.A X.stack s H Eg).tr pn xe) e te)
    (hN : Ng[i]? = some a) (hv : Vis sg a) (hd : (a == ("__debug__" : Str)) = false := by decide) (hcd : (a == ("__classdict__" : Str)) = false := by decide)
    (hs : starEach [e] ((cxOf CXg X.prog X.w X.K X.mg X.base Ng qg sg g cdg X.A X.stack s H Eg).tr pn xe).env = (false, eval e ((cxOf CXg X.prog X.w X.K X.mg X.base Ng qg sg g cdg X.A X.stack s H Eg).tr pn xe).env) :: starEach [] ((cxOf CXg X.prog X.w X.K X.mg X.base Ng qg sg g cdg X.A X.stack s H Eg).tr pn xe).env) :
    PE ((cxOf CXg X.prog X.w X.K X.mg X.base Ng qg sg g cdg X.A X.stack s H Eg).tr pn xe) (.Call (.Name a p1) [e] [] p2)
      (fun σZ HZ Q => σZ[i]? = some (some (.ref f)) ∧ te σZ HZ fun n H1 => H1 c' = some (CodeO c' (X.env.qual ++ "<lambda>")) ∧ tb (σ ++ [some n]) H1 Q) := by
  refine ⟨fun pinsZ sZ σZ HZ Q IZ h => ?_⟩
  obtain ⟨hsl, ht⟩ := h
  refine wpAny_Call_Name_kw (thn ((pe_var (pos := p1) (i := i) hN hv hd hcd).run pinsZ sZ σZ HZ (fun v H1 => v = .ref f ∧ H1 = HZ) IZ ⟨.ref f, hsl, rfl, rfl⟩) fun u s1 ⟨v, H1, I1, r1, q1⟩ => ?_)
  obtain ⟨ev, eH⟩ := q1
  subst ev
  rw [eH] at I1
  obtain rfl : u = Value.ref f := r1
  have ofA : ∀ {s2 : Shared} {H2 : Hp}, Inv ((cxOf CXg X.prog X.w X.K X.mg X.base Ng qg sg g cdg X.A X.stack s H Eg).tr pn xe) pinsZ σZ H2 s2 → s2.heap.get? f = some (PySem.W.kla_obj "<lambda>" (X.env.qual ++ "<lambda>") params body scope (cloFrom X.env.cells scope.names []) pm c' ctv) := fun J => J.base.keep f _ hf hfn hfr (fun z => nomatch (show f ∈ ([] : List Addr) from z))
  refine PySem.W.callWith_F ⟨_, _, _, _, ofA I1⟩ ?_ hs rfl
  rw [hs]
  refine Calls.spliced_cons (thn (he.run pinsZ s1 σZ HZ _ I1 ht) fun u2 s2 ⟨n, H2, I2, r2, hc, q2⟩ => Calls.spliced_nil ?_)
  refine ⟨⟨_, _, _, _, ofA I2⟩, ?_⟩
  have un : Un (frs X.stack) [] H H2 s.heap s2.heap := I2.base
  obtain ⟨⟨oc, vs, t, hoc, hdc, hvc⟩, _, _⟩ := I2.hok c' _ hc
  have rc : codeAny (model X.prog X.w) (X.A.deeper (envOfC qg sg s.heap.objs.size g cdg)) (.call (.ref f) ⟨[u2], []⟩) (CR (L2.CX X.prog X.w) (envOfC qg sg s.heap.objs.size g cdg :: X.stack) X.prog X.w H2 s2 Q E) s2 := by
    refine PySem.W.kla_callFunE hr.depth (ofA I2) rfl L.co L.gen rfl ⟨c', oc, vs, t, rfl, hoc, hdc, hvc⟩ ?_
    rw [hbind u2]
    refine wpAny_pure (wpAny_newFunctionEnv (fun y hy => (L.own y hy).2) (fun y hy => by rw [List.mem_singleton.mp hy]; exact L.par) (fun h₁ hns hsb => ⟨I2.nolimit.fresh _ hsb, ?_⟩) L.kind)
    show codeAny _ _ (.expr body (lamEnv X scope s2.heap.objs.size f c')) _ _
    have kp : ∀ b o, s2.heap.get? b = some o → h₁.get? b = some o := fun b o e => hsb.extBut b o (Nat.ne_of_lt (Heap.lt_size e)) (Heap.get?_push_of_some _ e)
    have J : Inv (lamCx1 X (X.A.deeper (envOfC qg sg s.heap.objs.size g cdg)) (envOfC qg sg s.heap.objs.size g cdg :: X.stack) s2 H2 E scope f c' p) [] (σ ++ [some n]) H2 { s2 with heap := h₁, toks := s2.toks + ([(p, u2)] : List (Str × Value)).length } :=
      lam_start1 I L hpN I2.env0 hr.hd un r2 hns kp
    refine PySem.W.kla_codeExpr (wpAny_mono ((hbody (X.A.deeper (envOfC qg sg s.heap.objs.size g cdg)) _ s2 H2 rfl (hr.deeper _)).run [] _ _ H2 Q J q2) (fun v s' hq => ?_) fun e s' hq => hq)
    obtain ⟨w', H', J', rv, q⟩ := hq
    exact ⟨w', H', J'.os, J'.bare, J'.base, J'.hok, rv, q⟩
  have hx : Passes (L2.CX X.prog X.w) ((cxOf CXg X.prog X.w X.K X.mg X.base Ng qg sg g cdg X.A X.stack s H Eg).tr pn xe) E := passes_call tk hW
  refine wpAny_call (codeAny_mono rc fun r s' hq => ?_)
  cases r with
  | error e => exact hx pinsZ σZ H2 s2 e s' I2 hq
  | ok fl =>
    cases fl with
    | ret u => exact I2.after hq
    | next => exact False.elim hq
    | brk => exact False.elim hq
    | cont => exact False.elim hq
end
end PF
set_option Elab.async false
set_option linter.all false
set_option maxRecDepth 100000
set_option maxHeartbeats 4000000
/-! PFAC: a lambda without parameters that captures names of its def, handed to another def; it may raise. -/
namespace PF
open PySem L2 Evl PySem.Spec PyProof.Rows LamX
section
variable {X : Cx} {pins : List (Addr × Obj)} {σ : L2.St} {H HZ : Hp} {s s1 : Shared}
/-! ### the lambda's names -/
/-- one parameter p; else captured names and globals -/
structure LamP0 (sc scope : Scope) : Prop where
  kind : scope.kind = .function
  co : scope.isCoroutine = false
  gen : scope.isGenerator = false
  own : ∀ y ∈ scope.names, y.2 ≠ .local ∧ y.2 ≠ .cell
  free : ∀ y ∈ scope.names, y.2 = .free → sc.names.lookup y.1 = some .cell ∨ sc.names.lookup y.1 = some .free
def lamPB0 (sc scope : Scope) : Bool :=
  decide (scope.kind = .function) && !scope.isCoroutine && !scope.isGenerator && scope.names.all fun y => !decide (y.2 = .local) && !decide (y.2 = .cell) && (!decide (y.2 = .free) || decide (sc.names.lookup y.1 = some .cell) || decide (sc.names.lookup y.1 = some .free))
theorem lamP0_by {sc scope : Scope} (h : lamPB0 sc scope = true) : LamP0 sc scope := by
  unfold lamPB0 at h
  simp only [Bool.and_eq_true, Bool.or_eq_true, Bool.not_eq_true', decide_eq_true_eq, decide_eq_false_iff_not, List.all_eq_true] at h
  obtain ⟨⟨⟨h1, h2⟩, h3⟩, h4⟩ := h
  refine ⟨h1, h2, h3, fun y hy => ⟨(h4 y hy).1.1, (h4 y hy).1.2⟩, fun y hy e => ?_⟩
  · rcases (h4 y hy).2 with (z | z) | z
    · exact absurd e z
    · exact .inl z
    · exact .inr z
theorem LamP0.has {X : Cx} {scope : Scope} (L : LamP0 X.env.scope scope) (ok : X.Ok) : ∀ y ∈ scope.names, y.2 = .free → ∃ c, X.env.cells.lookup y.1 = some c := fun y hy e => by
  rcases L.free y hy e with k | k
  · exact ok.has _ (.inl k)
  · exact ok.has _ (.inr k)
/-- the context of the lambda's body, entered at s from the frames outer -/
def lamCx0 (X : Cx) (A : Around) (outer : List PySem.Env) (s : Shared) (H : Hp) (E : XK) (scope : Scope) (f c' : Addr) : Cx where
  prog := X.prog
  w := X.w
  K := X.K
  mg := X.mg
  base := X.base
  A := A.deeper (lamEnv X scope s.heap.objs.size f c')
  N := X.N
  s_0 := s
  H_0 := H
  env := lamEnv X scope s.heap.objs.size f c'
  outer := outer
  stack := lamEnv X scope s.heap.objs.size f c' :: outer
  ex := []
  fn := fun _ => false
  calm := true
  pn := []
  xe := fun e s' => wpAny (model X.prog X.w) (A.deeper (lamEnv X scope s.heap.objs.size f c')) (leaving (lamEnv X scope s.heap.objs.size f c') e) (fun _ s'' => L2.CX X.prog X.w outer H s E e s'') (fun e' s'' => L2.CX X.prog X.w outer H s E e' s'') s'
theorem lam_start0 {A : Around} {outer : List PySem.Env} {E : XK} {scope : Scope} {f c' : Addr} {h₁ : Heap} {tk : Nat} (I : Inv X pins σ H s) (L : LamP0 X.env.scope scope) (e0 : Env0 X.prog X.w X.K X.mg X.base A outer s1 HZ) (hd : A.handled = none)
    (un : Un (frs X.stack) [] H HZ s.heap s1.heap) (hns : h₁.Ns s1.heap.objs.size fun y => ([] : List (Str × Value)).reverse.lookup y) (kp : ∀ b o, s1.heap.get? b = some o → h₁.get? b = some o) :
    Inv (lamCx0 X A outer s1 HZ E scope f c') [] σ HZ { s1 with heap := h₁, toks := tk } := by
  have hfree := L.has I.ok
  have cm : ∀ {y c}, (cloFrom X.env.cells scope.names []).lookup y = some c → X.env.cells.lookup y = some c := fun {y c} e => by
    rcases cloFrom_mem (PySem.mem_of_lookup e) with hm | ⟨h1, h2⟩
    · cases hm
    · obtain ⟨c1, hc⟩ := hfree _ h1 rfl
      have hc : X.env.cells.lookup y = some c1 := hc
      have e2 : c = c1 := by
        rw [h2, hc] <;> rfl
      rw [e2]
      exact hc
  have look : ∀ {y}, scope.names.lookup y = some .free → ∃ c, (cloFrom X.env.cells scope.names []).lookup y = some c := fun {y} hl => by
    have hy : (y, NameKind.free) ∈ scope.names := PySem.mem_of_lookup hl
    exact mem_lookup (cloFrom_has (cells := X.env.cells) (acc := []) hy)
  have cellK : ∀ {c : Addr} {v : Option Value}, H c = none → s.heap.IsCell c v → h₁.IsCell c v := fun {c v} n ⟨o, ho, hd⟩ => by
    obtain ⟨sl, q⟩ := un.any ho n (by simp)
    exact ⟨_, kp _ _ q, hd⟩
  have noA : ∀ b : Addr, b ∉ (lamCx0 X A outer s1 HZ E scope f c').ex := fun b z => absurd (show b ∈ ([] : List Addr) from z) (by simp)
  refine ⟨⟨e0.mod, L.kind, rfl, rfl, Nat.le_refl _, fun y z c e1 e2 => I.ok.inj y z c (cm e1) (cm e2), fun y hy => ?_, fun y c z _ => ?_, fun _ => hd, Around.frames_deeper e0.frames, .inr ⟨rfl, rfl⟩, fun b z => absurd z (noA b), e0.bs, e0.bsz, fun b _ _ => noA b,
      fun b z => absurd z (noA b), e0.funs, e0.frf⟩,
    rfl, e0.bare, Un.kept kp, ⟨_, hns, fun i y v e1 e2 e3 => ?_⟩, fun y c e => ?_, e0.hok.fresh (Nat.le_refl _), fun y c e => ?_, fun q hq => absurd (show q ∈ ([] : List (Addr × Obj)) ++ [] from hq) (by simp), e0.hok.kept kp, ?_⟩
  · have hy : scope.names.lookup y = some .cell ∨ scope.names.lookup y = some .free := hy
    rcases hy with hy | hy
    · exact absurd rfl (L.own _ (PySem.mem_of_lookup hy)).2
    · exact look hy
  · have z : false = true := z
    cases z
  · have e3 : Vis scope y := e3
    have e1 : X.N[i]? = some y := e1
    rcases e3 with k | k | k
    · exact absurd rfl (L.own _ (PySem.mem_of_lookup k)).1
    · exact absurd rfl (L.own _ (PySem.mem_of_lookup k)).2
    · obtain ⟨m, hn, hl⟩ := I.loc
      have hvis : Vis X.env.scope y := (L.free _ (PySem.mem_of_lookup k) rfl).elim (fun k => .inr (.inl k)) (fun k => .inr (.inr k))
      obtain ⟨w', r, q⟩ := hl i y v e1 e2 hvis
      obtain ⟨c2, h2⟩ := look k
      refine ⟨w', r, .inr ⟨.inr k, c2, h2, ?_⟩⟩
      have c1 := cm h2
      rcases q with ⟨k', _⟩ | ⟨_, c3, e', z⟩
      · have k' : X.env.scope.names.lookup y = some .local := k'
        rcases L.free _ (PySem.mem_of_lookup k) rfl with k2 | k2 <;> rw [show X.env.scope.names.lookup y = _ from k2] at k' <;> cases k'
      · rw [c1] at e'
        cases e'
        exact cellK (I.freeC y _ c1) z
  · obtain ⟨w', z⟩ := I.cell y c (cm e)
    exact ⟨w', cellK (I.freeC y c (cm e)) z⟩
  · obtain ⟨v, o, ho, hd⟩ := I.cell y c (cm e)
    exact un.free c o ho (I.freeC y c (cm e)) (by simp)
  · exact I.len
/-- x(), in the def that got the lambda: Z is that def's context, entered at s -/
theorem pe_act0 {CXg : CXT} {Eg : XK} {Ng : List Str} {qg : Str} {sg : Scope} {g f c' : Addr} {cdg pm ctv : Value} {params : Arguments} {body : Expr} {scope : Scope} {k i : Nat} {a : Str} {pn : List (Addr × Obj)} {xe : Value → Shared → Prop} {W : WX} {tb : XK → TE} {p1 p2 : Pos} {σ0 : L2.St}
    (I : Inv X pins σ H s) (L : LamP0 X.env.scope scope) (hf : s.heap.get? f = some (PySem.W.kla_obj "<lambda>" (X.env.qual ++ "<lambda>") params body scope (cloFrom X.env.cells scope.names []) pm c' ctv)) (hfn : H f = none) (hfr : f ∉ frs X.stack)
    (hbind : bindArgs (PySem.W.kla_fn "<lambda>" (X.env.qual ++ "<lambda>") params body scope (cloFrom X.env.cells scope.names []) pm (.ref c') ctv) ⟨[], []⟩ = pure [])
    (tk : Takes ((cxOf CXg X.prog X.w X.K X.mg X.base Ng qg sg g cdg X.A X.stack s H Eg).tr pn xe) W) (hr : Room (k + 1) (X.A.deeper (envOfC qg sg s.heap.objs.size g cdg)))
    (hbody : ∀ (E : XK) (A : Around) (outer : List PySem.Env) (s : Shared) (H : Hp), A.guards = X.A.guards → Room k (A.deeper (lamEnv X scope s.heap.objs.size f c')) → PE (lamCx0 X A outer s H E scope f c') body (tb E))
    (hN : Ng[i]? = some a) (hv : Vis sg a) (hσ : σ0[i]? = some (some (.ref f))) (hd : (a == ("__debug__" : Str)) = false := by decide) (hcd : (a == ("__classdict__" : Str)) = false := by decide) :
    PE ((cxOf CXg X.prog X.w X.K X.mg X.base Ng qg sg g cdg X.A X.stack s H Eg).tr pn xe) (.Call (.Name a p1) [] [] p2)
      (fun σZ HZ Q => σZ = σ0 ∧ HZ c' = some (CodeO c' (X.env.qual ++ "<lambda>")) ∧ tb (fun cls d H' => W cls d σ0 H') σ HZ Q) := by
  refine ⟨fun pinsZ sZ σZ HZ Q IZ h => ?_⟩
  obtain ⟨hsl, hc, q2⟩ := h
  subst hsl
  refine wpAny_Call_Name_kw (thn ((pe_var (pos := p1) (i := i) hN hv hd hcd).run pinsZ sZ σZ HZ (fun v H1 => v = .ref f ∧ H1 = HZ) IZ ⟨.ref f, hσ, rfl, rfl⟩) fun u s2 ⟨v, H2, I2, r1, q1⟩ => ?_)
  obtain ⟨ev, eH⟩ := q1
  subst ev
  rw [eH] at I2
  obtain rfl : u = Value.ref f := r1
  have ofA : ∀ {s2 : Shared} {H2 : Hp}, Inv ((cxOf CXg X.prog X.w X.K X.mg X.base Ng qg sg g cdg X.A X.stack s H Eg).tr pn xe) pinsZ σZ H2 s2 → s2.heap.get? f = some (PySem.W.kla_obj "<lambda>" (X.env.qual ++ "<lambda>") params body scope (cloFrom X.env.cells scope.names []) pm c' ctv) := fun J => J.base.keep f _ hf hfn hfr (fun z => nomatch (show f ∈ ([] : List Addr) from z))
  refine PySem.W.callWith_F0 ⟨_, _, _, _, ofA I2⟩ ?_
  have un : Un (frs X.stack) [] H HZ s.heap s2.heap := I2.base
  obtain ⟨⟨oc, vs, t, hoc, hdc, hvc⟩, _, _⟩ := I2.hok c' _ hc
  have rc : codeAny (model X.prog X.w) (X.A.deeper (envOfC qg sg s.heap.objs.size g cdg)) (.call (.ref f) ⟨[], []⟩) (CR (L2.CX X.prog X.w) (envOfC qg sg s.heap.objs.size g cdg :: X.stack) X.prog X.w HZ s2 Q (fun cls d H' => W cls d σZ H')) s2 := by
    refine PySem.W.kla_callFunE hr.depth (ofA I2) rfl L.co L.gen rfl ⟨c', oc, vs, t, rfl, hoc, hdc, hvc⟩ ?_
    rw [hbind]
    refine wpAny_pure (wpAny_newFunctionEnv (fun y hy => (L.own y hy).2) (fun y hy => by simp at hy) (fun h₁ hns hsb => ⟨I2.nolimit.fresh _ hsb, ?_⟩) L.kind)
    show codeAny _ _ (.expr body (lamEnv X scope s2.heap.objs.size f c')) _ _
    have kp : ∀ b o, s2.heap.get? b = some o → h₁.get? b = some o := fun b o e => hsb.extBut b o (Nat.ne_of_lt (Heap.lt_size e)) (Heap.get?_push_of_some _ e)
    have J : Inv (lamCx0 X (X.A.deeper (envOfC qg sg s.heap.objs.size g cdg)) (envOfC qg sg s.heap.objs.size g cdg :: X.stack) s2 HZ (fun cls d H' => W cls d σZ H') scope f c') [] σ HZ { s2 with heap := h₁, toks := s2.toks + ([] : List (Str × Value)).length } :=
      lam_start0 I L I2.env0 hr.hd un hns kp
    refine PySem.W.kla_codeExpr (wpAny_mono ((hbody _ (X.A.deeper (envOfC qg sg s.heap.objs.size g cdg)) _ s2 HZ rfl (hr.deeper _)).run [] _ _ HZ Q J q2) (fun v s' hq => ?_) fun e s' hq => hq)
    obtain ⟨w', H', J', rv, q⟩ := hq
    exact ⟨w', H', J'.os, J'.bare, J'.base, J'.hok, rv, q⟩
  refine wpAny_call (codeAny_mono rc fun r s' hq => ?_)
  cases r with
  | error e => exact tk e s' (XE.of_call I2 (fun cls d H' h => h) hq)
  | ok fl =>
    cases fl with
    | ret u => exact I2.after hq
    | next => exact False.elim hq
    | brk => exact False.elim hq
    | cont => exact False.elim hq
end
end PF
set_option Elab.async false
set_option linter.all false
set_option maxRecDepth 100000
set_option maxHeartbeats 4000000
/-! PFTM: a try with several clauses 'except C as e' (one name). -/
namespace PF
open PySem L2 Evl PySem.Spec PyProof.Rows
abbrev TSF := Addr → Value → Option Addr → TS
def backE (i : Nat) (D : Ends) : Ends := { nx := fun σ' H' => D.nx (σ'.set i none) H', rt := D.rt, bk := fun σ' H' => D.bk (σ'.set i none) H', ct := fun σ' H' => D.ct (σ'.set i none) H' }
/-- the clauses' wish of an exception, one clause behind another; none other is let out -/
def wClauses (K : PySem.W.Frag) (i : Nat) (D : Ends) : List (Value × TSF) → WX
  | [] => fun _ _ _ _ => False
  | (c, ts) :: r => fun cls d σ H => ∃ b, PySem.W.exmOne K cls c = some b ∧ (b = true → ∀ a, H a = none → ts a cls d (backE i D) (σ.set i (some (.ref a))) H) ∧ (b = false → wClauses K i D r cls d σ H)
inductive Clauses (X : Cx) (n : Str) : List ExceptHandler → List (Value × TSF) → Prop
  | nil : Clauses X n [] []
  | cons {x : Str} {c : Value} {ts : TSF} {b₀ : Stmt} {suite : List Stmt} {np pos' : Pos} {hds : List ExceptHandler} {l : List (Value × TSF)} (hc : Names X x c)
      (hsu : ∀ (a : Addr) (oe : Obj) (cls : Value) (d : Option Addr) (pn : List (Addr × Obj)), Zc cls d oe → (∃ vs, oe.data = .fields vs) → PSs (X.suite a ((a, oe) :: pn)) (b₀ :: suite) (ts a cls d)) (r : Clauses X n hds l) :
      Clauses X n (.ExceptHandler (some (.Name x np)) (some n) (b₀ :: suite) pos' :: hds) ((c, ts) :: l)
section
variable {X : Cx} {n : Str} {i : Nat} {body : List Stmt} {h₀ : ExceptHandler} {hds : List ExceptHandler} {l : List (Value × TSF)} {pos : Pos} {tb : WX → TS}
/-- one caught exception, landed: a clause takes it -/
theorem clauses_take {pins : List (Addr × Obj)} {D : Ends} {a : Addr} {B : Heap} {cls : Value} {d : Option Addr} {σ' : L2.St} {H' : Hp} {s' : Shared} {h3 : Heap} (ok : X.Ok) (hN : X.N.Nodup) (hi : X.N[i]? = some n) (hln : X.env.kindOf n = some .local)
    (fl3 : HandSPX.FlyingZ B (X.env :: X.outer) a (Zc cls d) h3) (J3 : Inv X pins σ' H' { s' with heap := h3 }) (again : ∀ h4, HandSPX.FlyingZ B (X.env :: X.outer) a (Zc cls d) h4 → h3.UpToSlots h4 → Inv X pins σ' H' { s' with heap := h4 })
    (na : H' a = none) (nL : a ≠ X.env.locals) (nF : a ∉ X.fs) {hds : List ExceptHandler} {l : List (Value × TSF)} (hk : Clauses X n hds l) (w : wClauses X.K i D l cls d σ' H') :
    wpAny (model X.prog X.w) X.A (handleBy (.ref a) X.env hds) (SP X pins D) X.xe { s' with heap := h3 } := by
  obtain ⟨oe3, vs3, he3, hz3, hd3⟩ := fl3.there
  have S3 := J3.suite he3 hd3 na nL nF
  have LT : PySem.W.Looks (model X.prog X.w) h3 (typeOf (.ref a)) cls := fun A Q E s k q => wpAny_typeOf_ref (k _ _ he3) (by rw [hz3.1]; exact q)
  induction hk with
  | nil => exact w.elim
  | @cons x c ts b₀ suite np pos' hds2 l2 hc hsu r ih =>
    obtain ⟨b, hb, yes, no⟩ := w
    refine wpAny_handleBy_cons (codeAny_handlers_test ?_) (by intro q; cases q)
    have LM := PySem.W.exm_one (M := model X.prog X.w) (J3.kIn) LT hb
    have cl : ∀ {Q : Value → Shared → Prop} {E : Value → Shared → Prop}, Q c { s' with heap := h3 } → wpAny (model X.prog X.w) (X.A.mark (some (.ref a))) (eval (.Name x np) X.env) Q E { s' with heap := h3 } := fun {Q E} q => by
      obtain ⟨hg, hdbg, hm | ⟨hm, hv, hnn⟩⟩ := hc
      · exact ld_glob (X := X.suite a ((a, oe3) :: (X.pn ++ pins))) S3 hg hm q hdbg
      · exact ld_blt (X := X.suite a ((a, oe3) :: (X.pn ++ pins))) S3 hg hm hv q hnn hdbg
    refine cl (LM.here ?_)
    cases b with
    | false => exact ih (no rfl)
    | true =>
      refine codeAny_handlers_suite_as (HandSPX.lands_againZ fl3 fun h4 fl4 up4 => ?_)
      have J4 := again h4 fl4 up4
      obtain ⟨oe4, vs4, he4, hz4, hd4⟩ := fl4.there
      have S4 := J4.suite he4 hd4 na nL nF
      refine store_ok (X := X.suite a ((a, oe4) :: (X.pn ++ pins))) (v := .ref a) S4 hN hi (.inl hln) rfl (fun s5 S5 => ?_) (.inr hln)
      refine wpAny_mono ((hsu a oe4 cls d (X.pn ++ pins) hz4 ⟨_, hd4⟩).run [] s5 _ H' _ S5 (yes rfl a na)) (fun f s6 hsp => ?_) (fun _ _ z => False.elim z)
      have fin : ∀ {σ6 : L2.St} {H6 : Hp} {Q : Shared → Prop}, Inv (X.suite a ((a, oe4) :: (X.pn ++ pins))) [] σ6 H6 s6 → (∀ s7, Inv X pins (σ6.set i none) H6 s7 → Q s7) →
          wpAny (model X.prog X.w) X.A (do bindName X.env n .none; unbindBehindTheSuite X.env n pos') (fun _ s7 => Q s7) X.xe s6 := fun {σ6 H6 Q} S6 hq => gone_ok (S6.unsuite ok) hN hi hln hq
      cases f with
      | next =>
        obtain ⟨σ6, H6, S6, q6⟩ := hsp
        exact fin S6 fun s7 J7 => ⟨_, _, J7, q6⟩
      | brk =>
        obtain ⟨σ6, H6, S6, q6⟩ := hsp
        exact fin S6 fun s7 J7 => ⟨_, _, J7, q6⟩
      | cont =>
        obtain ⟨σ6, H6, S6, q6⟩ := hsp
        exact fin S6 fun s7 J7 => ⟨_, _, J7, q6⟩
      | ret u =>
        obtain ⟨v6, σ6, H6, S6, r6, q6⟩ := hsp
        exact fin S6 fun s7 J7 => ⟨_, _, _, J7, r6, q6⟩
theorem ps_clauses (hs : X.stack = X.env :: X.outer) (hf : X.env.frame = some X.env.locals) (hN : X.N.Nodup) (hi : X.N[i]? = some n) (hln : X.env.kindOf n = some .local)
    (hb : ∀ (W : WX) (pn : List (Addr × Obj)) (xe : Value → Shared → Prop), Takes (X.tr pn xe) W → PassesOwn (model X.prog X.w) X.A X.env xe → PSs (X.tr pn xe) body (tb W))
    (hh : Clauses X n (h₀ :: hds) l) : PS X (.Try body (h₀ :: hds) [] [] pos) (fun D σ H => tb (wClauses X.K i D l) D σ H) := by
  refine ⟨fun pins s σ H D I h => ?_⟩
  have ok := I.ok
  have hfr : X.A.frames = some (X.env :: X.outer) := by rw [ok.frames, hs]
  refine wpAny_Try_except (wpAny_mono ((hb (wClauses X.K i D l) (X.pn ++ pins) (fun e s₁ => wpAny (model X.prog X.w) X.A (noteFrame e X.env) (fun _ s₂ => wpAny (model X.prog X.w) X.A (setFlight e none) (fun _ s₃ =>
    wpAny (model X.prog X.w) X.A (handleBy e X.env (h₀ :: hds)) (SP X pins D) X.xe s₃) X.xe s₂) X.xe s₁) (fun u s' xx => ?_) PassesOwn.looking).run [] s σ H D (I.toTry _) h) (fun f s1 hsp => ?_) (fun e s1 he => he))
  · obtain ⟨a, B, sI, pins', σ', H', cls, d, rfl, J', nb, up, sky, na, os, ag, w⟩ := xx
    have J : Inv X pins σ' H' sI := J'.ofTry ok
    have sky' : Sky B (X.env :: X.outer) a (Zc cls d) X.env.locals s'.heap := by rw [← hs]; exact sky
    refine Sky.land Zc.steady hfr hf sky' fun h3 fl3 up3 => ?_
    have nfr : a ∉ frs (X.env :: X.outer) := fun hm => by
      obtain ⟨_, vs3, he3, _, hd3⟩ := fl3.there
      obtain ⟨_, o', e', hnf⟩ := fl3.2.2.1.mem hm
      rw [he3] at e'; cases e'
      exact hnf _ hd3
    refine clauses_take (D := D) ok hN hi hln fl3 (J.landed nb fl3.1 (up.trans up3) os ag) (fun h4 fl4 up4 => J.landed nb fl4.1 ((up.trans up3).trans up4) os ag) na
      (fun z => nfr (List.mem_filterMap.mpr ⟨X.env, List.mem_cons_self, by rw [hf, z]⟩)) (fun hm => ?_) hh w
    obtain ⟨e, he, q⟩ := List.mem_filterMap.mp hm
    exact nfr (List.mem_filterMap.mpr ⟨e, List.mem_cons_of_mem _ he, q⟩)
  · cases f with
    | next =>
      obtain ⟨σ', H', J', q⟩ := hsp
      exact wpAny_execs_nil ⟨σ', H', J'.ofTry ok, q⟩
    | brk =>
      obtain ⟨σ', H', J', q⟩ := hsp
      exact ⟨σ', H', J'.ofTry ok, q⟩
    | cont =>
      obtain ⟨σ', H', J', q⟩ := hsp
      exact ⟨σ', H', J'.ofTry ok, q⟩
    | ret u =>
      obtain ⟨v, σ', H', J', r, q⟩ := hsp
      exact ⟨v, σ', H', J'.ofTry ok, r, q⟩
end
end PF
set_option Elab.async false
set_option linter.all false
set_option maxRecDepth 100000
set_option maxHeartbeats 4000000
/-! PFCM: greatest_with(most, lambda number: ..): a def that tries the numbers from one downwards by what it got. -/
namespace PF
open PySem L2 Evl PySem.Spec PyProof.Rows LamX
/-- from n - 1 down to 0: the first number for which tl tells True -/
def TG (tl : V → Hp → VK → Prop) : Nat → Hp → VK → Prop
  | 0, H, Q => Q .non H
  | n + 1, H, Q => tl (.int n) H fun x H1 => ∃ b, x = .bl b ∧ (b = true → Q (.int n) H1) ∧ (b = false → TG tl n H1 Q)
/-- the text of such a def -/
def GreatB (bg : List Stmt) : Prop := ∃ (p1 p2 p3 p4 p5 p6 p7 p8 p9 p10 p11 p12 p13 p14 p15 p16 p17 : Pos) (j1 j2 j3 : Nat), bg =
  [.For (.Name "number" p1) (.Call (.Name "range" p2) [.Name "most" p3, .UnaryOp .USub (.Constant (.int 1) j1 p4) p5, .UnaryOp .USub (.Constant (.int 1) j2 p6) p7] [] p8)
    [.If (.Call (.Name "is_right" p9) [.Name "number" p10] [] p11) [.Return (some (.Name "number" p12)) p13] [] p14] [] p15,
   .Return (some (.Constant .none j3 p16)) p17]
theorem great_pss {Z : Cx} {bg : List Stmt} {f : Addr} {C : Hp → Prop} {tl : V → Hp → VK → Prop} (hB : GreatB bg) (own : PassesOwn (model Z.prog Z.w) Z.A Z.env Z.xe) (calm : Z.calm = true) (hg : Gl Z "range") (hm : Z.mg "range" = none)
    (hN : Z.N = (["most", "is_right", "number"] : List Str)) (v0 : Vis Z.env.scope "most") (v2 : Vis Z.env.scope "number") (l2 : Loc Z.env.scope "number") (lf : Z.env.scope.names.lookup ("number" : Str) = some .local)
    (act : ∀ p9 p10 p11, PE Z (.Call (.Name "is_right" p9) [.Name "number" p10] [] p11) fun σZ HZ Q => σZ[1]? = some (some (.ref f)) ∧ tVar 2 σZ HZ fun n H1 => C H1 ∧ tl n H1 Q)
    (mono : ∀ n H (Q Q' : VK), (∀ x H', Q x H' → Q' x H') → tl n H Q → tl n H Q') {M : Nat} (hM : M < 1000000000) {H : Hp} {Q : VK} (h : TG (fun n H' Q' => C H' ∧ tl n H' Q') (M + 1) H Q) :
    ∃ t, PSs Z bg t ∧ t { nx := fun _ H' => Q .non H', rt := Q } [some (.int M), some (.ref f), none] H := by
  obtain ⟨p1, p2, p3, p4, p5, p6, p7, p8, p9, p10, p11, p12, p13, p14, p15, p16, p17, j1, j2, j3, rfl⟩ := hB
  have n0 : Z.N[0]? = some ("most" : Str) := by rw [hN]; rfl
  have n2 : Z.N[2]? = some ("number" : Str) := by rw [hN]; rfl
  have nd : Z.N.Nodup := by rw [hN]; decide
  refine ⟨_, pss_cons (ps_for own calm (pi_range3 hg hm (pa_cons (pe_var (i := 0) n0 v0) (pa_cons (pe_un un_neg pe_int) (pa_cons (pe_un un_neg pe_int) pa_nil)))) (pg_name (i := 2) nd n2 l2 (.inr lf))
    (pss_one (ps_if (pt_val (act p9 p10 p11)) (pss_one (ps_ret (pe_var (i := 2) n2 v2))) pss_nil))) (pss_one (ps_ret pe_non)), ?_⟩
  have hR : RgC (M : Int) (-1) (-1) (M + 1) := by
    have := RgC.neg (i := (M : Int)) (j := -1) (by omega) (by omega) (by decide) (by decide)
    rw [show ((M : Int) - -1).toNat = M + 1 by omega] at this
    exact this
  refine ⟨.int M, rfl, 1, rfl, 1, rfl, (M : Int), -1, -1, M + 1, rfl, hR, ?_⟩
  refine for_rangeC (fun i σ H => i ≤ M + 1 ∧ σ.length = 3 ∧ σ[1]? = some (some (.ref f)) ∧ TG (fun n H' Q' => C H' ∧ tl n H' Q') (M + 1 - i) H Q) ⟨Nat.zero_le _, rfl, rfl, h⟩ ?_ ?_
  · rintro i σ H hi ⟨_, hl, hf, hT⟩
    have e : M + 1 - i = (M - i) + 1 := by omega
    rw [e] at hT
    have s2 : (σ.set 2 (some (V.int ((M : Int) + (i : Nat) * -1))))[2]? = some (some (V.int ((M : Int) + (i : Nat) * -1))) := by simp [hl]
    have s1 : (σ.set 2 (some (V.int ((M : Int) + (i : Nat) * -1))))[1]? = some (some (.ref f)) := by rw [List.getElem?_set]; simpa using hf
    have ev : (M : Int) + (i : Nat) * -1 = ((M - i : Nat) : Int) := by omega
    obtain ⟨hc, hT⟩ := hT
    refine ⟨s1, _, s2, hc, ?_⟩
    rw [ev] at s2 s1 ⊢
    refine mono _ _ _ _ (fun x H1 hx => ?_) hT
    obtain ⟨b, hb, ht, hn⟩ := hx
    refine ⟨b, hb, ?_⟩
    cases b with
    | true => exact ⟨_, s2, ht rfl⟩
    | false => exact ⟨by omega, by simp [hl], s1, by rw [show M + 1 - (i + 1) = M - i by omega]; exact hn rfl⟩
  · rintro σ H ⟨_, _, _, hT⟩
    rw [Nat.sub_self] at hT
    exact hT
theorem tE_mono {T : List (Addr × Str)} {K : PySem.W.Frag} {mg : Str → Option Value} {W : WX} {c : EX} {σ : L2.St} {H : Hp} {Q Q' : VK} (h : ∀ x H', Q x H' → Q' x H') (g : tE T false K mg W c σ H Q) : tE T false K mg W c σ H Q' := by
  obtain ⟨ρ, F, μ, S, s, hE, g⟩ := g
  exact ⟨ρ, F, μ, S, s, hE, GP.imp g fun d F' μ' H' S' _ _ _ k v rv => h v H' (k v rv)⟩
theorem gp_noX {α : Type} {K : PySem.W.Frag} {T : List (Addr × Str)} {F : Hp} {μ : List MA} {r : Out α} {ok : α → Hp → List MA → Hp → Store → Prop} {er er' : XV → Hp → List MA → Hp → Prop} (h : GP K T F μ (noX r) ok er) : GP K T F μ r ok er' := by
  match r, h with
  | some (.ok a, S), h => exact h
/-- the code that a table's def is told to hold is known -/
theorem SR.know1 {T : List (Addr × Str)} {K : PySem.W.Frag} {F H H1 : Hp} {μ : List MA} {S : Store} {c' P : Addr} {q : Str} (s : SR K T F μ S H) (hP : ∃ q, (P, q) ∈ T) (e : ∀ b o, H b = some o → b ≠ P → H1 b = some o) (t : Tabs T H1)
    (hc : H1 c' = some (CodeO c' q)) : ∃ F', Ex F F' ∧ SR K T F' μ S H1 ∧ F' c' = some (CodeO c' q) := by
  obtain ⟨q1, hP⟩ := hP
  have FP : F P = none := s.tabF _ hP
  have tabT : ∀ p ∈ T, ∃ ps, H1 p.1 = some (.tbl ps) := fun p hp => by
    obtain ⟨ps, h, _⟩ := t p hp
    exact ⟨ps, h⟩
  have ncT : ∀ p ∈ T, p.1 ≠ c' := fun p hp z => by
    obtain ⟨ps, h⟩ := tabT p hp
    rw [z, hc] at h
    unfold CodeO at h
    cases h
  have Fold : ∀ b o, F b = some o → H1 b = some o := fun b o hb => e b o (s.ex b o hb) (fun z => by rw [z, FP] at hb; cases hb)
  refine ⟨fun b => if b = c' then some (CodeO c' q) else F b, fun b o hb => ?_, ⟨fun b o hb => ?_, s.len, s.nd, fun n a ds e1 e2 => ?_, t, fun p hp => ?_⟩, if_pos rfl⟩
  · try dsimp only
    by_cases h2 : b = c'
    · rw [if_pos h2]
      have := Fold b o hb
      rw [h2, hc] at this
      exact this
    · rw [if_neg h2]; exact hb
  · try dsimp only at hb
    by_cases h2 : b = c'
    · rw [if_pos h2] at hb; cases hb; rw [h2]; exact hc
    · rw [if_neg h2] at hb; exact Fold b o hb
  · obtain ⟨h1, h2, hc3⟩ := s.ob n a ds e1 e2
    obtain ⟨o3, h3, hM⟩ := hc3.ho
    have aP : a.a ≠ P := fun z => by
      obtain ⟨ps, h, _⟩ := s.tab _ hP
      rw [z, h] at h3; cases h3
      rcases hM with ⟨_, z⟩ | ⟨_, _, _, z⟩ | ⟨_, z⟩ <;> cases z
    have a1 := e a.a _ h3 aP
    have ac : a.a ≠ c' := fun z => by
      rw [z, hc] at a1
      unfold CodeO at a1
      cases a1
      rcases hM with ⟨_, z⟩ | ⟨_, _, _, z⟩ | ⟨_, z⟩ <;> cases z
    refine ⟨by rw [if_neg ac]; exact h1, h2, hc3.mono (fun b o hb => ?_) (List.prefix_refl _) fun o ho => e a.a _ ho aP⟩
    try dsimp only
    by_cases h6 : b = c'
    · rw [if_pos h6]
      have := Fold b o hb
      rw [h6, hc] at this
      exact this
    · rw [if_neg h6]; exact hb
  · try dsimp only
    rw [if_neg (ncT p hp)]
    exact s.tabF p hp
section
variable {X : Cx} {T : List (Addr × Str)} {W : WX}
abbrev NoX : XK := fun _ _ _ => False
/-- x(m, lambda p: body), x such a def -/
theorem pe_great {e0 : Expr} {te0 : TE} {params pg : Arguments} {body : Expr} {scope sg : Scope} {bg : List Stmt} {x p : Str} {g c P : Addr} {fd : FuncData} {k : Nat} {tb : TE} {pp lpos pos : Pos}
    (hg : Gl X x) (hm : X.mg x = some (.ref g)) (FD : FunD X.K x x pg bg sg [] [] g fd) (pn : Posn pg bg sg x (["most", "is_right"] : List Str)) (Sg : FnScope (["most", "is_right", "number"] : List Str) (["most", "is_right"] : List Str) sg) (hB : GreatB bg)
    (hgs : sg.names.lookup ("range" : Str) = some .globalImplicit) (hmr : X.mg "range" = none) (l0 : sg.names.lookup ("most" : Str) = some .local) (l1 : sg.names.lookup ("is_right" : Str) = some .local) (l2 : sg.names.lookup ("number" : Str) = some .local)
    (TB : TabB X.base X.mg c P) (hcode : X.env.code = .ref c) (hmT : (P, X.env.qual ++ "<lambda>") ∈ T) (hu : ∀ p ∈ T, p.1 = P → p.2 = X.env.qual ++ "<lambda>") (hr : Room (k + 2) X.A) (L : LamP X.env.scope scope p) (hpN : p ∉ X.N) (hdef : defaultsOf params X.env = ([], []))
    (hbind : ∀ (q : Str) (cl : List (Str × Addr)) (pm cv ctv u : Value), bindArgs (PySem.W.kla_fn "<lambda>" q params body scope cl pm cv ctv) ⟨[u], []⟩ = pure [(p, u)])
    (h0 : PE X e0 te0) (hbody : ∀ (A : Around) (outer : List PySem.Env) (s : Shared) (H : Hp) (f c' : Addr), A.guards = X.A.guards → Room k (A.deeper (lamEnv X scope s.heap.objs.size f c')) → PE (lamCx1 X A outer s H NoX scope f c' p) body tb)
    (mono : ∀ σ H (Q Q' : VK), (∀ x H', Q x H' → Q' x H') → tb σ H Q → tb σ H Q')
    (hdb : (x == ("__debug__" : Str)) = false) (hs : starEach [e0, .Lambda params body scope lpos] X.env = (false, eval e0 X.env) :: starEach [.Lambda params body scope lpos] X.env) :
    PE X (.Call (.Name x pp) [e0, .Lambda params body scope lpos] [] pos) fun σ H Q => te0 σ H fun m H0 => ∃ M : Nat, m = .int M ∧ M < 1000000000 ∧ Tabs T H0 ∧
      ∀ (c' : Addr) (H1 : Hp), (∀ b o, H0 b = some o → b ≠ P → H1 b = some o) → Tabs T H1 → H1 c' = some (CodeO c' (X.env.qual ++ "<lambda>")) → TG (fun n H' Q' => H' c' = some (CodeO c' (X.env.qual ++ "<lambda>")) ∧ tb (σ ++ [some n]) H' Q') (M + 1) H1 Q := by
  refine ⟨fun pins s σ H Q I h => ?_⟩
  refine wpAny_Call_Name_kw (ld_glob I hg hm ?_ hdb)
  refine PySem.W.callWith_K (h₀ := X.base) I.ok.mod.kin FD.kp ?_ hs rfl
  rw [hs]
  show wpAny _ _ (spliced ((false, eval e0 X.env) :: backTo pos (starEach [.Lambda params body scope lpos] X.env))) _ _ s
  refine Calls.spliced_cons (thn (h0.run pins s σ H _ I h) fun um s1 ⟨m, H0, I0, rm, M, em, hM, T0, hT⟩ => ?_)
  subst em
  show wpAny _ _ (spliced ((false, eval (.Lambda params body scope lpos) X.env) :: backTo pos (starEach [] X.env))) _ _ s1
  refine Calls.spliced_cons (lam_make4 I0 TB hcode hmT hu T0 hdef (L.has I0.ok) fun f c' pm' ctv' H1 s' I1 eN T1 hf hfn hfr hco => ?_)
  refine Calls.spliced_nil ⟨I1.kIn, ?_⟩
  obtain ⟨oc, od, dV, kV, doc, pm, an, cdv, ct, osl, efd, lk, hcd, hD, hK⟩ := FD.ex
  have hbt := FunD.bindsA FD pn s' [um, .ref f] rfl
  subst efd
  have rc : codeAny (model X.prog X.w) X.A (.call (.ref g) ⟨[um, .ref f], []⟩) (CR C8.CX0 X.stack X.prog X.w H1 s' Q C8.E0) s' := by
    refine run_ofS (N := (["most", "is_right", "number"] : List Str)) (ps := (["most", "is_right"] : List Str)) (us := [um, .ref f]) (vs := [.int M, .ref f]) lk hcd Sg hr I1.env0 hbt (.cons rm (.cons rfl .nil)) rfl fun hr' => ?_
    exact great_pss (Z := cxOf C8.CX0 X.prog X.w X.K X.mg X.base (["most", "is_right", "number"] : List Str) x sg g cdv X.A X.stack s' H1 C8.E0) (f := f) (C := fun H' => H' c' = some (CodeO c' (X.env.qual ++ "<lambda>"))) (tl := fun n H' Q' => tb (σ ++ [some n]) H' Q')
      hB (passes_of rfl) rfl hgs hmr rfl (.inl l0) (.inl l2) (.inl l2) l2
      (fun p9 p10 p11 => pe_act1 (CXg := C8.CX0) (Eg := C8.E0) (i := 1) (pn := []) (xe := (cxOf C8.CX0 X.prog X.w X.K X.mg X.base (["most", "is_right", "number"] : List Str) x sg g cdv X.A X.stack s' H1 C8.E0).xe) (E := NoX) (W := fun _ _ _ _ => False)
        I1 L hpN hf hfn hfr (hbind _ _ _ _ _) takes0 (fun _ _ _ _ z => z) hr' (fun A outer s H hgu hr2 => hbody A outer s H f c' hgu hr2) (pe_var (i := 2) rfl (.inl l2)) rfl (.inl l1) (by decide) (by decide) rfl)
      (fun n H Q Q' hq hh => mono _ _ _ _ hq hh) hM (hT c' H1 eN T1 hco)
  refine wpAny_call (codeAny_mono rc fun r s2 hq => ?_)
  cases r with
  | error e => exact (show False from hq).elim
  | ok fl =>
    cases fl with
    | ret u => exact I1.after hq
    | next => exact False.elim hq
    | brk => exact False.elim hq
    | cont => exact False.elim hq

def greatGo (c : EX) (ρ : PF.Env) : Nat → Store → Out D
  | 0, S => some (.ok .non, S)
  | n + 1, S => bindO (noX (c (ρ ++ [some (.int n)]) S)) fun d S' => match d with
    | .bl true => some (.ok (.int n), S')
    | .bl false => greatGo c ρ n S'
    | _ => none
/-- x(m, lambda p: c) -/
def cGreat (m c : EX) : EX := fun ρ S => bindO (m ρ S) fun d S => match d with
  | .int i => if 0 ≤ i ∧ i < 1000000000 then greatGo c ρ (i.toNat + 1) S else none
  | _ => none
theorem env_snoc {K : PySem.W.Frag} {F : Hp} {μ : List MA} {ρ : PF.Env} {σ : L2.St} {d : D} {v : V} (h : EnvR K F μ ρ σ) (r : Rep K F μ d v) : EnvR K F μ (ρ ++ [some d]) (σ ++ [some v]) := by
  refine ⟨by rw [List.length_append, List.length_append, h.1]; rfl, fun i d' e => ?_⟩
  rcases Nat.lt_or_ge i ρ.length with hi | hi
  · rw [List.getElem?_append_left hi] at e
    obtain ⟨w, h1, h2⟩ := h.2 i d' e
    exact ⟨w, by rw [List.getElem?_append_left (by rw [← h.1]; exact hi)]; exact h1, h2⟩
  · rw [List.getElem?_append_right hi] at e
    by_cases h0 : i - ρ.length = 0
    · rw [h0] at e
      cases e
      exact ⟨v, by rw [List.getElem?_append_right (by rw [← h.1]; exact hi), ← h.1, h0]; rfl, r⟩
    · rw [List.getElem?_eq_none (by simp; omega)] at e
      cases e
theorem great_go {K : PySem.W.Frag} {mg : Str → Option Value} {W0 : WX} {σ : L2.St} {ρ : PF.Env} {c : EX} {c' : Addr} {q : Str} {Q : VK} {er : XV → Hp → List MA → Hp → Prop} : ∀ (n : Nat) (F : Hp) (μ : List MA) (S : Store) (H : Hp), EnvR K F μ ρ σ → F c' = some (CodeO c' q) → SR K T F μ S H →
    GP K T F μ (greatGo c ρ n S) (OkV K false Q) er → TG (fun n H' Q' => H' c' = some (CodeO c' q) ∧ tE T false K mg W0 c (σ ++ [some n]) H' Q') n H Q
  | 0, F, μ, S, H, hE, hc, s, g => gp_val g s .non
  | n + 1, F, μ, S, H, hE, hc, s, g => by
    unfold greatGo at g
    refine ⟨s.ex _ _ hc, ρ ++ [some (.int n)], F, μ, S, s, env_snoc hE (.int _), gp_noX (GP.seq g fun d F1 μ1 H1 S1 e1 p1 s1 g1 v rv => ?_)⟩
    split at g1
    · cases rv
      exact ⟨true, rfl, fun _ => gp_val g1 s1 (.int _), fun h => by cases h⟩
    · cases rv
      exact ⟨false, rfl, (fun h => Bool.noConfusion h), fun _ => great_go n F1 μ1 S1 H1 (hE.mono e1 p1) (e1 _ _ hc) s1 g1⟩
    · exact g1.elim
theorem pass_lam1 {A : Around} {outer : List PySem.Env} {s : Shared} {H : Hp} {E : XK} {scope : Scope} {f c' : Addr} {p : Str} : ∀ σ, PassesAt (L2.CX (lamCx1 X A outer s H E scope f c' p).prog (lamCx1 X A outer s H E scope f c' p).w) (lamCx1 X A outer s H E scope f c' p) σ fun cls d H' => E cls d H' := fun σ =>
  passAt (X := lamCx1 X A outer s H E scope f c' p) (W := fun cls d _ H' => E cls d H') (takes_of rfl rfl rfl rfl) σ
theorem re_great {e0 : Expr} {params pg : Arguments} {body : Expr} {scope sg : Scope} {bg : List Stmt} {x p q : Str} {k : Nat} {pp lpos pos : Pos} {m cb : EX}
    (hd : ∃ g fd, FunD X.K x x pg bg sg [] [] g fd ∧ X.mg x = some (.ref g)) (pn : Posn pg bg sg x (["most", "is_right"] : List Str)) (Sg : FnScope (["most", "is_right", "number"] : List Str) (["most", "is_right"] : List Str) sg) (hB : GreatB bg)
    (LC : LamCx X T q) (hr : Room (k + 2) X.A) (hmr : X.mg "range" = none) (hbind : ∀ (q : Str) (cl : List (Str × Addr)) (pm cv ctv u : Value), bindArgs (PySem.W.kla_fn "<lambda>" q params body scope cl pm cv ctv) ⟨[u], []⟩ = pure [(p, u)])
    (h0 : RE T false X W e0 m) (hbody : ∀ (A : Around) (outer : List PySem.Env) (s : Shared) (H : Hp) (f c' : Addr), A.guards = X.A.guards → Room k (lamCx1 X A outer s H NoX scope f c' p).A → RE T false (lamCx1 X A outer s H NoX scope f c' p) (fun cls d _ H' => NoX cls d H') body cb)
    (hL : lamPB X.env.scope scope p = true) (hpN : p ∉ X.N) (hdef : defaultsOf params X.env = ([], []) := by rfl)
    (hg : Gl X x := by rfl) (hgs : sg.names.lookup ("range" : Str) = some .globalImplicit := by rfl) (l0 : sg.names.lookup ("most" : Str) = some .local := by rfl) (l1 : sg.names.lookup ("is_right" : Str) = some .local := by rfl) (l2 : sg.names.lookup ("number" : Str) = some .local := by rfl)
    (hdb : (x == ("__debug__" : Str)) = false := by decide) (hs : starEach [e0, .Lambda params body scope lpos] X.env = (false, eval e0 X.env) :: starEach [.Lambda params body scope lpos] X.env := by rfl) :
    RE T false X W (.Call (.Name x pp) [e0, .Lambda params body scope lpos] [] pos) (cGreat m cb) := by
  obtain ⟨g, fd, FD, hm⟩ := hd
  obtain ⟨t0, pe0, rd0⟩ := h0
  have LC2 := LC
  rw [LC.qual] at LC2
  obtain ⟨c, P, TB, hcode, hmT, hu⟩ := LC2.ex
  refine ⟨_, pe_great (k := k) (te0 := t0) (tb := tE T false X.K X.mg (fun cls d _ H' => NoX cls d H') cb) hg hm FD pn Sg hB hgs hmr l0 l1 l2 TB hcode hmT hu hr (lamP_by hL) hpN hdef hbind pe0 (fun A outer s H f c' hgu hr2 => (hbody A outer s H f c' hgu hr2).pe) (fun σ H Q Q' hq hh => tE_mono hq hh) hdb hs, fun σ ρ F μ S H Q s hE gg => ?_⟩
  refine rd0 σ ρ F μ S H _ s hE (GP.seq gg fun d F1 μ1 H1 S1 e1 p1 s1 g1 v rv => ?_)
  split at g1
  · rename_i i
    split at g1
    · rename_i hi
      cases rv
      refine ⟨i.toNat, by rw [Int.toNat_of_nonneg hi.1], by omega, s1.tab, fun c' H2 e2 T2 hc2 => ?_⟩
      obtain ⟨F2, e3, s2, hF2⟩ := s1.know1 ⟨_, hmT⟩ e2 T2 hc2
      exact great_go _ F2 μ1 S1 H2 ((hE.mono e1 p1).mono e3 (List.prefix_refl _)) hF2 s2 (GP.mono g1 e3 (List.prefix_refl _))
    · exact g1.elim
  · exact g1.elim
end
end PF
set_option Elab.async false
set_option linter.all false
set_option maxRecDepth 100000
set_option maxHeartbeats 4000000
/-! PFTA: g(lambda: ..), g a def that calls its argument within a try. -/
namespace PF
open PySem L2 Evl PySem.Spec PyProof.Rows LamX
section
variable {X : Cx} {T : List (Addr × Str)} {W : WX}
/-- the context of such a def, entered at s' -/
abbrev tryZ (X : Cx) (act n x : Str) (sg : Scope) (g : Addr) (cdv : Value) (s' : Shared) (H1 : Hp) : Cx := cxOf C8.CX0 X.prog X.w X.K X.mg X.base ([act, n] : List Str) x sg g cdv X.A X.stack s' H1 C8.E0
theorem pe_tryact {params pg : Arguments} {body rest : Expr} {scope sg : Scope} {bg : List Stmt} {h₀ : ExceptHandler} {hds : List ExceptHandler} {l : List (Value × TSF)} {x act n : Str} {g c P : Addr} {fd : FuncData} {k : Nat} {tb : XK → TE} {tr : TE} {pp lpos pos p1 p2 p3 p4 p5 : Pos}
    (hg : Gl X x) (hm : X.mg x = some (.ref g)) (FD : FunD X.K x x pg bg sg [] [] g fd) (pn : Posn pg bg sg x ([act] : List Str)) (Sg : FnScope ([act, n] : List Str) ([act] : List Str) sg)
    (hB : bg = [.Try [.Expr (.Call (.Name act p1) [] [] p2) p3] (h₀ :: hds) [] [] p4, .Return (some rest) p5]) (hnd : ([act, n] : List Str).Nodup)
    (l0 : sg.names.lookup act = some .local) (l1 : sg.names.lookup n = some .local) (d0 : (act == ("__debug__" : Str)) = false) (d1 : (act == ("__classdict__" : Str)) = false)
    (TB : TabB X.base X.mg c P) (hcode : X.env.code = .ref c) (hmT : (P, X.env.qual ++ "<lambda>") ∈ T) (hu : ∀ p ∈ T, p.1 = P → p.2 = X.env.qual ++ "<lambda>") (hr : Room (k + 2) X.A) (L : LamP0 X.env.scope scope) (hdef : defaultsOf params X.env = ([], []))
    (hbind : ∀ (q : Str) (cl : List (Str × Addr)) (pm cv ctv : Value), bindArgs (PySem.W.kla_fn "<lambda>" q params body scope cl pm cv ctv) ⟨[], []⟩ = pure [])
    (hbody : ∀ (E : XK) (A : Around) (outer : List PySem.Env) (s : Shared) (H : Hp) (f c' : Addr), A.guards = X.A.guards → Room k (A.deeper (lamEnv X scope s.heap.objs.size f c')) → PE (lamCx0 X A outer s H E scope f c') body (tb E))
    (hcl : ∀ (cdv : Value) (s' : Shared) (H1 : Hp), Clauses (tryZ X act n x sg g cdv s' H1) n (h₀ :: hds) l) (hre : ∀ (cdv : Value) (s' : Shared) (H1 : Hp), PE (tryZ X act n x sg g cdv s' H1) rest tr)
    (hdb : (x == ("__debug__" : Str)) = false) (hs : starEach [.Lambda params body scope lpos] X.env = (false, eval (.Lambda params body scope lpos) X.env) :: starEach [] X.env) :
    PE X (.Call (.Name x pp) [.Lambda params body scope lpos] [] pos) fun σ H Q => Tabs T H ∧
      ∀ (f c' : Addr) (H1 : Hp), (∀ b o, H b = some o → b ≠ P → H1 b = some o) → Tabs T H1 → H1 c' = some (CodeO c' (X.env.qual ++ "<lambda>")) →
        tb (fun cls d H' => wClauses X.K 1 { nx := fun σ' H' => tr σ' H' Q, rt := Q } l cls d [some (.ref f), none] H') σ H1 (fun _ H2 => tr [some (.ref f), none] H2 Q) := by
  refine ⟨fun pins s σ H Q I h => ?_⟩
  obtain ⟨T0, hT⟩ := h
  refine wpAny_Call_Name_kw (ld_glob I hg hm ?_ hdb)
  refine PySem.W.callWith_K (h₀ := X.base) I.ok.mod.kin FD.kp ?_ hs rfl
  rw [hs]
  refine Calls.spliced_cons (lam_make4 I TB hcode hmT hu T0 hdef (L.has I.ok) fun f c' pm' ctv' H1 s' I1 eN T1 hf hfn hfr hco => ?_)
  refine Calls.spliced_nil ⟨I1.kIn, ?_⟩
  obtain ⟨oc, od, dV, kV, doc, pm, an, cdv, ct, osl, efd, lk, hcd, hD, hK⟩ := FD.ex
  have hbt := FunD.bindsA FD pn s' [.ref f] rfl
  subst efd
  have rc : codeAny (model X.prog X.w) X.A (.call (.ref g) ⟨[.ref f], []⟩) (CR C8.CX0 X.stack X.prog X.w H1 s' Q C8.E0) s' := by
    refine run_ofS (N := ([act, n] : List Str)) (ps := ([act] : List Str)) (us := [.ref f]) (vs := [.ref f]) lk hcd Sg hr I1.env0 hbt (.cons rfl .nil) rfl fun hr' => ?_
    rw [hB]
    refine ⟨_, pss_cons (ps_clauses (X := tryZ X act n x sg g cdv s' H1) (i := 1) (n := n) rfl rfl hnd rfl l1 (fun W pn xe tk po => pss_one (ps_expr (pe_act0 (X := X) (CXg := C8.CX0) (Eg := C8.E0) (i := 0) (σ0 := [some (.ref f), none]) I1 L hf hfn hfr (hbind _ _ _ _ _) tk hr'
      (fun E A outer s H hgu hr2 => hbody E A outer s H f c' hgu hr2) rfl (.inl l0) rfl d0 d1) rfl)) (hcl cdv s' H1)) (pss_one (ps_ret (hre cdv s' H1))), ?_⟩
    exact ⟨rfl, hco, hT f c' H1 eN T1 hco⟩
  refine wpAny_call (codeAny_mono rc fun r s2 hq => ?_)
  cases r with
  | error e => exact (show False from hq).elim
  | ok fl =>
    cases fl with
    | ret u => exact I1.after hq
    | next => exact False.elim hq
    | brk => exact False.elim hq
    | cont => exact False.elim hq
/-- g(lambda: c): what c gives is dropped, re is told; what c raises, sut turns into the answer -/
def cTryAct (c : EX) (sut : XV → Store → Out D) (re : Store → Out D) : EX := fun ρ S => match c ρ S with
  | some (.ok _, S') => noX (re S')
  | some (.error x, S') => noX (sut x S')
  | none => none
/-- the clauses tell what sut tells -/
def SutOk (fr : Bool) (T : List (Addr × Str)) (K : PySem.W.Frag) (mg : Str → Option Value) (l : List (Value × TSF)) (sut : XV → Store → Out D) : Prop :=
  ∀ (x : XV) (cls : Value) (dd : Option Addr) (F : Hp) (μ : List MA) (S : Store) (H : Hp) (D : Ends) (f : Addr), SR K T F μ S H → XRep K mg F μ x cls dd → GP K T F μ (sut x S) (OkV K fr fun v H' => D.rt v H') NoEr → wClauses K 1 D l cls dd [some (.ref f), none] H
theorem re_tryact {fr : Bool} {params pg : Arguments} {body rest : Expr} {scope sg : Scope} {bg : List Stmt} {h₀ : ExceptHandler} {hds : List ExceptHandler} {l : List (Value × TSF)} {x act n q : Str} {k : Nat} {cb : EX} {sut : XV → Store → Out D} {re : Store → Out D} {tr : TE} {pp lpos pos p1 p2 p3 p4 p5 : Pos}
    (hd : ∃ g fd, FunD X.K x x pg bg sg [] [] g fd ∧ X.mg x = some (.ref g)) (pn : Posn pg bg sg x ([act] : List Str)) (Sg : FnScope ([act, n] : List Str) ([act] : List Str) sg)
    (hB : bg = [.Try [.Expr (.Call (.Name act p1) [] [] p2) p3] (h₀ :: hds) [] [] p4, .Return (some rest) p5]) (hnd : ([act, n] : List Str).Nodup)
    (LC : LamCx X T q) (hr : Room (k + 2) X.A) (hbind : ∀ (q : Str) (cl : List (Str × Addr)) (pm cv ctv : Value), bindArgs (PySem.W.kla_fn "<lambda>" q params body scope cl pm cv ctv) ⟨[], []⟩ = pure [])
    (hbody : ∀ (E : XK) (A : Around) (outer : List PySem.Env) (s : Shared) (H : Hp) (f c' : Addr), A.guards = X.A.guards → Room k (lamCx0 X A outer s H E scope f c').A → RE T false (lamCx0 X A outer s H E scope f c') (fun cls d _ H' => E cls d H') body cb)
    (hL : lamPB0 X.env.scope scope = true)
    (hcl : ∀ (g : Addr) (cdv : Value) (s' : Shared) (H1 : Hp), Clauses (tryZ X act n x sg g cdv s' H1) n (h₀ :: hds) l) (hre : ∀ (g : Addr) (cdv : Value) (s' : Shared) (H1 : Hp), PE (tryZ X act n x sg g cdv s' H1) rest tr)
    (hsu : SutOk fr T X.K X.mg l sut) (hre2 : ∀ (σ0 : L2.St) (F : Hp) (μ : List MA) (S : Store) (H : Hp) (Q : VK), SR X.K T F μ S H → GP X.K T F μ (re S) (OkV X.K fr Q) NoEr → tr σ0 H Q)
    (hdef : defaultsOf params X.env = ([], []) := by rfl)
    (hg : Gl X x := by rfl) (l0 : sg.names.lookup act = some .local := by rfl) (l1 : sg.names.lookup n = some .local := by rfl) (d0 : (act == ("__debug__" : Str)) = false := by decide) (d1 : (act == ("__classdict__" : Str)) = false := by decide)
    (hdb : (x == ("__debug__" : Str)) = false := by decide) (hs : starEach [.Lambda params body scope lpos] X.env = (false, eval (.Lambda params body scope lpos) X.env) :: starEach [] X.env := by rfl) :
    RE T fr X W (.Call (.Name x pp) [.Lambda params body scope lpos] [] pos) (cTryAct cb sut re) := by
  obtain ⟨g, fd, FD, hm⟩ := hd
  have LC2 := LC
  rw [LC.qual] at LC2
  obtain ⟨c, P, TB, hcode, hmT, hu⟩ := LC2.ex
  refine ⟨_, pe_tryact (k := k) (tb := fun E => tE T false X.K X.mg (fun cls d _ H' => E cls d H') cb) hg hm FD pn Sg hB hnd l0 l1 d0 d1 TB hcode hmT hu hr (lamP0_by hL) hdef hbind (fun E A outer s H f c' hgu hr2 => (hbody E A outer s H f c' hgu hr2).pe) (hcl g) (hre g) hdb hs, fun σ ρ F μ S H Q s hE gg => ?_⟩
  refine ⟨s.tab, fun f c' H2 e2 T2 hc2 => ?_⟩
  obtain ⟨F2, e3, s2, hF2⟩ := s.know1 ⟨_, hmT⟩ e2 T2 hc2
  refine ⟨ρ, F2, μ, S, s2, hE.mono e3 (List.prefix_refl _), ?_⟩
  have g2 := GP.mono gg e3 (List.prefix_refl _)
  unfold cTryAct at g2
  match hc : cb ρ S with
  | none => rw [hc] at g2; exact g2.elim
  | some (.ok d, S') =>
    rw [hc] at g2
    exact fun F' μ' H' e p s' v rv => hre2 _ F' μ' S' H' Q s' (GP.noX (er' := NoEr) (GP.mono g2 e p))
  | some (.error x, S') =>
    rw [hc] at g2
    exact fun F' μ' H' e p s' cls dd hx => hsu x cls dd F' μ' S' H' _ f s' hx (GP.noX (er' := NoEr) (GP.mono g2 e p))
end
end PF
set_option Elab.async false
set_option linter.all false
set_option maxRecDepth 100000
set_option maxHeartbeats 4000000
/-! PFXI: an own exception whose __init__ says super().__init__(p); self.f = p. -/
namespace StX
open PySem PySem.Spec PyProof.Rows PySem.W PySem.Calls
/-- the text of such an __init__ -/
def InitB (b : List Stmt) (self p f : Str) : Prop := ∃ (q1 q2 q3 q4 q5 q6 q7 q8 q9 q10 : Pos), (q3.endLine == q5.line) = true ∧ b =
  [.Expr (.Call (.Attribute (.Call (.Name "super" q1) [] [] q2) "__init__" q3) [.Name p q4] [] q5) q6, .Assign [.Attribute (.Name self q7) f q8] (.Name p q9) q10]
structure XinK (P : Program) (K : Frag) (C : Addr) (f : Str) (fI : Addr) : Prop where
  fn : ∃ (oc : Value) (od : Option Addr) (osl : Array (Option Value)) (name qual : Str) (params : Arguments) (body : List Stmt) (scope : Scope) (dV kV doc pm ct : Value) (an : Option Addr) (cda cc : Addr) (self p : Str) (ar : Arg)
    (ccl : Value) (cdd : Option Addr) (vs : Array Value) (ccs : Array (Option Value)) (file : Str) (tf : Tok) (cl : Value) (cld : Option Addr) (csl : Array (Option Value)),
    K.lookup fI = some ⟨oc, od, .func (ksFn name qual params body scope dV kV doc pm an (.ref cda) ct cc), osl⟩ ∧ codeIn K (.ref cda) qual = true ∧
    K.lookup cda = some ⟨ccl, cdd, .fields vs, ccs⟩ ∧ vs[2]? = some (.str file tf) ∧ ((P.main.file : Str) == file) = true ∧ K.lookup cc = some ⟨cl, cld, .cell (some (.ref C)), csl⟩ ∧
    InitB body self p f ∧ (∀ u v : Value, bindArgs (ksFn name qual params body scope dV kV doc pm an (.ref cda) ct cc) ⟨[u, v], []⟩ = pure [(self, u), (p, v)]) ∧
    (params.posonlyargs ++ params.args).head? = some ar ∧ ar.arg = self ∧ self ≠ p ∧ scope.names.lookup ("super" : Str) = some .globalImplicit ∧ scope.names.lookup ("__class__" : Str) = some .free ∧
    scope.names.lookup self = some .local ∧ scope.names.lookup p = some .local ∧ (∀ x ∈ scope.names, x.2 ≠ .cell) ∧ scope.isCoroutine = false ∧ scope.isGenerator = false ∧ scope.kind = .function ∧ (p == ("__debug__" : Str)) = false ∧ (self == ("__debug__" : Str)) = false
  oex : L2.OexC K C
  init : findIn K (.ref C) "__init__" = some (some (.ref fI))
  tI : typeIn K (.ref fI) = some (.type "function")
  sup : ks_superIn K C C "__init__" = some (some (.builtin "ValueError.__init__"))
  sub : subIn K (.ref C) (.type "ValueError") = some true
  fld : findIn K (.ref C) f = some none
  own : mroIn K C (.ref C) = some true
  opq : nsIn K cStatics "thirdparty.any" = some none
  nsu : nsIn K mainGlobals "super" = some none
  top : (P.main.scope.names.lookup ("super" : Str)).isSome = false
section
variable {P : Program} {w : World} {K : Frag} {C fI e t0 : Addr} {f : Str} {A : Around} {hp : Heap} {g : Array GenState} {d : Drawn} {t : Nat} {os : OsState} {v : Value} {mg mb : Str → Option Value} {R : Result → Shared → Prop}
theorem init_run (F : XinK P K C f fI) (KX : K.In hp) (lim : hp.NoLimit) (G : hp.Ns mainGlobals mg) (B : hp.Ns builtinsNs mb) (hb : mb "super" = some (.type "super")) (hroom : A.depth < recursionLimit) (low : ∀ {b : Addr} {o : Obj}, K.lookup b = some o → b ≠ e)
    (he : hp.get? e = some (HandSPX.excO C t0))
    (hq : ∀ h' tk dx t1, (∀ b o, b ≠ e → hp.get? b = some o → h'.get? b = some o) → hp.objs.size ≤ dx → dx ≠ e → h'.get? e = some ({ cls := .ref C, dict := some dx, data := .fields #[.ref t1, .none, .none, .none, .bool false, .none] } : Obj) →
      h'.Ns1 dx (fun y => if y = f then some v else none) → R (.ok (.ret .none)) ⟨h', g, d, tk, os⟩) :
    codeAny (model P w) A (.call (.ref fI) ⟨[.ref e, v], []⟩) R ⟨hp, g, d, t, os⟩ := by
  obtain ⟨oc, od, osl, name, qual, params, body, scope, dV, kV, doc, pm, ct, an, cda, cc, self, p, ar, ccl, cdd, vs, ccs, file, tf, cl, cld, csl, lk, hcd, hco, hvs, hfile, hcell, hB, hbind, hhead, har, hne, sS, sC, s0, s1, nC, co, gen, knd, dp, ds⟩ := F.fn
  obtain ⟨q1, q2, q3, q4, q5, q6, q7, q8, q9, q10, hline, rfl⟩ := hB
  obtain ⟨nm, qq, N, bs, bm, sn, sub, ab, col, dd, k0, k1, k2, k3, k5, hC, hbm⟩ := F.oex.cls
  have hcl : clsIn K C = some { name := nm, bases := bs, mro := .ref C :: bm, ns := N, qualname := qq, hasDict := true, slotNames := sn, subclasses := sub, abstract := ab, collection := col, hasDel := false } := by unfold clsIn; rw [hC] <;> rfl
  refine ks_codeAny_call_defAt (fd := ksFn name qual params _ scope dV kV doc pm an (.ref cda) ct cc) (binds := [(self, .ref e), (p, v)]) hroom (KX _ _ lk) rfl lim (codeRec_of KX hcd) rfl (BindsTo.of_eq (hbind _ _)) nC (fun x hx => ?_) (fun h0 hns hk => ?_) co gen knd
  · simp only [List.mem_cons, List.not_mem_nil, or_false] at hx
    rcases hx with rfl | rfl
    · exact s0
    · exact s1
  have K0 : K.In h0 := KX.keeps hk
  have G0 : h0.Ns mainGlobals mg := G.keeps hk
  have B0 : h0.Ns builtinsNs mb := B.keeps hk
  have e0 : h0.get? e = some (HandSPX.excO C t0) := hk _ _ he
  subst har
  have hnb : (ar.arg == p) = false := by simpa using hne
  have hself : ([(ar.arg, Value.ref e), (p, v)] : List (Str × Value)).reverse.lookup ar.arg = some (.ref e) := by
    simp [List.lookup, hnb]
  have hp' : ([(ar.arg, Value.ref e), (p, v)] : List (Str × Value)).reverse.lookup p = some v := by
    simp [List.lookup]
  have hmg : mg "super" = none := mg_none_of KX G F.nsu
  have hL : ∃ oL, h0.get? hp.objs.size = some oL := by
    obtain ⟨oL, es, ep, h, _⟩ := hns
    exact ⟨oL, h⟩
  have hev : ∀ env : Env, eval (.Call (.Attribute (.Call (.Name "super" q1) [] [] q2) "__init__" q3) [.Name p q4] [] q5) env = (do
      let ov ← attributeBase (.Call (.Name "super" q1) [] [] q2) "__init__" env (eval (.Call (.Name "super" q1) [] [] q2) env)
      standAt q3.atName
      let (f, first) ← holding [ov] (getMethod ov "__init__" (L2.plainOf (.Call (.Name "super" q1) [] [] q2) env))
      callWith q5 f first (backTo q5 (starEach [.Name p q4] env)) []) := fun env => by
    show (do
      let ov ← attributeBase (.Call (.Name "super" q1) [] [] q2) "__init__" env (eval (.Call (.Name "super" q1) [] [] q2) env)
      standAt q3.atName
      methodCall (.Call (.Name "super" q1) [] [] q2) "__init__" q3 q5 env ov 1 (backTo q5 (starEach [.Name p q4] env)) []) = _
    have h := fun ov => L2.mcall_line (o := .Call (.Name "super" q1) [] [] q2) (m := "__init__") (env := env) (ov := ov) (n := 1) (args := backTo q5 (starEach [.Name p q4] env)) (kws := []) rfl hline
    simp only [h]
  refine ks_wpAt_execs_cons (ks_wpAt_Expr_any (ks_wpAt_MethodCall ?_ (hev _)) ?_ rfl)
  case refine_2 =>
    show (scope.kind == .module && _) = false
    rw [knd]
    rfl
  refine ks_wpAt_super_base (f := fI) (cc := cda) sS sC (by decide) rfl (K0 _ _ lk) rfl hhead rfl (K0 _ _ hco) rfl hvs hfile F.top ?_
  refine ks_loadName_global knd sS (loadGlobal_builtin G0 hmg B0 hb ⟨rfl, ?_⟩)
  refine wpAny_loadName_free knd sC rfl ⟨_, K0 _ _ hcell, rfl⟩ ?_
  refine wpAny_loadName_local knd s0 hns hself ?_
  refine ks_wpAny_isType_cls (K0 _ _ hC) rfl ⟨rfl, ?_⟩
  refine ks_wpAny_call_super (K0 _ _ hC) rfl e0 rfl (fun c z => by cases z) (looks_mroIn K0 F.own) (fun h1 hso kk1 => ?_)
  have K1 : K.In h1 := K0.keeps kk1
  have e1 := kk1 _ _ e0
  have I1 : InstAt h1 e (HandSPX.excO C t0) C none := ⟨e1, rfl, rfl, trivial⟩
  refine kxs_getMethod kxs_ValueError hso (looks_opaque K1 F.opq) (l₀ := .ref C :: bm) (fun A Q E s k q => wpAny_bind ((looks_clsIn K1 hcl) A _ E s k (wpAny_pure q))) rfl K1 ?_ (I1.type.andThen (looks_subIn K1 F.sub)) (ks_ne K1 I1 hcl) (by decide) ?_
  · have := F.sup
    unfold ks_superIn at this
    rw [hcl] at this
    exact this
  have hns1 : h1.Ns hp.objs.size (fun y => ([(ar.arg, Value.ref e), (p, v)] : List (Str × Value)).reverse.lookup y) := hns.keeps kk1
  generalize hu : h1.objs.size = u
  have kk2 : ∀ b o, h1.get? b = some o → (h1.push (kxs_mw "ValueError.__init__" e)).get? b = some o := fun b o z => Heap.get?_push_of_some _ z
  have hmw : (h1.push (kxs_mw "ValueError.__init__" e)).get? u = some (kxs_mw "ValueError.__init__" e) := by rw [← hu]; exact Heap.get?_push_size _ rfl
  generalize h1.push (kxs_mw "ValueError.__init__" e) = h2 at *
  have K2 : K.In h2 := K1.keeps kk2
  have e2 := kk2 _ _ e1
  have hns2 := hns1.keeps kk2
  show wpAny _ _ (callWith q5 (.ref u) [] ((false, eval (.Name p q4) _) :: backTo q5 (starEach [] _)) []) _ _ _
  refine kxs_callWith (i := "ValueError.__init__") (x := e) rfl (evalArgs_plain (spliced_cons (wpAny_Name (wpAny_loadName_local knd s1 hns2 hp' (spliced_nil ⟨hmw, ?_⟩)) dp)))
  have FB := PySem.F.excBase_ValueError
  have hC2 := K2 _ _ hC
  refine wpAny_call (codeAny_of_tree ?_)
  show wpAny _ _ (callAny (.ref u) ⟨[v], []⟩) _ _ _
  simp only [callAny]
  refine wpAny_bind (wpAny_load hmw ?_)
  simp only [kxs_mw, show (Value.type "method-wrapper" == Value.type "method" || Value.type "method-wrapper" == Value.type "builtin_function_or_method" || Value.type "method-wrapper" == Value.type "method-wrapper") = true by decide, if_true]
  refine KFB.if_so (by decide) ?_
  refine wpAny_bind (check_bound_init FB.toExcCallFacts hC2 e2 rfl ?_)
  refine wpAny_bind (wpAny_pure (wpAny_pure ?_))
  refine ⟨plainId_quiet FB.init.plain _, codeAny_builtin FB.initEntry ?_⟩
  refine exc_init_tree (cls := .ref C) (t0 := t0) (dv := none) (c2 := .none) (c3 := .none) (b4 := .bool false) e2 (by show 1 ≤ sizeLine; rw [sizeLine_eq]; omega) fun h3 kk3 e3 _ => ?_
  dsimp only
  have K3 : K.In h3 := fun b o z => kk3 b o (low z) (K2 b o z)
  have hns3 : h3.Ns hp.objs.size (fun y => ([(ar.arg, Value.ref e), (p, v)] : List (Str × Value)).reverse.lookup y) := by
    obtain ⟨oL, es, ep, h, r⟩ := hns2
    exact ⟨oL, es, ep, kk3 _ _ (Nat.ne_of_gt (Heap.lt_size he)) h, r⟩
  refine ks_wpAt_execs_cons (ks_wpAt_Assign_Attr (wpAt_of_wpAny (wpAny_Name (wpAny_loadName_local knd s1 hns3 hp' (wpAny_Name (wpAny_loadName_local knd s0 hns3 hself ?_) ds)) dp)) rfl)
  refine set_plain K3 (ox := HandSPX.excO C h2.objs.size) (od := none) ⟨e3, rfl, rfl, trivial⟩ F.oex.sa (HandSPX.exc_osa K3 e3 hcl (show HandSPX.refsVE (.ref C :: bm) = true from hbm) rfl F.fld fun h' tk' dx kk dn dne hx hn => ?_)
  dsimp only
  refine wpAt_of_wpAny (wpAny_execs_nil ?_)
  dsimp only
  have far : ∀ {b : Addr} {o : Obj}, hp.get? b = some o → b ≠ e → h3.get? b = some o := fun {b o} z nb => kk3 b o nb (kk2 _ _ (kk1 _ _ (hk _ _ z)))
  refine hq h' tk' dx h2.objs.size (fun b o nb z => kk b o nb (far z nb)) ?_ dne hx hn
  obtain ⟨oL, es, ep, h, r⟩ := hns3
  exact Nat.le_trans (Nat.le_of_lt (Heap.lt_size h)) dn
end
end StX
set_option Elab.async false
set_option linter.all false
set_option maxRecDepth 100000
set_option maxHeartbeats 4000000
/-! PFXJ: raise C(e), C an own exception whose __init__ says super().__init__(p); self.f = p. -/
namespace PF
open PySem L2 Evl PySem.Spec PyProof.Rows
section
variable {X : Cx} {x f : Str} {C fI : Addr} {e : Expr} {ta : TA} {p pos : Pos}
theorem pmk_xin (F : StX.XinK X.prog X.K C f fI) (hr : Room 1 X.A) (hm : X.mg x = some (.ref C)) (ha : PA X [e] ta) (hg : Gl X x := by rfl)
    (hdb : (x == ("__debug__" : Str)) = false := by decide) (hst : starEach [e] X.env = (false, eval e X.env) :: starEach [] X.env := by rfl) (hpl : (backTo pos (starEach [] X.env)).any (·.1) = false := by rfl) :
    L2.PMk X (.Call (.Name x p) [e] [] pos) (fun σ H Q => ta σ H fun vs H1 => ∃ v, vs = [v] ∧ ∀ d, H1 d = none → Q (.ref C) (some d) (upd H1 d (.xd [(f, v)]))) := by
  intro pins s σ H Q I h
  obtain ⟨nm, q, N, bs, bm, sn, sub, ab, col, dd, k0, k1, k2, k3, k5, hC, hbm⟩ := F.oex.cls
  refine wpAny_Call_Name_kw (ld_glob I hg hm ?_ hdb)
  refine PySem.W.callWith_K (h₀ := X.base) I.ok.mod.kin F.oex.kC (thn (ha.run pos pins s σ H _ I h) fun us s1 ⟨vs, H1, I1, r1, v, ev, q1⟩ => ⟨I1.kIn, ?_⟩) hst hpl
  subst ev
  obtain ⟨v', us', rv, rest, eu⟩ : ∃ v' us', RelV v v' ∧ Vals [] us' ∧ us = v' :: us' := by
    cases r1 with
    | cons a b => exact ⟨_, _, a, b, rfl⟩
  cases rest
  subst eu
  obtain ⟨mm, FF⟩ := I1.fr
  obtain ⟨mb, hmb, hmb2⟩ := I.ok.mod.blt
  have hglob : s1.heap.Ns mainGlobals X.mg := I.ok.mod.glob.keeps FF.keep
  have hblt : s1.heap.Ns builtinsNs mb := hmb.keeps FF.keep
  have lim : s1.heap.NoLimit := I.ok.mod.nolimit.keeps FF.keep
  have hsup : mb "super" = some (.type "super") := (hmb2 _ (by decide)).trans (by decide +kernel)
  show wpAny _ _ (call (.ref C) [v']) _ _ _
  obtain ⟨hp, g, dr, tk, os⟩ := s1
  have kk : ∀ b o, hp.get? b = some o → ((hp.push (PySem.W.kdv_tup [v'])).push (PySem.HandSPX.excO C hp.objs.size)).get? b = some o := fun b o z => Heap.get?_push_of_some _ (Heap.get?_push_of_some _ z)
  have hget : ((hp.push (PySem.W.kdv_tup [v'])).push (PySem.HandSPX.excO C hp.objs.size)).get? (hp.objs.size + 1) = some (PySem.HandSPX.excO C hp.objs.size) := by heap_get
  have low : ∀ {b : Addr} {o : Obj}, X.K.lookup b = some o → b ≠ hp.objs.size + 1 := fun {b o} z y => by
    have := Heap.lt_size (I1.kIn _ _ z)
    rw [y] at this
    exact absurd this (by show ¬ hp.objs.size + 1 < hp.objs.size; omega)
  refine wpAny_call (PySem.HandSPX.call_own PySem.F.excBase_ValueError (fun Y => PySem.HandSPX.refsVE_contains Y bm hbm) (I1.kIn _ _ hC) (PySem.W.looks_findIn I1.kIn F.init) (fun self => PySem.W.bind_fn I1.kIn self F.tI) (by show 1 ≤ sizeLine; rw [sizeLine_eq]; omega)
    (StX.init_run F (I1.kIn.keeps kk) (lim.keeps kk) (hglob.keeps kk) (hblt.keeps kk) hsup (hr.make C [v'] []).depth low hget fun h' tk' dx t1 k1 ld dne hx hn => ⟨rfl, ?_⟩))
  have far : ∀ b o, hp.get? b = some o → h'.get? b = some o := fun b o z => k1 b o (Nat.ne_of_lt (Nat.lt_trans (Heap.lt_size z) (Nat.lt_succ_self _))) (kk b o z)
  obtain ⟨G, g1, g2⟩ := restrict h' fun b => decide (b ≠ hp.objs.size + 1)
  have gk : ∀ b, b ≠ hp.objs.size + 1 → G.get? b = h'.get? b := fun b hb => g1 b (decide_eq_true hb)
  have ge : G.get? (hp.objs.size + 1) = none := g2 _ (by simp)
  have sz : hp.objs.size ≤ dx := Nat.le_trans (by rw [Heap.size_push, Heap.size_push]; omega) ld
  have hnd : H1 dx = none := I1.hok.fresh sz
  have J : Inv X pins σ (upd H1 dx (.xd [(f, v)])) ⟨G, g, dr, tk', os⟩ := I1.laid (t' := tk') (a := dx) (o := .xd [(f, v)]) (h' := G) (fun b o z => by
    rw [gk b (Nat.ne_of_lt (Nat.lt_trans (Heap.lt_size z) (Nat.lt_succ_self _)))]
    exact far b o z) sz ⟨_, hn.at fun o y => (gk dx dne).trans y, relO_put (fs := []) rv fun g => True.intro⟩
  refine ⟨hp.objs.size + 1, _, _, ⟨G, g, dr, tk', os⟩, _, .ref C, some dx, rfl, J, fun b o z => ?_, ge, hx, ⟨rfl, rfl⟩, rfl, rfl, ?_, rfl, J.bare, raises_own F.oex.exC F.oex.tyC, q1 dx hnd⟩
  · have nb : b ≠ hp.objs.size + 1 := fun y => by
      rw [y] at z
      have z2 : G.get? (hp.objs.size + 1) = some o := z
      rw [ge] at z2
      cases z2
    exact (gk b nb).symm.trans z
  · rw [upd_ne (Ne.symm dne)]
    exact I1.hok.fresh (by show hp.objs.size ≤ hp.objs.size + 1; omega)
/-- raise C(e) -/
def sRaise (c f : Str) (r : AX) : SX := fun ρ S => stm ρ (r ρ S) fun ds S => match ds with
  | [d] => if d.pure = true then some (.ok (.exc ⟨c, [(f, d)]⟩ ρ), S) else none
  | _ => none
theorem rs_raise {T : List (Addr × Str)} {W : WX} {fr : Bool} {r : AX} {pos2 : Pos} (hF : ∃ C fI, StX.XinK X.prog X.K C f fI ∧ X.mg x = some (.ref C)) (hr : Room 1 X.A) (hc : X.calm = true) (tk : Takes X W) (ha : RA T X W [e] r) (hg : Gl X x := by rfl)
    (hdb : (x == ("__debug__" : Str)) = false := by decide) (hst : starEach [e] X.env = (false, eval e X.env) :: starEach [] X.env := by rfl) (hpl : (backTo pos (starEach [] X.env)).any (·.1) = false := by rfl) :
    RS T fr X W (.Raise (some (.Call (.Name x p) [e] [] pos)) none pos2) (sRaise x f r) := by
  obtain ⟨C, fI, F, hm⟩ := hF
  obtain ⟨t, pa, rd⟩ := ha
  refine ⟨_, ps_raise hc tk (pmk_xin F hr hm pa hg hdb hst hpl), fun σ ρ F μ S H D s hE g => rd σ ρ F μ S H _ s hE (GP.stm g hE fun ds F1 μ1 H1 S1 e1 q1 s1 g1 vs rs => ?_)⟩
  match ds, vs, rs with
  | [d], [v], .cons rv .nil =>
    refine ⟨v, rfl, fun dx hd => ?_⟩
    dsimp only at g1
    split at g1
    · have hF1 : F1 dx = none := fresh_back s1.ex hd
      refine g1 (upd F1 dx (.xd [(f, v)])) μ1 _ (Ex.new hF1) (List.prefix_refl _) (s1.new hd) σ (.ref C) (some dx) (hE.mono (e1.trans (Ex.new hF1)) q1) ⟨C, rfl, hm, .inr ⟨dx, [v], rfl, .cons (rv.mono (Ex.new hF1) (List.prefix_refl _)) .nil, upd_same⟩⟩
    · exact g1.elim
  | [], _, .nil => exact g1.elim
  | _ :: _ :: _, _, .cons _ (.cons _ _) => exact g1.elim
end
end PF
set_option Elab.async false
set_option linter.all false
set_option maxRecDepth 100000
set_option maxHeartbeats 4000000
/-! PFTS: clauses that say 'return [.., e.f]'. -/
namespace PF
open PySem L2 Evl PySem.Spec PyProof.Rows LamX
/-- what the written part says of a clause's class -/
structure ClF (K : PySem.W.Frag) (mg : Str → Option Value) (cn f : Str) : Prop where
  gm : mg cn = some (.ref (He.ga K cn))
  xf : XfC K (He.ga K cn)
  no : PySem.W.findIn K (.ref (He.ga K cn)) f = some none
def tsRet1 (K : PySem.W.Frag) (w cn f : Str) : TSF := fun a cls d D σ H => tLst (tCons (tC (.str w)) (tCons (tXf a cls d (He.ga K cn) f (tVar 1)) tNil)) σ H D.rt
def tsRet0 (K : PySem.W.Frag) (cn f : Str) : TSF := fun a cls d D σ H => tLst (tCons (tXf a cls d (He.ga K cn) f (tVar 1)) tNil) σ H D.rt
section
variable {Z : Cx} {n cn w f : Str} {hds : List ExceptHandler} {l : List (Value × TSF)} {np pos' q1 q2 q3 q4 q5 : Pos} {j : Nat}
theorem clause1 (F : ClF Z.K Z.mg cn f) (hN : Z.N[1]? = some n) (hv : Vis Z.env.scope n) (hg : Gl Z cn) (r : Clauses Z n hds l) (hdb : (cn == ("__debug__" : Str)) = false := by decide) (hd : (n == ("__debug__" : Str)) = false := by decide) (hcd : (n == ("__classdict__" : Str)) = false := by decide) :
    Clauses Z n (.ExceptHandler (some (.Name cn np)) (some n) [.Return (some (.List [.Constant (.str w) j q1, .Attribute (.Name n q2) f q3] q4)) q5] pos' :: hds) ((.ref (He.ga Z.K cn), tsRet1 Z.K w cn f) :: l) := by
  refine .cons ⟨hg, hdb, .inl F.gm⟩ (fun a oe cls d pn hz hf => ?_) r
  exact pss_one (ps_ret (pe_lst (pa_cons pe_str (pa_cons (pe_xf (X := Z) F.xf F.no hz hf (pe_var (i := 1) hN hv hd hcd)) pa_nil))))
theorem clause0 (F : ClF Z.K Z.mg cn f) (hN : Z.N[1]? = some n) (hv : Vis Z.env.scope n) (hg : Gl Z cn) (r : Clauses Z n hds l) (hdb : (cn == ("__debug__" : Str)) = false := by decide) (hd : (n == ("__debug__" : Str)) = false := by decide) (hcd : (n == ("__classdict__" : Str)) = false := by decide) :
    Clauses Z n (.ExceptHandler (some (.Name cn np)) (some n) [.Return (some (.List [.Attribute (.Name n q2) f q3] q4)) q5] pos' :: hds) ((.ref (He.ga Z.K cn), tsRet0 Z.K cn f) :: l) := by
  refine .cons ⟨hg, hdb, .inl F.gm⟩ (fun a oe cls d pn hz hf => ?_) r
  exact pss_one (ps_ret (pe_lst (pa_cons (pe_xf (X := Z) F.xf F.no hz hf (pe_var (i := 1) hN hv hd hcd)) pa_nil)))
end
/-- (class, words, field) -/
abbrev Cl := Str × List Str × Str
def sutL : List Cl → XV → Store → Out D
  | [], _, _ => none
  | c :: r, x, S => if x.cls = c.1 then (match x.fields with
    | [(f, d)] => if f = c.2.2 then some (.ok (.lst (c.2.1.map D.str ++ [d])), S) else none
    | _ => none) else sutL r x S
inductive StdL (K : PySem.W.Frag) (mg : Str → Option Value) (names : List Str) : List Cl → List (Value × TSF) → Prop
  | nil : StdL K mg names [] []
  | one {cn w f : Str} {cs : List Cl} {l : List (Value × TSF)} (F : ClF K mg cn f) (hm : cn ∈ names) (r : StdL K mg names cs l) : StdL K mg names ((cn, [w], f) :: cs) ((.ref (He.ga K cn), tsRet1 K w cn f) :: l)
  | zero {cn f : Str} {cs : List Cl} {l : List (Value × TSF)} (F : ClF K mg cn f) (hm : cn ∈ names) (r : StdL K mg names cs l) : StdL K mg names ((cn, [], f) :: cs) ((.ref (He.ga K cn), tsRet0 K cn f) :: l)
section
variable {T : List (Addr × Str)} {K : PySem.W.Frag} {mg : Str → Option Value} {names : List Str}
theorem sutL_mem {cs : List Cl} {l : List (Value × TSF)} (h : StdL K mg names cs l) {x : XV} {S : Store} (e : sutL cs x S ≠ none) : x.cls ∈ names := by
  induction h with
  | nil => exact absurd rfl e
  | one F hm r ih =>
    unfold sutL at e
    split at e
    · rename_i hc
      rw [hc]
      exact hm
    · exact ih e
  | zero F hm r ih =>
    unfold sutL at e
    split at e
    · rename_i hc
      rw [hc]
      exact hm
    · exact ih e
theorem sut_ok (hgm : ∀ r ∈ names, mg r = some (.ref (He.ga K r))) (hex : ∀ r ∈ names, ∀ c ∈ names, PySem.W.exmOne K (.ref (He.ga K r)) (.ref (He.ga K c)) = some (decide (r = c))) {cs : List Cl} {l : List (Value × TSF)} (h : StdL K mg names cs l) : SutOk true T K mg l (sutL cs) := by
  intro x cls dd F μ S H D f s hx g
  have hne : sutL cs x S ≠ none := fun z => by rw [z] at g; exact g.elim
  have hmem := sutL_mem h hne
  obtain ⟨C, rfl, hC, hfl⟩ := hx
  have eC : C = He.ga K x.cls := by
    rw [hgm _ hmem] at hC
    cases hC
    rfl
  subst eC
  have key : ∀ (c : Cl) (mk : V → List V → List V), True := fun _ _ => trivial
  induction h with
  | nil => exact absurd rfl hne
  | @one cn w fl cs l G hm r ih =>
    refine ⟨_, hex _ hmem _ hm, fun hb a na => ?_, fun hb => ?_⟩
    · have hc : x.cls = cn := of_decide_eq_true hb
      unfold sutL at g
      rw [if_pos hc] at g
      split at g
      · rename_i f' d hfs
        split at g
        · rename_i hf'
          subst hf'
          rw [hfs] at hfl
          obtain ⟨dx, vs, rfl, rv, hF⟩ := hfl.resolve_left (by simp)
          match vs, rv with
          | [v], .cons rv .nil =>
            have hH := s.ex _ _ hF
            rw [hc]
            refine ⟨.ref a, by simp, rfl, rfl, dx, _, v, rfl, hH, by simp [List.lookup], ?_⟩
            exact ⟨by show 2 ≤ _; decide, gp_lst g s (.cons (.str _) (.cons rv .nil))⟩
        · exact g.elim
      · exact g.elim
    · have hc : ¬ x.cls = cn := of_decide_eq_false hb
      unfold sutL at g hne
      rw [if_neg hc] at g hne
      exact ih g hne
  | @zero cn fl cs l G hm r ih =>
    refine ⟨_, hex _ hmem _ hm, fun hb a na => ?_, fun hb => ?_⟩
    · have hc : x.cls = cn := of_decide_eq_true hb
      unfold sutL at g
      rw [if_pos hc] at g
      split at g
      · rename_i f' d hfs
        split at g
        · rename_i hf'
          subst hf'
          rw [hfs] at hfl
          obtain ⟨dx, vs, rfl, rv, hF⟩ := hfl.resolve_left (by simp)
          match vs, rv with
          | [v], .cons rv .nil =>
            have hH := s.ex _ _ hF
            rw [hc]
            refine ⟨.ref a, by simp, rfl, rfl, dx, _, v, rfl, hH, by simp [List.lookup], ?_⟩
            exact ⟨by show 1 ≤ _; decide, gp_lst g s (.cons rv .nil)⟩
        · exact g.elim
      · exact g.elim
    · have hc : ¬ x.cls = cn := of_decide_eq_false hb
      unfold sutL at g hne
      rw [if_neg hc] at g hne
      exact ih g hne
end
end PF
set_option Elab.async false
set_option linter.all false
set_option maxRecDepth 100000
set_option maxHeartbeats 4000000
/-! PFXB: what a head reads of an own exception's class. -/
namespace PF
open PySem L2 Evl PySem.Spec PyProof.Rows
def bodyB (b : List Stmt) (self p f : Str) : Bool := match b with
  | [.Expr (.Call (.Attribute (.Call (.Name s0 _) [] [] _) i0 q3) [.Name p1 _] [] q5) _, .Assign [.Attribute (.Name s1 _) f1 _] (.Name p2 _) _] =>
    (q3.endLine == q5.line) && (decide (s0 = "super") && (decide (i0 = "__init__") && (decide (p1 = p) && (decide (s1 = self) && (decide (f1 = f) && decide (p2 = p))))))
  | _ => false
theorem bodyB_ok {b : List Stmt} {self p f : Str} (h : bodyB b self p f = true) : StX.InitB b self p f := by
  unfold bodyB at h
  split at h
  · simp only [Bool.and_eq_true, decide_eq_true_eq] at h
    obtain ⟨h0, rfl, rfl, rfl, rfl, rfl, rfl⟩ := h
    exact ⟨_, _, _, _, _, _, _, _, _, _, h0, rfl⟩
  · cases h
def fileB (P : Program) (K : PySem.W.Frag) (a : Addr) : Bool := match K.lookup a with
  | some ⟨_, _, .fields vs, _⟩ => (match (vs[2]? : Option Value) with
    | some (.str file _) => ((P.main.file : Str) == file)
    | _ => false)
  | _ => false
def cellB (K : PySem.W.Frag) (a C : Addr) : Bool := match K.lookup a with
  | some ⟨_, _, .cell (some (.ref C')), _⟩ => decide (C' = C)
  | _ => false
def scopeB (sc : Scope) (self p : Str) : Bool := decide (sc.names.lookup ("super" : Str) = some .globalImplicit) && (decide (sc.names.lookup ("__class__" : Str) = some .free) && (decide (sc.names.lookup self = some .local) && (decide (sc.names.lookup p = some .local) &&
  ((sc.names.all fun x => !decide (x.2 = .cell)) && (!sc.isCoroutine && (!sc.isGenerator && (decide (sc.kind = .function) && ((!(p == ("__debug__" : Str))) && (!(self == ("__debug__" : Str)))))))))))
def fdB (P : Program) (K : PySem.W.Frag) (C : Addr) (f : Str) (fd : FuncData) : Bool := match fd with
  | ⟨_, qual, ⟨[], [⟨x1, an1, ps1⟩, ⟨x2, an2, ps2⟩], none, [], [], none, []⟩, .stmts b, sc, gl, [(c0, cc)], .none, _, _, _, _, .ref cda, _, bi⟩ =>
    decide (c0 = "__class__") && (bodyB b x1 x2 f && (decide (gl = mainGlobals) && (decide (bi = builtinsNs) && (PySem.W.codeIn K (.ref cda) qual && (fileB P K cda && (cellB K cc C && (scopeB sc x1 x2 && (decide (x1 = "self") && (decide (x2 = "given") || decide (x2 = "index"))))))))))
  | _ => false
def oexB (K : PySem.W.Frag) (C : Addr) : Bool := match K.lookup C with
  | some ⟨.type t, _, .cls ⟨_, _, .ref C' :: bm, _, _, true, _, _, _, _, false⟩, sl⟩ => decide (t = "type") && (decide (C' = C) && (PySem.HandSPX.refsVE bm && (match sl.toList with
    | [_, _, _, _, some (.builtin i), _] => decide (i = "ValueError.__new__")
    | _ => false)))
  | _ => false
theorem oexB_ok {K : PySem.W.Frag} {C : Addr} (h : oexB K C = true) : ∃ nm q N bs bm sn sub ab col dd k0 k1 k2 k3 k5, K.lookup C = some (excClassObj nm q C N bs bm true sn sub ab col dd k0 k1 k2 k3 k5 "ValueError.__new__") ∧ PySem.HandSPX.refsVE bm = true := by
  unfold oexB at h
  split at h
  · rename_i t dd nm bs C' bm N q sn sub ab col sl hl
    simp only [Bool.and_eq_true, decide_eq_true_eq] at h
    obtain ⟨rfl, rfl, h3, h4⟩ := h
    split at h4
    · rename_i k0 k1 k2 k3 i k5 hs
      have h4 := of_decide_eq_true h4
      subst h4
      have e : sl = #[k0, k1, k2, k3, some (.builtin "ValueError.__new__"), k5] := by
        obtain ⟨l⟩ := sl
        simp only at hs
        rw [hs]
      subst e
      exact ⟨nm, q, N, bs, bm, sn, sub, ab, col, dd, k0, k1, k2, k3, k5, hl, h3⟩
    · cases h4
  · cases h
def restB (P : Program) (K : PySem.W.Frag) (C : Addr) (f : Str) : Bool :=
  decide (PySem.W.findIn K (.ref C) "__setattr__" = some (some (.builtin "object.__setattr__"))) && (decide (PySem.W.subIn K (.ref C) (.type "BaseException") = some true) && (decide (PySem.W.typeIn K (.ref C) = some (.type "type")) && (PySem.W.keepIn K (.ref C) &&
  (decide (PySem.W.ks_superIn K C C "__init__" = some (some (.builtin "ValueError.__init__"))) && (decide (PySem.W.subIn K (.ref C) (.type "ValueError") = some true) && (decide (PySem.W.findIn K (.ref C) f = some none) && (decide (PySem.W.mroIn K C (.ref C) = some true) &&
  (decide (PySem.W.nsIn K PySem.cStatics "thirdparty.any" = some none) && (decide (PySem.W.nsIn K mainGlobals "super" = some none) && !(P.main.scope.names.lookup ("super" : Str)).isSome)))))))))
def initB (P : Program) (K : PySem.W.Frag) (C : Addr) (f : Str) : Bool := match PySem.W.findIn K (.ref C) "__init__" with
  | some (some (.ref fI)) => decide (PySem.W.typeIn K (.ref fI) = some (.type "function")) && (match K.lookup fI with
    | some ⟨_, _, .func fd, _⟩ => fdB P K C f fd
    | _ => false)
  | _ => false
def xinB (P : Program) (K : PySem.W.Frag) (c f : Str) : Bool := oexB K (He.ga K c) && (restB P K (He.ga K c) f && initB P K (He.ga K c) f)
theorem xin_of {P : Program} {K : PySem.W.Frag} {c f : Str} (h : xinB P K c f = true) : ∃ fI, StX.XinK P K (He.ga K c) f fI := by
  obtain ⟨h1, h⟩ := Bool.and_eq_true_iff.mp h
  obtain ⟨h2, h3⟩ := Bool.and_eq_true_iff.mp h
  generalize He.ga K c = C at *
  unfold restB at h2
  simp only [Bool.and_eq_true, decide_eq_true_eq, Bool.not_eq_true'] at h2
  obtain ⟨r1, r2, r3, r4, r5, r6, r7, r8, r9, r10, r11⟩ := h2
  unfold initB at h3
  split at h3
  · rename_i fI hI
    simp only [Bool.and_eq_true, decide_eq_true_eq] at h3
    obtain ⟨hT, h3⟩ := h3
    split at h3
    · rename_i oc od fd osl hl
      refine ⟨fI, ?_, ⟨oexB_ok h1, r1, r2, r3, r4⟩, hI, hT, r5, r6, r7, r8, r9, r10, r11⟩
      unfold fdB at h3
      split at h3
      · rename_i name qual x1 an1 ps1 x2 an2 ps2 b sc gl c0 cc kV doc pm an cda ct bi
        simp only [Bool.and_eq_true, Bool.or_eq_true, decide_eq_true_eq] at h3
        obtain ⟨rfl, hB, rfl, rfl, hc, hf, hce, hs, rfl, hx2⟩ := h3
        unfold fileB at hf
        split at hf
        · rename_i ccl cdd vs ccs hcl
          split at hf
          · rename_i file tf hv
            unfold cellB at hce
            split at hce
            · rename_i cl cld C' csl hcell
              have hce := of_decide_eq_true hce
              subst hce
              unfold scopeB at hs
              simp only [Bool.and_eq_true, decide_eq_true_eq, Bool.not_eq_true', List.all_eq_true, decide_eq_false_iff_not] at hs
              obtain ⟨s1, s2, s3, s4, s5, s6, s7, s8, s9, s10⟩ := hs
              exact ⟨oc, od, osl, name, qual, ⟨[], [⟨"self", an1, ps1⟩, ⟨x2, an2, ps2⟩], none, [], [], none, []⟩, b, sc, .none, kV, doc, pm, ct, an, cda, cc, "self", x2, ⟨"self", an1, ps1⟩, ccl, cdd, vs, ccs, file, tf, cl, cld, csl, hl, hc, hcl, hv, hf, hcell, bodyB_ok hB, fun u v => (by rcases hx2 with rfl | rfl <;> rfl), rfl, rfl, (by rcases hx2 with rfl | rfl <;> decide), s1, s2, s3, s4, s5, s6, s7, s8, s9, s10⟩
            · cases hce
          · cases hf
        · cases hf
      · cases h3
    · cases h3
  · cases h3
def clB (K : PySem.W.Frag) (cn f : Str) : Bool := xfB K (He.ga K cn) && decide (PySem.W.findIn K (.ref (He.ga K cn)) f = some none)
theorem clF_of {K : PySem.W.Frag} {mg : Str → Option Value} {cn f : Str} (hm : mg cn = some (.ref (He.ga K cn))) (h : clB K cn f = true) : ClF K mg cn f := by
  obtain ⟨h1, h2⟩ := Bool.and_eq_true_iff.mp h
  exact ⟨hm, xfB_ok h1, of_decide_eq_true h2⟩
/-- each of the classes takes its own exceptions alone -/
def exmsB (K : PySem.W.Frag) (names : List Str) : Bool := names.all fun r => names.all fun c => decide (PySem.W.exmOne K (.ref (He.ga K r)) (.ref (He.ga K c)) = some (decide (r = c)))
theorem exms_of {K : PySem.W.Frag} {names : List Str} (h : exmsB K names = true) : ∀ r ∈ names, ∀ c ∈ names, PySem.W.exmOne K (.ref (He.ga K r)) (.ref (He.ga K c)) = some (decide (r = c)) := fun r hr c hc =>
  of_decide_eq_true (List.all_eq_true.mp (List.all_eq_true.mp h r hr) c hc)
theorem pass_lam0 {X : Cx} {A : Around} {outer : List PySem.Env} {s : Shared} {H : Hp} {E : XK} {scope : Scope} {f c' : Addr} : ∀ σ, PassesAt (L2.CX (lamCx0 X A outer s H E scope f c').prog (lamCx0 X A outer s H E scope f c').w) (lamCx0 X A outer s H E scope f c') σ fun cls d H' => E cls d H' := fun σ =>
  passAt (X := lamCx0 X A outer s H E scope f c') (W := fun cls d _ H' => E cls d H') (takes_of rfl rfl rfl rfl) σ
theorem SutOk.frozen {T : List (Addr × Str)} {K : PySem.W.Frag} {mg : Str → Option Value} {l : List (Value × TSF)} {sut : XV → Store → Out D} (h : SutOk true T K mg l sut) : SutOk false T K mg l sut := fun x cls dd F μ S H D f s hx g => h x cls dd F μ S H D f s hx (gp_freeze g)
end PF
set_option Elab.async false
set_option linter.all false
set_option maxRecDepth 100000
set_option maxHeartbeats 4000000
/-! PFXH: a head's hook with the interpreter's statics among what is told: own exceptions want to know that no class from outside is there. -/
namespace PF
open PySem L2 Evl PySem.Spec PyProof.Rows He
/-- the part of a heap that the names reach, and the statics -/
def fragXA (n : Nat) (g : Addr → Option Obj) : PySem.W.Frag := frT g (asD g n ++ [cStatics])
def obsXA (n : Nat) (fa : List Fa) (fn : List DefD) (ts : List Tab) (tf : List Defn) (ex : PySem.W.Frag → Bool) (g : Addr → Option Obj) : AlX :=
  (obsT fa fn ts (fragXA n g), ex (fragXA n g) && tabsB g tf (fragXA n g))
theorem saysXA_of {n : Nat} {fa : List Fa} {fn : List DefD} {ts : List Tab} {tf : List Defn} {ex : PySem.W.Frag → Bool} {w : World} {h : Heap} (e : obsXA n fa fn ts tf ex h.get? = valX fn ts w) :
    SaysX fa fn ts tf ex w h (fragXA n h.get?) := by
  obtain ⟨e1, e2⟩ := Prod.mk.inj e
  obtain ⟨h1, h2⟩ := Bool.and_eq_true_iff.mp e2
  have one : ∀ p ∈ tf, PySem.W.codeHdIn (fragXA n h.get?) (cT (fragXA n h.get?) p).1 (cT (fragXA n h.get?) p).2 = true ∧ (fragXA n h.get?).lookup (cT (fragXA n h.get?) p).2 = none ∧
      h.get? (cT (fragXA n h.get?) p).2 = some { cls := .none, data := .fields #[] } := by
    intro p hp
    have z := List.all_eq_true.mp h2 p hp
    obtain ⟨z1, z2⟩ := Bool.and_eq_true_iff.mp z
    split at z2
    · rename_i o ho
      exact ⟨z1, frT_none ho z2, by rw [ho, emptyTab_eq z2]⟩
    · cases z2
  exact { t := e1, more := h1, hd := fun p hp => (one p hp).1, out := fun p hp => (one p hp).2.1, empty := fun p hp => (one p hp).2.2 }
def hookXA (n : Nat) (fa : List Fa) (fn : List DefD) (ts : List Tab) (tf : List Defn) (ex : PySem.W.Frag → Bool) : PySem.W.Hook :=
  { α := AlX, obs := fun s => obsXA n fa fn ts tf ex s.heap.get?, val := fun w => valX fn ts w, says := fun w h => ∃ K : PySem.W.Frag, K.In h ∧ SaysX fa fn ts tf ex w h K,
    of := fun _ _ e => ⟨_, frT_in, saysXA_of e⟩,
    keeps := fun _ _ _ ⟨K, hK, c⟩ k => ⟨K, PySem.W.Frag.In.keeps hK k, { c with empty := fun p hp => k _ _ (c.empty p hp) }⟩ }
theorem obsXA_eq {n : Nat} {fa : List Fa} {fn : List DefD} {ts : List Tab} {tf : List Defn} {ex : PySem.W.Frag → Bool} {g : Addr → Option Obj} {s : Shared} (h : ∀ a, g a = s.heap.get? a) :
    obsXA n fa fn ts tf ex g = (hookXA n fa fn ts tf ex).obs s := by
  cases (funext h : g = s.heap.get?)
  rfl
end PF
set_option Elab.async false
set_option linter.all false
set_option maxRecDepth 100000
set_option maxHeartbeats 4000000
namespace LW
open PySem L2 Evl PySem.Spec PyProof.Rows PF
def top (i : Nat) : Stmt := PySem.Challenge.pw_pledgehall_k05_fees_refused.main.body.getD i (.Pass ⟨0, 0, 0, 0⟩)
abbrev s_is_whole : Stmt := top 5
abbrev s_is_number : Stmt := top 6
abbrev s_check_number : Stmt := top 7
abbrev s_upper : Stmt := top 8
abbrev s_is_tuple_of : Stmt := top 9
abbrev s_is_ascending : Stmt := top 10
abbrev s_step_at : Stmt := top 13
abbrev s_fee_of : Stmt := top 14
abbrev s_net_of : Stmt := top 15
abbrev s_falls_at : Stmt := top 16
abbrev s_parts_at : Stmt := top 17
abbrev s_least_with_net : Stmt := top 18
abbrev s_is_step : Stmt := top 25
abbrev s_is_rule : Stmt := top 26
abbrev s_is_level_rule : Stmt := top 27
abbrev s_check_rule : Stmt := top 28
abbrev s_fee : Stmt := top 29
abbrev s_net : Stmt := top 30
abbrev s_is_level : Stmt := top 31
abbrev s_falling_total : Stmt := top 32
abbrev s_net_alike : Stmt := top 33
abbrev s_parting_total : Stmt := top 34
abbrev s_least_total : Stmt := top 35
abbrev s__law_well : Stmt := top 37
abbrev s__law_draw : Stmt := top 38
abbrev s__law_of : Stmt := top 39
abbrev s__law_is : Stmt := top 40
abbrev s__law_fee : Stmt := top 41
abbrev s__law_level_rule : Stmt := top 42
abbrev s__law_rule : Stmt := top 43
abbrev s__law_refused : Stmt := top 44
abbrev s__law_none : Stmt := top 45
abbrev s__law_level : Stmt := top 46
abbrev s__law_right : Stmt := top 47
abbrev s_law : Stmt := top 48
end LW
set_option Elab.async false
set_option linter.all false
set_option maxRecDepth 100000
set_option maxHeartbeats 0
namespace LW
open PySem L2 Evl PySem.Spec PyProof.Rows PF
def df_is_whole : He.DefD := ⟨("is_whole", none), "is_whole", "is_whole", defArgs s_is_whole, defBody s_is_whole, defScope s_is_whole, [], []⟩
def df_is_number : He.DefD := ⟨("is_number", none), "is_number", "is_number", defArgs s_is_number, defBody s_is_number, defScope s_is_number, [], []⟩
def df_check_number : He.DefD := ⟨("check_number", none), "check_number", "check_number", defArgs s_check_number, defBody s_check_number, defScope s_check_number, [], []⟩
def df_upper : He.DefD := ⟨("upper", none), "upper", "upper", defArgs s_upper, defBody s_upper, defScope s_upper, [], []⟩
def df_is_tuple_of : He.DefD := ⟨("is_tuple_of", none), "is_tuple_of", "is_tuple_of", defArgs s_is_tuple_of, defBody s_is_tuple_of, defScope s_is_tuple_of, [], []⟩
def df_is_ascending : He.DefD := ⟨("is_ascending", none), "is_ascending", "is_ascending", defArgs s_is_ascending, defBody s_is_ascending, defScope s_is_ascending, [], []⟩
def df_step_at : He.DefD := ⟨("step_at", none), "step_at", "step_at", defArgs s_step_at, defBody s_step_at, defScope s_step_at, [], []⟩
def df_fee_of : He.DefD := ⟨("fee_of", none), "fee_of", "fee_of", defArgs s_fee_of, defBody s_fee_of, defScope s_fee_of, [], []⟩
def df_net_of : He.DefD := ⟨("net_of", none), "net_of", "net_of", defArgs s_net_of, defBody s_net_of, defScope s_net_of, [], []⟩
def df_falls_at : He.DefD := ⟨("falls_at", none), "falls_at", "falls_at", defArgs s_falls_at, defBody s_falls_at, defScope s_falls_at, [], []⟩
def df_parts_at : He.DefD := ⟨("parts_at", none), "parts_at", "parts_at", defArgs s_parts_at, defBody s_parts_at, defScope s_parts_at, [], []⟩
def df_least_with_net : He.DefD := ⟨("least_with_net", none), "least_with_net", "least_with_net", defArgs s_least_with_net, defBody s_least_with_net, defScope s_least_with_net, [], []⟩
def df_is_step : He.DefD := ⟨("is_step", none), "is_step", "is_step", defArgs s_is_step, defBody s_is_step, defScope s_is_step, [], []⟩
def df_is_rule : He.DefD := ⟨("is_rule", none), "is_rule", "is_rule", defArgs s_is_rule, defBody s_is_rule, defScope s_is_rule, [], []⟩
def df_is_level_rule : He.DefD := ⟨("is_level_rule", none), "is_level_rule", "is_level_rule", defArgs s_is_level_rule, defBody s_is_level_rule, defScope s_is_level_rule, [], []⟩
def df_check_rule : He.DefD := ⟨("check_rule", none), "check_rule", "check_rule", defArgs s_check_rule, defBody s_check_rule, defScope s_check_rule, [], []⟩
def df_fee : He.DefD := ⟨("fee", none), "fee", "fee", defArgs s_fee, defBody s_fee, defScope s_fee, [], []⟩
def df_net : He.DefD := ⟨("net", none), "net", "net", defArgs s_net, defBody s_net, defScope s_net, [], []⟩
def df_is_level : He.DefD := ⟨("is_level", none), "is_level", "is_level", defArgs s_is_level, defBody s_is_level, defScope s_is_level, [], []⟩
def df_falling_total : He.DefD := ⟨("falling_total", none), "falling_total", "falling_total", defArgs s_falling_total, defBody s_falling_total, defScope s_falling_total, [], []⟩
def df_net_alike : He.DefD := ⟨("net_alike", none), "net_alike", "net_alike", defArgs s_net_alike, defBody s_net_alike, defScope s_net_alike, [], []⟩
def df_parting_total : He.DefD := ⟨("parting_total", none), "parting_total", "parting_total", defArgs s_parting_total, defBody s_parting_total, defScope s_parting_total, [], []⟩
def df_least_total : He.DefD := ⟨("least_total", none), "least_total", "least_total", defArgs s_least_total, defBody s_least_total, defScope s_least_total, [], []⟩
def df__law_well : He.DefD := ⟨("_law_well", none), "_law_well", "_law_well", defArgs s__law_well, defBody s__law_well, defScope s__law_well, [], []⟩
def df__law_draw : He.DefD := ⟨("_law_draw", none), "_law_draw", "_law_draw", defArgs s__law_draw, defBody s__law_draw, defScope s__law_draw, [], []⟩
def df__law_of : He.DefD := ⟨("_law_of", none), "_law_of", "_law_of", defArgs s__law_of, defBody s__law_of, defScope s__law_of, [], []⟩
def df__law_is : He.DefD := ⟨("_law_is", none), "_law_is", "_law_is", defArgs s__law_is, defBody s__law_is, defScope s__law_is, [], []⟩
def df__law_fee : He.DefD := ⟨("_law_fee", none), "_law_fee", "_law_fee", defArgs s__law_fee, defBody s__law_fee, defScope s__law_fee, [], []⟩
def df__law_level_rule : He.DefD := ⟨("_law_level_rule", none), "_law_level_rule", "_law_level_rule", defArgs s__law_level_rule, defBody s__law_level_rule, defScope s__law_level_rule, [], []⟩
def df__law_rule : He.DefD := ⟨("_law_rule", none), "_law_rule", "_law_rule", defArgs s__law_rule, defBody s__law_rule, defScope s__law_rule, [], []⟩
def df__law_refused : He.DefD := ⟨("_law_refused", none), "_law_refused", "_law_refused", defArgs s__law_refused, defBody s__law_refused, defScope s__law_refused, [], []⟩
def df__law_none : He.DefD := ⟨("_law_none", none), "_law_none", "_law_none", defArgs s__law_none, defBody s__law_none, defScope s__law_none, [], []⟩
def df__law_level : He.DefD := ⟨("_law_level", none), "_law_level", "_law_level", defArgs s__law_level, defBody s__law_level, defScope s__law_level, [], []⟩
def df__law_right : He.DefD := ⟨("_law_right", none), "_law_right", "_law_right", defArgs s__law_right, defBody s__law_right, defScope s__law_right, [], []⟩
def df_law : He.DefD := ⟨("law", none), "law", "law", defArgs s_law, defBody s_law, defScope s_law, [], []⟩
def fns : List He.DefD := ([df_is_whole, df_is_number, df_check_number, df_upper, df_is_tuple_of, df_is_ascending, df_step_at, df_fee_of, df_net_of, df_falls_at, df_parts_at, df_least_with_net, df_is_step, df_is_rule, df_is_level_rule, df_check_rule, df_fee, df_net, df_is_level, df_falling_total, df_net_alike, df_parting_total, df_least_total, df__law_well, df__law_draw, df__law_of, df__law_is, df__law_fee, df__law_level_rule, df__law_rule] : List He.DefD) ++ ([df__law_refused, df__law_none, df__law_level, df__law_right, df_law] : List He.DefD)
def fas : List He.Fa := ([.glo "is_whole", .glo "is_number", .glo "check_number", .glo "upper", .glo "is_tuple_of", .glo "is_ascending", .glo "step_at", .glo "fee_of", .glo "net_of", .glo "falls_at", .glo "parts_at", .glo "least_with_net", .glo "is_step", .glo "is_rule", .glo "is_level_rule", .glo "check_rule", .glo "fee", .glo "net", .glo "is_level", .glo "falling_total", .glo "net_alike", .glo "parting_total", .glo "least_total", .glo "_law_well", .glo "_law_draw", .glo "_law_of", .glo "_law_is", .glo "_law_fee", .glo "_law_level_rule", .glo "_law_rule"] : List He.Fa) ++ ([.glo "_law_refused", .glo "_law_none", .glo "_law_level", .glo "_law_right", .glo "law", .free "abs", .free "all", .free "bool", .free "divmod", .free "enumerate", .free "int", .free "isinstance", .free "len", .free "list", .free "max", .free "min", .free "range", .free "repr", .free "set", .free "sorted", .free "tuple", .free "zip", .int "MOST_BEGIN" 1000000, .int "MOST_FLOOR" 1000000, .int "MOST_RATE" 1000, .int "MOST_STEPS" 6, .int "MOST_TOTAL" 1000000000, .int "WHOLE" 1000, .glo "InvalidNumber", .glo "InvalidRule"] : List He.Fa)
def loose : List Str := (["PledgeError", "InvalidRule", "InvalidNumber", "is_whole", "is_number", "check_number", "upper", "is_tuple_of", "is_ascending", "WHOLE", "step_at", "fee_of", "net_of", "falls_at", "parts_at", "least_with_net", "MOST_STEPS", "MOST_BEGIN", "MOST_RATE", "MOST_TOTAL", "MOST_FLOOR", "is_step", "is_rule", "is_level_rule", "check_rule", "fee", "net", "is_level", "falling_total", "net_alike"] : List Str) ++ (["parting_total", "least_total", "_law_well", "_law_draw", "_law_of", "_law_is", "_law_fee", "_law_level_rule", "_law_rule", "_law_refused", "_law_none", "_law_level", "_law_right"] : List Str)
abbrev R : PySem.W.OpenRow := PySem.W.OpenLaw.row PySem.Challenge.rw_pledgehall_k05_fees_refused
def tf : List He.Defn := [("_law_right", none)]
def exl (K : PySem.W.Frag) : List Bool := [apartL tf K, xinB R.prog K "InvalidNumber" "given", xinB R.prog K "InvalidRule" "given", clB K "InvalidNumber" "given", clB K "InvalidRule" "given", exmsB K ["InvalidRule", "InvalidNumber"]]
def exb (K : PySem.W.Frag) : Bool := (exl K).all id
theorem exb_at {K : PySem.W.Frag} (cm : exb K = true) (i : Nat) {b : Bool} (h : (exl K)[i]? = some b) : b = true := List.all_eq_true.mp cm _ (List.mem_of_getElem? h)
def tbs : List He.Tab := []
abbrev hk : PySem.W.Hook := hookXA 4 fas fns tbs tf exb
def obs (s : PySem.W.SharedT) : He.AlX := obsXA 4 fas fns tbs tf exb (HandSHeadRun.getT s)
theorem obs_eq (s : PySem.W.SharedT) : obs s = hk.obs s.abs := obsXA_eq (HandSHeadRun.getT_eq s)
theorem run (w : World) : HandSHeadRun.RunEq R (PySem.W.view R.prog [48]) hk obs 100000 loose w := by
  intro os
  kernel_rfl
end LW
set_option Elab.async false
set_option linter.all false
set_option maxRecDepth 100000
set_option maxHeartbeats 4000000
/-! PFSI: sorted(set(xs)) of a list of ints. -/
namespace PF
open PySem L2 Evl PySem.Spec PyProof.Rows PySem.Froz
section
variable {P : Program} {w : World} {A : Around} {E : Value → Shared → Prop} {s : Shared}
set_option maxHeartbeats 3200000 in
/-- set(xs) of a list of ints -/
theorem call_set_lstI {l : Addr} {items : Array Value} (xs : List Int) {Q : Value → Shared → Prop} (hh : A.handled = none) (hl : s.heap.IsList l items) (hit : IntsAre items.toList xs)
    (hb : xs.length + 1 < scanBound)
    (h : ∀ (h' : Heap) (tk c : Nat), SetR w h' s.heap.objs.size (fun j => decide (j ∈ xs)) c → c ≤ xs.length → (∀ b o, s.heap.get? b = some o → h'.get? b = some o) → Q (.ref s.heap.objs.size) { s with heap := h', toks := tk }) :
    wpAny (model P w) A (call (.type "set") [.ref l]) Q E s := by
  have hisz : items.size = xs.length := by
    have q := IntsAre.length hit
    rw [Array.length_toList] at q
    exact q
  obtain ⟨c, tl, hmro⟩ := F.called_set.mro
  have hmade := F.called_set.made
  have hsub := F.called_set.sub
  refine wpAny_call (codeAny_of_tree ?_)
  show wpAny _ _ (callAny (.type "set") _) _ _ _
  refine wpAny_pure ⟨Code.quiet_builtin _ (by decide +kernel), codeAny_builtin F.entry_type_call ?_⟩
  rw [Around.under_plain (weight_type_call_type "set" [.ref l] []) rfl]
  have h1 := F.called_set.notType
  have h2 := F.called_set.canCreate
  have hct := F.typeCall_set_1 (.ref l)
  repeat (any_goals (first | assumption | wp_step))
  refine codeAny_mono (code_set_led1 (.ref l) (E := E) (Q₁ := fun obj s₁ => obj = .ref s.heap.objs.size ∧ s₁ = { s with heap := s.heap.push { cls := .type "set", dict := none, data := .set #[] 0 (.fresh 0 0 (!w.params.followText "set-order")) } }) ⟨rfl, rfl⟩) fun r s₁ hr => ?_
  cases r with
  | error e => exact hr
  | ok fl =>
    cases fl with
    | ret obj =>
      obtain ⟨rfl, rfl⟩ := hr
      have hS : (s.heap.push { cls := .type "set", dict := none, data := .set #[] 0 (.fresh 0 0 (!w.params.followText "set-order")) }).get? s.heap.objs.size = some { cls := .type "set", dict := none, data := .set #[] 0 (.fresh 0 0 (!w.params.followText "set-order")) } := Heap.get?_push_size _ rfl
      have hT : Shared.TypeIs { s with heap := s.heap.push { cls := .type "set", dict := none, data := .set #[] 0 (.fresh 0 0 (!w.params.followText "set-order")) } } (.ref s.heap.objs.size) "set" := ⟨_, hS, rfl⟩
      have hli := F.called_set.init.lookup
      have hbi := F.called_set.init.bind (.ref s.heap.objs.size)
      repeat (any_goals (first | assumption | wp_step))
      refine codeAny_mono (codeAny_call_builtin (R := wants (fun r s₂ => r = .none ∧ ∃ h' tk c, s₂ = { s with heap := h', toks := tk } ∧ SetR w h' s.heap.objs.size (fun j => decide (j ∈ xs)) c ∧ c ≤ xs.length ∧
          (∀ b o, s.heap.get? b = some o → h'.get? b = some o)) E) F.called_set.init.plain F.entry_set_init (check_set_init_1 hT ?_)) fun r₂ s₂ hr₂ => ?_
      · obtain ⟨ol, hol, hcl, nl, hdl⟩ := hl
        obtain ⟨ocls, odict, odata, oslots⟩ := ol
        simp only at hcl hdl
        subst hcl; subst hdl
        have hol' : (s.heap.push { cls := .type "set", dict := none, data := .set #[] 0 (.fresh 0 0 (!w.params.followText "set-order")) }).get? l = some { cls := .type "list", dict := odict, data := .seq items nl, slots := oslots } := Heap.get?_push_of_some _ hol
        have hsls := F.sub_list_set
        have hslf := F.sub_list_frozenset
        have hne : (Value.type "list" == Value.type "dict") = false := by decide
        have hl1 : (s.heap.push { cls := .type "set", dict := none, data := .set #[] 0 (.fresh 0 0 (!w.params.followText "set-order")) }).IsList l items := ⟨_, hol', rfl, nl, rfl⟩
        unfold Builtin.«set.__init__» noKeywords Builtin.Frozenset.updateFrom
        generalize hPI : pyIter = PI
        wp_walk
        subst hPI
        refine wpAny_pyIter_list hl1 ?_
        refine wpAny_bind (wpAny_runValue ?_)
        have hlS : l < s.heap.objs.size := Heap.lt_size hol
        have hh3 : A.in1.in1.in1.handled = none := by simp [hh]
        have hneI : l ≠ (s.heap.push { cls := .type "set", dict := none, data := .set #[] 0 (.fresh 0 0 (!w.params.followText "set-order")) }).objs.size := by
          rw [Heap.size_push]; exact Nat.ne_of_lt (Nat.lt_succ_of_lt hlS)
        have hSf : s.heap.objs.size ∉ [(s.heap.push { cls := .type "set", dict := none, data := .set #[] 0 (.fresh 0 0 (!w.params.followText "set-order")) }).objs.size, l] := by
          rw [Heap.size_push]; simp only [List.mem_cons, List.mem_singleton, List.not_mem_nil, or_false, not_or]
          exact ⟨Nat.ne_of_lt (Nat.lt_succ_self _), Nat.ne_of_gt hlS⟩
        have hval : ∀ (i : Nat) (v : Value), items[i]? = some v → ∃ k t, xs[i]? = some k ∧ v = .int k t := fun i v hv => by
          have hi : i < xs.length := by rw [← hisz]; exact (Array.getElem?_eq_some_iff.mp hv).1
          obtain ⟨t, e⟩ := PyProof.Rows.IntsAre.int_at hit i v (by rw [Array.getElem?_toList]; exact hv)
          refine ⟨xs[i], t, List.getElem?_eq_getElem hi, ?_⟩
          rw [e, List.getD_eq_getElem?_getD, List.getElem?_eq_getElem hi] <;> rfl
        refine set_update_ints ((Walks.list hh3 _ l hneI items).toS) s.heap.objs.size hSf xs hisz hb hval (items.size - 0) 0 _ (by omega) (Nat.zero_le _)
          ⟨⟨_, Heap.get?_push_size _ rfl, rfl, rfl⟩, (hl1.push _)⟩ ?hS0 ?hR
        case hS0 =>
          have hget : ((s.heap.push { cls := .type "set", dict := none, data := .set #[] 0 (.fresh 0 0 (!w.params.followText "set-order")) }).push { cls := .type "list_iterator", data := .fields #[.ref l, .int 0 0] }).get? s.heap.objs.size
              = some { cls := .type "set", dict := none, data := .set #[] 0 (.fresh 0 0 (!w.params.followText "set-order")) } := Heap.get?_push_of_some _ hS
          exact ⟨0, Nat.le_refl 0, setR_new_at hget⟩
        case hR =>
          intro s' c' hm hc' hS'
          obtain ⟨h', g2, d', tk', os'⟩ := s'
          have eg : g2 = s.gens := hm.gens
          have ed : d' = s.drawn := hm.drawn
          have eo : os' = s.os := hm.os
          subst eg; subst ed; subst eo
          show wpAny _ _ _ _ _ _
          refine wpAny_pure ?_
          show wpAny _ _ (PySem.ret Value.none) _ _ _
          rw [hisz] at hc'
          refine wpAny_pure ⟨rfl, h', tk', c', rfl, hS', hc', fun b o e => hm.heap b o (fun hb => ?_) (Heap.get?_push_of_some _ (Heap.get?_push_of_some _ e))⟩
          have hlt := Heap.lt_size e
          rcases List.mem_cons.mp hb with z | z
          · rw [z] at hlt; exact Nat.lt_irrefl _ hlt
          · rw [List.mem_singleton.mp z, Heap.size_push] at hlt
            exact absurd hlt (Nat.not_lt.mpr (Nat.le_succ _))
      · cases r₂ with
        | error e => exact hr₂
        | ok fl₂ =>
          cases fl₂ with
          | ret r =>
            obtain ⟨rfl, h', tk, c', rfl, hS', hc', hk'⟩ := hr₂
            repeat (any_goals (first | assumption | wp_step))
            exact h _ _ _ hS' hc' hk'
          | _ => exact hr₂.elim
    | _ => exact hr.elim
end
/-- sorted(set(xs)), xs a list of ints -/
def tSSI (K : PySem.W.Frag) (ta : TE) : TE := fun σ H Q => ta σ H fun x H1 => ∃ (l : Addr) (xs : List Int), x = .ref l ∧ SqL K H1 l (xs.map V.int) ∧ xs.length < 64 ∧
  ∀ (ys : List Int) (p : Addr), ys.Pairwise (· < ·) → (∀ y, y ∈ ys ↔ y ∈ xs) → H1 p = none → Q (.ref p) (upd H1 p (.lst (ys.map V.int)))
theorem pe_ssI {X : Cx} {a : Expr} {ta : TE} {p p2 q pos : Pos} (hg : Gl X "sorted") (hm : X.mg "sorted" = none) (hg2 : Gl X "set") (hm2 : X.mg "set" = none) (ha : PE X a ta) (hc : X.calm = true := by rfl)
    (na : starEach [a] X.env = (false, eval a X.env) :: starEach [] X.env := by rfl)
    (nb : starEach [.Call (.Name "set" p2) [a] [] q] X.env = (false, eval (.Call (.Name "set" p2) [a] [] q) X.env) :: starEach [] X.env := by rfl) : PE X (.Call (.Name "sorted" p) [.Call (.Name "set" p2) [a] [] q] [] pos) (tSSI X.K ta) := by
  refine ⟨fun pins s σ H Q I h => ?_⟩
  refine Call_ (ld_blt I hg hm boot_sorted ?_)
  refine PyProof.Rows.callWith_builtin1 (PyProof.Rows.args_cons ?_ nb) rfl rfl
  refine Call_ (ld_blt I hg2 hm2 boot_set ?_)
  refine PyProof.Rows.callWith_type1 (PyProof.Rows.args_cons (thn (ha.run pins s σ H _ I h) fun v s1 ⟨x, H1, I1, r1, q1⟩ => PyProof.Rows.args_nil ?_) na) na rfl
  obtain ⟨l, xs, rfl, hq, hl, q1⟩ := q1
  cases r1
  obtain ⟨its, r, pl, hz⟩ := I1.list hq
  refine call_set_lstI xs (I1.ok.hd hc) pl.isList (by simpa using ints_of_vals r) (by unfold scanBound; omega) fun h' tk c hS hcn hk => ?_
  refine PyProof.Rows.args_nil ?_
  have I2 : Inv X pins σ H1 { s1 with heap := h', toks := tk } := I1.kept hk
  have hS2 : SetR X.w ({ s1 with heap := h', toks := tk } : Shared).heap s1.heap.objs.size (fun j => decide (j ∈ xs)) c := hS
  generalize ({ s1 with heap := h', toks := tk } : Shared) = s3 at *
  refine sorted_set hS2 (I1.ok.hd hc) (by omega) fun s' p out c ys k g o hp hg' hi hs hm' hln => ?_
  have hlen : (ys.map V.int).length ≤ sizeLine := by rw [List.length_map, hln, sizeLine_eq]; omega
  have hn : H1 p = none := I2.hok.fresh hp
  have J : Inv X pins σ (upd H1 p (.lst (ys.map V.int))) { s3 with heap := s'.heap, gens := s'.gens, drawn := s'.drawn, toks := s'.toks } :=
    I2.call (ch := []) (Un.laid k hp hn) (I2.hok.laid k hp ⟨hlen, out.toList, c, vals_of_ints hi, hg'⟩) (by rw [g]; exact I2.bare) (fun _ z => nomatch z)
  have e : s' = { s3 with heap := s'.heap, gens := s'.gens, drawn := s'.drawn, toks := s'.toks } := by
    cases s'
    cases s3
    cases o
    rfl
  rw [e]
  exact ⟨.ref p, _, J, rfl, q1 ys p hs (fun y => by rw [hm', decide_eq_true_eq]) hn⟩
theorem lt_set {xs ys : List Int} (h : ys.Pairwise (· < ·)) (e : ∀ y, y ∈ ys ↔ y ∈ xs) : ys = uniqI (sortI xs) :=
  lt_unique h (uniqI_lt (sortI_sorted xs)) fun k => by rw [e, mem_uniqI, (sortI_perm xs).mem_iff]
section
variable {X : Cx} {T : List (Addr × Str)} {W : WX}
/-- sorted(set(xs)) of ints -/
def cSSI (c : EX) : EX := fun ρ S => bindO (c ρ S) fun d S => match asL d S with
  | some ds => (match intsOf ds with
    | some xs => if xs.length < 64 then some (.ok (.lst ((uniqI (sortI xs)).map D.int)), S) else none
    | none => none)
  | none => none
theorem re_ssI {e : Expr} {c : EX} {p p2 q pos : Pos} (h : RE T false X W e c) (hm : X.mg "sorted" = none) (hm2 : X.mg "set" = none) (hg : Gl X "sorted" := by rfl) (hg2 : Gl X "set" := by rfl) (hc : X.calm = true := by rfl)
    (na : starEach [e] X.env = (false, eval e X.env) :: starEach [] X.env := by rfl)
    (nb : starEach [.Call (.Name "set" p2) [e] [] q] X.env = (false, eval (.Call (.Name "set" p2) [e] [] q) X.env) :: starEach [] X.env := by rfl) :
    RE T true X W (.Call (.Name "sorted" p) [.Call (.Name "set" p2) [e] [] q] [] pos) (cSSI c) := by
  obtain ⟨t, pe, f⟩ := h
  refine ⟨_, pe_ssI hg hm hg2 hm2 pe hc na nb, fun σ ρ F μ S H Q s hE g => f σ ρ F μ S H _ s hE (GP.seq g fun d F1 μ1 H1 S1 e1 p1 s1 g1 v rv => ?_)⟩
  split at g1
  · rename_i ds hds
    split at g1
    · rename_i xs hxs
      split at g1
      · rename_i hl
        obtain ⟨a, ws, rfl, h1, h2⟩ := asL_ok s1 rv hds
        rw [ints_rep h2 hxs] at h1
        refine ⟨a, xs, rfl, h1, hl, fun ys c n1 n2 hn => ?_⟩
        have e := lt_set n1 n2
        subst e
        exact gp_lst g1 s1 (reps_ints _) c hn
      · exact g1.elim
    · exact g1.elim
  · exact g1.elim
end
end PF
set_option Elab.async false
set_option linter.all false
set_option maxRecDepth 100000
set_option maxHeartbeats 4000000
namespace LW
open PySem L2 Evl PySem.Spec PyProof.Rows PF
/-! ### the text by places -/
abbrev wfuel : Nat := 100000
/-! ### is_whole -/
theorem sc_is_whole : FnScope ["value"] ["value"] (defScope s_is_whole) := ⟨rfl, rfl, rfl, by decide +kernel, rfl, by decide +kernel, by decide +kernel⟩
theorem pn_is_whole : Posn (defArgs s_is_whole) (defBody s_is_whole) (defScope s_is_whole) "is_whole" ["value"] := fun _ _ _ _ _ _ us hl => match us, hl with | [_], _ => rfl
/-! ### is_number -/
theorem sc_is_number : FnScope ["value", "low", "high"] ["value", "low", "high"] (defScope s_is_number) := ⟨rfl, rfl, rfl, by decide +kernel, rfl, by decide +kernel, by decide +kernel⟩
theorem pn_is_number : Posn (defArgs s_is_number) (defBody s_is_number) (defScope s_is_number) "is_number" ["value", "low", "high"] := fun _ _ _ _ _ _ us hl => match us, hl with | [_, _, _], _ => rfl
/-! ### check_number -/
theorem sc_check_number : FnScope ["value", "low", "high"] ["value", "low", "high"] (defScope s_check_number) := ⟨rfl, rfl, rfl, by decide +kernel, rfl, by decide +kernel, by decide +kernel⟩
theorem pn_check_number : Posn (defArgs s_check_number) (defBody s_check_number) (defScope s_check_number) "check_number" ["value", "low", "high"] := fun _ _ _ _ _ _ us hl => match us, hl with | [_, _, _], _ => rfl
/-! ### upper -/
theorem sc_upper : FnScope ["number", "by"] ["number", "by"] (defScope s_upper) := ⟨rfl, rfl, rfl, by decide +kernel, rfl, by decide +kernel, by decide +kernel⟩
theorem pn_upper : Posn (defArgs s_upper) (defBody s_upper) (defScope s_upper) "upper" ["number", "by"] := fun _ _ _ _ _ _ us hl => match us, hl with | [_, _], _ => rfl
/-! ### is_tuple_of -/
theorem sc_is_tuple_of : FnScope ["value", "many"] ["value", "many"] (defScope s_is_tuple_of) := ⟨rfl, rfl, rfl, by decide +kernel, rfl, by decide +kernel, by decide +kernel⟩
theorem pn_is_tuple_of : Posn (defArgs s_is_tuple_of) (defBody s_is_tuple_of) (defScope s_is_tuple_of) "is_tuple_of" ["value", "many"] := fun _ _ _ _ _ _ us hl => match us, hl with | [_, _], _ => rfl
/-! ### is_ascending -/
theorem sc_is_ascending : FnScope ["values", "one", "two"] ["values"] (defScope s_is_ascending) := ⟨rfl, rfl, rfl, by decide +kernel, rfl, by decide +kernel, by decide +kernel⟩
theorem pn_is_ascending : Posn (defArgs s_is_ascending) (defBody s_is_ascending) (defScope s_is_ascending) "is_ascending" ["values"] := fun _ _ _ _ _ _ us hl => match us, hl with | [_], _ => rfl
/-! ### step_at -/
theorem sc_step_at : FnScope ["rule", "total", "step"] ["rule", "total"] (defScope s_step_at) := ⟨rfl, rfl, rfl, by decide +kernel, rfl, by decide +kernel, by decide +kernel⟩
theorem pn_step_at : Posn (defArgs s_step_at) (defBody s_step_at) (defScope s_step_at) "step_at" ["rule", "total"] := fun _ _ _ _ _ _ us hl => match us, hl with | [_, _], _ => rfl
/-! ### fee_of -/
theorem sc_fee_of : FnScope ["rule", "total", "_", "base", "rate"] ["rule", "total"] (defScope s_fee_of) := ⟨rfl, rfl, rfl, by decide +kernel, rfl, by decide +kernel, by decide +kernel⟩
theorem pn_fee_of : Posn (defArgs s_fee_of) (defBody s_fee_of) (defScope s_fee_of) "fee_of" ["rule", "total"] := fun _ _ _ _ _ _ us hl => match us, hl with | [_, _], _ => rfl
/-! ### net_of -/
theorem sc_net_of : FnScope ["rule", "total"] ["rule", "total"] (defScope s_net_of) := ⟨rfl, rfl, rfl, by decide +kernel, rfl, by decide +kernel, by decide +kernel⟩
theorem pn_net_of : Posn (defArgs s_net_of) (defBody s_net_of) (defScope s_net_of) "net_of" ["rule", "total"] := fun _ _ _ _ _ _ us hl => match us, hl with | [_, _], _ => rfl
/-! ### falls_at -/
theorem sc_falls_at : FnScope ["rule", "begin", "_"] ["rule"] (defScope s_falls_at) := ⟨rfl, rfl, rfl, by decide +kernel, rfl, by decide +kernel, by decide +kernel⟩
theorem pn_falls_at : Posn (defArgs s_falls_at) (defBody s_falls_at) (defScope s_falls_at) "falls_at" ["rule"] := fun _ _ _ _ _ _ us hl => match us, hl with | [_], _ => rfl
/-! ### parts_at -/
theorem sc_parts_at : FnScope ["rule", "other", "begins", "step", "at", "begin", "many", "end", "total"] ["rule", "other"] (defScope s_parts_at) := ⟨rfl, rfl, rfl, by decide +kernel, rfl, by decide +kernel, by decide +kernel⟩
theorem pn_parts_at : Posn (defArgs s_parts_at) (defBody s_parts_at) (defScope s_parts_at) "parts_at" ["rule", "other"] := fun _ _ _ _ _ _ us hl => match us, hl with | [_, _], _ => rfl
/-! ### least_with_net -/
theorem sc_least_with_net : FnScope ["rule", "floor", "begin", "base", "_", "low", "high", "middle"] ["rule", "floor"] (defScope s_least_with_net) := ⟨rfl, rfl, rfl, by decide +kernel, rfl, by decide +kernel, by decide +kernel⟩
theorem pn_least_with_net : Posn (defArgs s_least_with_net) (defBody s_least_with_net) (defScope s_least_with_net) "least_with_net" ["rule", "floor"] := fun _ _ _ _ _ _ us hl => match us, hl with | [_, _], _ => rfl
/-! ### is_step -/
theorem sc_is_step : FnScope ["value"] ["value"] (defScope s_is_step) := ⟨rfl, rfl, rfl, by decide +kernel, rfl, by decide +kernel, by decide +kernel⟩
theorem pn_is_step : Posn (defArgs s_is_step) (defBody s_is_step) (defScope s_is_step) "is_step" ["value"] := fun _ _ _ _ _ _ us hl => match us, hl with | [_], _ => rfl
/-! ### is_rule -/
theorem sc_is_rule : FnScope ["value", "step"] ["value"] (defScope s_is_rule) := ⟨rfl, rfl, rfl, by decide +kernel, rfl, by decide +kernel, by decide +kernel⟩
theorem pn_is_rule : Posn (defArgs s_is_rule) (defBody s_is_rule) (defScope s_is_rule) "is_rule" ["value"] := fun _ _ _ _ _ _ us hl => match us, hl with | [_], _ => rfl
/-! ### is_level_rule -/
theorem sc_is_level_rule : FnScope ["value"] ["value"] (defScope s_is_level_rule) := ⟨rfl, rfl, rfl, by decide +kernel, rfl, by decide +kernel, by decide +kernel⟩
theorem pn_is_level_rule : Posn (defArgs s_is_level_rule) (defBody s_is_level_rule) (defScope s_is_level_rule) "is_level_rule" ["value"] := fun _ _ _ _ _ _ us hl => match us, hl with | [_], _ => rfl
/-! ### check_rule -/
theorem sc_check_rule : FnScope ["value"] ["value"] (defScope s_check_rule) := ⟨rfl, rfl, rfl, by decide +kernel, rfl, by decide +kernel, by decide +kernel⟩
theorem pn_check_rule : Posn (defArgs s_check_rule) (defBody s_check_rule) (defScope s_check_rule) "check_rule" ["value"] := fun _ _ _ _ _ _ us hl => match us, hl with | [_], _ => rfl
/-! ### fee -/
theorem sc_fee : FnScope ["rule", "total"] ["rule", "total"] (defScope s_fee) := ⟨rfl, rfl, rfl, by decide +kernel, rfl, by decide +kernel, by decide +kernel⟩
theorem pn_fee : Posn (defArgs s_fee) (defBody s_fee) (defScope s_fee) "fee" ["rule", "total"] := fun _ _ _ _ _ _ us hl => match us, hl with | [_, _], _ => rfl
/-! ### net -/
theorem sc_net : FnScope ["rule", "total"] ["rule", "total"] (defScope s_net) := ⟨rfl, rfl, rfl, by decide +kernel, rfl, by decide +kernel, by decide +kernel⟩
theorem pn_net : Posn (defArgs s_net) (defBody s_net) (defScope s_net) "net" ["rule", "total"] := fun _ _ _ _ _ _ us hl => match us, hl with | [_, _], _ => rfl
/-! ### is_level -/
theorem sc_is_level : FnScope ["rule"] ["rule"] (defScope s_is_level) := ⟨rfl, rfl, rfl, by decide +kernel, rfl, by decide +kernel, by decide +kernel⟩
theorem pn_is_level : Posn (defArgs s_is_level) (defBody s_is_level) (defScope s_is_level) "is_level" ["rule"] := fun _ _ _ _ _ _ us hl => match us, hl with | [_], _ => rfl
/-! ### falling_total -/
theorem sc_falling_total : FnScope ["rule"] ["rule"] (defScope s_falling_total) := ⟨rfl, rfl, rfl, by decide +kernel, rfl, by decide +kernel, by decide +kernel⟩
theorem pn_falling_total : Posn (defArgs s_falling_total) (defBody s_falling_total) (defScope s_falling_total) "falling_total" ["rule"] := fun _ _ _ _ _ _ us hl => match us, hl with | [_], _ => rfl
/-! ### net_alike -/
theorem sc_net_alike : FnScope ["rule", "other"] ["rule", "other"] (defScope s_net_alike) := ⟨rfl, rfl, rfl, by decide +kernel, rfl, by decide +kernel, by decide +kernel⟩
theorem pn_net_alike : Posn (defArgs s_net_alike) (defBody s_net_alike) (defScope s_net_alike) "net_alike" ["rule", "other"] := fun _ _ _ _ _ _ us hl => match us, hl with | [_, _], _ => rfl
/-! ### parting_total -/
theorem sc_parting_total : FnScope ["rule", "other"] ["rule", "other"] (defScope s_parting_total) := ⟨rfl, rfl, rfl, by decide +kernel, rfl, by decide +kernel, by decide +kernel⟩
theorem pn_parting_total : Posn (defArgs s_parting_total) (defBody s_parting_total) (defScope s_parting_total) "parting_total" ["rule", "other"] := fun _ _ _ _ _ _ us hl => match us, hl with | [_, _], _ => rfl
/-! ### least_total -/
theorem sc_least_total : FnScope ["rule", "floor"] ["rule", "floor"] (defScope s_least_total) := ⟨rfl, rfl, rfl, by decide +kernel, rfl, by decide +kernel, by decide +kernel⟩
theorem pn_least_total : Posn (defArgs s_least_total) (defBody s_least_total) (defScope s_least_total) "least_total" ["rule", "floor"] := fun _ _ _ _ _ _ us hl => match us, hl with | [_, _], _ => rfl
/-! ### _law_well -/
theorem sc__law_well : FnScope ["script", "lap", "stirred", "cell", "own"] ["script", "lap"] (defScope s__law_well) := ⟨rfl, rfl, rfl, by decide +kernel, rfl, by decide +kernel, by decide +kernel⟩
theorem pn__law_well : Posn (defArgs s__law_well) (defBody s__law_well) (defScope s__law_well) "_law_well" ["script", "lap"] := fun _ _ _ _ _ _ us hl => match us, hl with | [_, _], _ => rfl
/-! ### _law_draw -/
theorem sc__law_draw : FnScope ["well", "limit", "figure", "mixed"] ["well", "limit"] (defScope s__law_draw) := ⟨rfl, rfl, rfl, by decide +kernel, rfl, by decide +kernel, by decide +kernel⟩
theorem pn__law_draw : Posn (defArgs s__law_draw) (defBody s__law_draw) (defScope s__law_draw) "_law_draw" ["well", "limit"] := fun _ _ _ _ _ _ us hl => match us, hl with | [_, _], _ => rfl
/-! ### _law_of -/
theorem sc__law_of : FnScope ["well", "some"] ["well", "some"] (defScope s__law_of) := ⟨rfl, rfl, rfl, by decide +kernel, rfl, by decide +kernel, by decide +kernel⟩
theorem pn__law_of : Posn (defArgs s__law_of) (defBody s__law_of) (defScope s__law_of) "_law_of" ["well", "some"] := fun _ _ _ _ _ _ us hl => match us, hl with | [_, _], _ => rfl
/-! ### _law_is -/
theorem sc__law_is : FnScope ["told", "due"] ["told", "due"] (defScope s__law_is) := ⟨rfl, rfl, rfl, by decide +kernel, rfl, by decide +kernel, by decide +kernel⟩
theorem pn__law_is : Posn (defArgs s__law_is) (defBody s__law_is) (defScope s__law_is) "_law_is" ["told", "due"] := fun _ _ _ _ _ _ us hl => match us, hl with | [_, _], _ => rfl
/-! ### _law_fee -/
theorem sc__law_fee : FnScope ["rule", "total", "step", "each"] ["rule", "total"] (defScope s__law_fee) := ⟨rfl, rfl, rfl, by decide +kernel, rfl, by decide +kernel, by decide +kernel⟩
theorem pn__law_fee : Posn (defArgs s__law_fee) (defBody s__law_fee) (defScope s__law_fee) "_law_fee" ["rule", "total"] := fun _ _ _ _ _ _ us hl => match us, hl with | [_, _], _ => rfl
/-! ### _law_level_rule -/
theorem sc__law_level_rule : FnScope ["well", "many", "wide", "rule", "start", "turn", "left", "rate"] ["well", "many", "wide"] (defScope s__law_level_rule) := ⟨rfl, rfl, rfl, by decide +kernel, rfl, by decide +kernel, by decide +kernel⟩
theorem pn__law_level_rule : Posn (defArgs s__law_level_rule) (defBody s__law_level_rule) (defScope s__law_level_rule) "_law_level_rule" ["well", "many", "wide"] := fun _ _ _ _ _ _ us hl => match us, hl with | [_, _, _], _ => rfl
/-! ### _law_rule -/
theorem sc__law_rule : FnScope ["well", "starts", "turn", "found", "at", "start"] ["well"] (defScope s__law_rule) := ⟨rfl, rfl, rfl, by decide +kernel, rfl, by decide +kernel, by decide +kernel⟩
theorem pn__law_rule : Posn (defArgs s__law_rule) (defBody s__law_rule) (defScope s__law_rule) "_law_rule" ["well"] := fun _ _ _ _ _ _ us hl => match us, hl with | [_], _ => rfl
/-! ### _law_refused -/
theorem sc__law_refused : FnScope ["act", "e"] ["act"] (defScope s__law_refused) := ⟨rfl, rfl, rfl, by decide +kernel, rfl, by decide +kernel, by decide +kernel⟩
theorem pn__law_refused : Posn (defArgs s__law_refused) (defBody s__law_refused) (defScope s__law_refused) "_law_refused" ["act"] := fun _ _ _ _ _ _ us hl => match us, hl with | [_], _ => rfl
/-! ### _law_none -/
theorem sc__law_none : FnScope ["well", "rule", "some"] ["well", "rule"] (defScope s__law_none) := ⟨rfl, rfl, rfl, by decide +kernel, rfl, by decide +kernel, by decide +kernel⟩
theorem pn__law_none : Posn (defArgs s__law_none) (defBody s__law_none) (defScope s__law_none) "_law_none" ["well", "rule"] := fun _ _ _ _ _ _ us hl => match us, hl with | [_, _], _ => rfl
/-! ### _law_level -/
theorem sc__law_level : FnScope ["rule", "step"] ["rule"] (defScope s__law_level) := ⟨rfl, rfl, rfl, by decide +kernel, rfl, by decide +kernel, by decide +kernel⟩
theorem pn__law_level : Posn (defArgs s__law_level) (defBody s__law_level) (defScope s__law_level) "_law_level" ["rule"] := fun _ _ _ _ _ _ us hl => match us, hl with | [_], _ => rfl
/-! ### _law_right -/
theorem sc__law_right : FnScope ["well", "turn", "rule", "one", "is_one", "two", "is_two", "total", "is_total", "due", "told", "floor", "is_floor"] ["well"] (defScope s__law_right) := ⟨rfl, rfl, rfl, by decide +kernel, rfl, by decide +kernel, by decide +kernel⟩
theorem pn__law_right : Posn (defArgs s__law_right) (defBody s__law_right) (defScope s__law_right) "_law_right" ["well"] := fun _ _ _ _ _ _ us hl => match us, hl with | [_], _ => rfl
/-! ### law -/
theorem sc_law : FnScope ["script", "lap"] ["script"] (defScope s_law) := ⟨rfl, rfl, rfl, by decide +kernel, rfl, by decide +kernel, by decide +kernel⟩
theorem pn_law : Posn (defArgs s_law) (defBody s_law) (defScope s_law) "law" ["script"] := fun _ _ _ _ _ _ us hl => match us, hl with | [_], _ => rfl
def kn0_g {α : Type} : List α → List α → List α
  | [], [b0, b1] => [b1, b0]
  | _, _ => []
theorem kn0_b : Keyn (defArgs s_fee) (defBody s_fee) (defScope s_fee) "fee" ["rule", "total"] (["total", "rule"] : List Str) 0 kn0_g := fun _ _ _ _ _ _ us ws h1 h2 => match us, ws, h1, h2 with | [], [b0, b1], _, _ => rfl
theorem kn0_r {K : PySem.W.Frag} {F : Hp} {μ : List MA} {ds es : List D} {vs us : List V} (_ : ds.length = 0) (_ : es.length = ((["total", "rule"] : List Str)).length) (r : Reps K F μ ds vs) (q : Reps K F μ es us) : Reps K F μ (kn0_g ds es) (kn0_g vs us) := by
  match ds, vs, es, us, r, q with
  | [], _, [_, _], _, .nil, .cons q0 (.cons q1 .nil) => exact .cons q1 (.cons q0 .nil)
theorem kn0_v {vs us : List V} {ws zs : List Value} (_ : vs.length = 0) (_ : us.length = ((["total", "rule"] : List Str)).length) (r : Vals vs ws) (q : Vals us zs) : Vals (kn0_g vs us) (kn0_g ws zs) := by
  match vs, ws, us, zs, r, q with
  | [], _, [_, _], _, .nil, .cons q0 (.cons q1 .nil) => exact .cons q1 (.cons q0 .nil)
theorem kn0_l {ds es : List V} (h1 : ds.length = 0) (h2 : es.length = ((["total", "rule"] : List Str)).length) : (kn0_g ds es).length = (["rule", "total"] : List Str).length := match ds, es, h1, h2 with | [], [_, _], _, _ => rfl
def kn1_g {α : Type} : List α → List α → List α
  | [], [b0, b1] => [b1, b0]
  | _, _ => []
theorem kn1_b : Keyn (defArgs s_net) (defBody s_net) (defScope s_net) "net" ["rule", "total"] (["total", "rule"] : List Str) 0 kn1_g := fun _ _ _ _ _ _ us ws h1 h2 => match us, ws, h1, h2 with | [], [b0, b1], _, _ => rfl
theorem kn1_r {K : PySem.W.Frag} {F : Hp} {μ : List MA} {ds es : List D} {vs us : List V} (_ : ds.length = 0) (_ : es.length = ((["total", "rule"] : List Str)).length) (r : Reps K F μ ds vs) (q : Reps K F μ es us) : Reps K F μ (kn1_g ds es) (kn1_g vs us) := by
  match ds, vs, es, us, r, q with
  | [], _, [_, _], _, .nil, .cons q0 (.cons q1 .nil) => exact .cons q1 (.cons q0 .nil)
theorem kn1_v {vs us : List V} {ws zs : List Value} (_ : vs.length = 0) (_ : us.length = ((["total", "rule"] : List Str)).length) (r : Vals vs ws) (q : Vals us zs) : Vals (kn1_g vs us) (kn1_g ws zs) := by
  match vs, ws, us, zs, r, q with
  | [], _, [_, _], _, .nil, .cons q0 (.cons q1 .nil) => exact .cons q1 (.cons q0 .nil)
theorem kn1_l {ds es : List V} (h1 : ds.length = 0) (h2 : es.length = ((["total", "rule"] : List Str)).length) : (kn1_g ds es).length = (["rule", "total"] : List Str).length := match ds, es, h1, h2 with | [], [_, _], _, _ => rfl
def kn2_g {α : Type} : List α → List α → List α
  | [], [b0] => [b0]
  | _, _ => []
theorem kn2_b : Keyn (defArgs s_falling_total) (defBody s_falling_total) (defScope s_falling_total) "falling_total" ["rule"] (["rule"] : List Str) 0 kn2_g := fun _ _ _ _ _ _ us ws h1 h2 => match us, ws, h1, h2 with | [], [b0], _, _ => rfl
theorem kn2_r {K : PySem.W.Frag} {F : Hp} {μ : List MA} {ds es : List D} {vs us : List V} (_ : ds.length = 0) (_ : es.length = ((["rule"] : List Str)).length) (r : Reps K F μ ds vs) (q : Reps K F μ es us) : Reps K F μ (kn2_g ds es) (kn2_g vs us) := by
  match ds, vs, es, us, r, q with
  | [], _, [_], _, .nil, .cons q0 .nil => exact .cons q0 .nil
theorem kn2_v {vs us : List V} {ws zs : List Value} (_ : vs.length = 0) (_ : us.length = ((["rule"] : List Str)).length) (r : Vals vs ws) (q : Vals us zs) : Vals (kn2_g vs us) (kn2_g ws zs) := by
  match vs, ws, us, zs, r, q with
  | [], _, [_], _, .nil, .cons q0 .nil => exact .cons q0 .nil
theorem kn2_l {ds es : List V} (h1 : ds.length = 0) (h2 : es.length = ((["rule"] : List Str)).length) : (kn2_g ds es).length = (["rule"] : List Str).length := match ds, es, h1, h2 with | [], [_], _, _ => rfl
def kn3_g {α : Type} : List α → List α → List α
  | [], [b0, b1] => [b1, b0]
  | _, _ => []
theorem kn3_b : Keyn (defArgs s_parting_total) (defBody s_parting_total) (defScope s_parting_total) "parting_total" ["rule", "other"] (["other", "rule"] : List Str) 0 kn3_g := fun _ _ _ _ _ _ us ws h1 h2 => match us, ws, h1, h2 with | [], [b0, b1], _, _ => rfl
theorem kn3_r {K : PySem.W.Frag} {F : Hp} {μ : List MA} {ds es : List D} {vs us : List V} (_ : ds.length = 0) (_ : es.length = ((["other", "rule"] : List Str)).length) (r : Reps K F μ ds vs) (q : Reps K F μ es us) : Reps K F μ (kn3_g ds es) (kn3_g vs us) := by
  match ds, vs, es, us, r, q with
  | [], _, [_, _], _, .nil, .cons q0 (.cons q1 .nil) => exact .cons q1 (.cons q0 .nil)
theorem kn3_v {vs us : List V} {ws zs : List Value} (_ : vs.length = 0) (_ : us.length = ((["other", "rule"] : List Str)).length) (r : Vals vs ws) (q : Vals us zs) : Vals (kn3_g vs us) (kn3_g ws zs) := by
  match vs, ws, us, zs, r, q with
  | [], _, [_, _], _, .nil, .cons q0 (.cons q1 .nil) => exact .cons q1 (.cons q0 .nil)
theorem kn3_l {ds es : List V} (h1 : ds.length = 0) (h2 : es.length = ((["other", "rule"] : List Str)).length) : (kn3_g ds es).length = (["rule", "other"] : List Str).length := match ds, es, h1, h2 with | [], [_, _], _, _ => rfl
def kn4_g {α : Type} : List α → List α → List α
  | [], [b0, b1] => [b1, b0]
  | _, _ => []
theorem kn4_b : Keyn (defArgs s_least_total) (defBody s_least_total) (defScope s_least_total) "least_total" ["rule", "floor"] (["floor", "rule"] : List Str) 0 kn4_g := fun _ _ _ _ _ _ us ws h1 h2 => match us, ws, h1, h2 with | [], [b0, b1], _, _ => rfl
theorem kn4_r {K : PySem.W.Frag} {F : Hp} {μ : List MA} {ds es : List D} {vs us : List V} (_ : ds.length = 0) (_ : es.length = ((["floor", "rule"] : List Str)).length) (r : Reps K F μ ds vs) (q : Reps K F μ es us) : Reps K F μ (kn4_g ds es) (kn4_g vs us) := by
  match ds, vs, es, us, r, q with
  | [], _, [_, _], _, .nil, .cons q0 (.cons q1 .nil) => exact .cons q1 (.cons q0 .nil)
theorem kn4_v {vs us : List V} {ws zs : List Value} (_ : vs.length = 0) (_ : us.length = ((["floor", "rule"] : List Str)).length) (r : Vals vs ws) (q : Vals us zs) : Vals (kn4_g vs us) (kn4_g ws zs) := by
  match vs, ws, us, zs, r, q with
  | [], _, [_, _], _, .nil, .cons q0 (.cons q1 .nil) => exact .cons q1 (.cons q0 .nil)
theorem kn4_l {ds es : List V} (h1 : ds.length = 0) (h2 : es.length = ((["floor", "rule"] : List Str)).length) : (kn4_g ds es).length = (["rule", "floor"] : List Str).length := match ds, es, h1, h2 with | [], [_, _], _, _ => rfl
noncomputable section
def b__law_draw : SX := (sSeq (sIf (cTest (cBin oGt (cBin oIx (cVar 0) (cK (.int 0))) (cK (.int 0)))) (sSeq (sAsg (tTup 2 (tsCons (tSub (cVar 0) (cK (.int 0))) (tsCons (tName 2) tsNil))) (cBlt bDivmod (aCons (cBin oIx (cVar 0) (cK (.int 0))) (aCons (cVar 1) aNil))))
    (sRet (cVar 2))) sNil)
    (sSeq (sAsg (tSub (cVar 0) (cK (.int 2))) (cBin oAddA (cBin oIx (cVar 0) (cK (.int 2))) (cK (.int 1))))
    (sSeq (sSet 3 (cBin oMod (cBlt bInt (aCons (cBin oAddA (cBin oMul (cBin oIx (cVar 0) (cK (.int 1))) (cK (.int 40009))) (cBin oMul (cK (.int 15013)) (cBin oIx (cVar 0) (cK (.int 2))))) aNil)) (cK (.int 2147483629))))
    (sSeq (sAsg (tSub (cVar 0) (cK (.int 1))) (cBin oMod (cBlt bInt (aCons (cBin oAddA (cBin oMul (cVar 3) (cBin oAddA (cBin oMod (cBlt bInt (aCons (cVar 3) aNil)) (cK (.int 5003))) (cK (.int 20011)))) (cBin oIx (cVar 0) (cK (.int 2)))) aNil)) (cK (.int 2147483629))))
    (sRet (cBin oMod (cBlt bInt (aCons (cBin oDiv (cBin oIx (cVar 0) (cK (.int 1))) (cK (.int 1031))) aNil)) (cVar 1)))))))
def F__law_draw : OpB := callF false 4 b__law_draw
def b__law_of : SX := (sRet (cBin oIx (cVar 1) (cCall 2 F__law_draw (aCons (cVar 0) (aCons (cBlt bLen (aCons (cVar 1) aNil)) aNil)))))
def F__law_of : OpB := callF false 2 b__law_of
def b__law_fee : SX := (sSeq (sSet 2 (cBin oIx (cComp (cSeqA (cVar 0)) [3] (tName 3) (cTest (cBin oLe (cBin oIx (cVar 3) (cK (.int 0))) (cVar 1))) (cVar 3)) (cUn oNeg (cK (.int 1)))))
    (sRet (cBin oAddA (cBin oIx (cVar 2) (cK (.int 1))) (cBin oDiv (cBin oAddA (cBin oMul (cBin oIx (cVar 2) (cK (.int 2))) (cVar 1)) (cK (.int 999))) (cK (.int 1000))))))
def F__law_fee : OpB := callF false 4 b__law_fee
def b__law_level_rule : SX := (sSeq (sPar 3 4 (aCons (cTup (aCons (cTup (aCons (cK (.int 0)) (aCons (cCall 2 F__law_draw (aCons (cVar 0) (aCons (cCall 2 F__law_of (aCons (cVar 0) (aCons (cTup (aCons (cK (.int 1)) (aCons (cK (.int 1)) (aCons (cK (.int 20)) (aCons (cBin oAddA (cBin oPow (cK (.int 10)) (cK (.int 6))) (cK (.int 1))) aNil))))) aNil))) aNil))) (aCons (cCall 2 F__law_draw (aCons (cVar 0) (aCons (cK (.int 1001)) aNil))) aNil)))) aNil)) (aCons (cK (.int 0)) aNil)))
    (sSeq (sFor (cRange1 (aCons (cBin oSub (cVar 1) (cK (.int 1))) aNil)) (tName 5) (sSeq (sSet 4 (cBin oAddA (cBin oAddA (cVar 4) (cK (.int 1))) (cCall 2 F__law_draw (aCons (cVar 0) (aCons (cVar 2) aNil)))))
    (sIf (cTest (cBin oLe (cVar 4) (cBin oPow (cK (.int 10)) (cK (.int 6))))) (sSeq (sSet 6 (cBin oAddA (cK (.int 1)) (cCall 2 F__law_fee (aCons (cVar 3) (aCons (cBin oSub (cVar 4) (cK (.int 1))) aNil)))))
    (sSeq (sSet 7 (cBlt bMin2 (aCons (cCall 2 F__law_of (aCons (cVar 0) (aCons (cTup (aCons (cK (.int 0)) (aCons (cK (.int 1000)) (aCons (cBin oIx (cBin oIx (cVar 3) (cUn oNeg (cK (.int 1)))) (cK (.int 2))) (aCons (cCall 2 F__law_draw (aCons (cVar 0) (aCons (cK (.int 1001)) aNil))) aNil))))) aNil))) (aCons (cBin oDiv (cBin oMul (cVar 6) (cK (.int 1000))) (cVar 4)) aNil))))
    (sSeq (sSet 6 (cBlt bMin2 (aCons (cBin oSub (cVar 6) (cBin oDiv (cBin oAddA (cBin oMul (cVar 7) (cVar 4)) (cK (.int 999))) (cK (.int 1000)))) (aCons (cBin oPow (cK (.int 10)) (cK (.int 6))) aNil))))
    (sSet 3 (cBin oAddA (cVar 3) (cTup (aCons (cTup (aCons (cVar 4) (aCons (cCall 2 F__law_of (aCons (cVar 0) (aCons (cTup (aCons (cVar 6) (aCons (cVar 6) (aCons (cK (.int 0)) (aCons (cCall 2 F__law_draw (aCons (cVar 0) (aCons (cBin oAddA (cVar 6) (cK (.int 1))) aNil))) aNil))))) aNil))) (aCons (cVar 7) aNil)))) aNil))))))) sNil)))
    (sRet (cVar 3))))
def F__law_level_rule : OpB := callF false 8 b__law_level_rule
def b__law_rule : SX := (sSeq (sIf (cTest (cBin oEqA (cCall 2 F__law_draw (aCons (cVar 0) (aCons (cK (.int 2)) aNil))) (cK (.int 0)))) (sRet (cCall 3 F__law_level_rule (aCons (cVar 0) (aCons (cBin oAddA (cK (.int 1)) (cCall 2 F__law_draw (aCons (cVar 0) (aCons (cK (.int 6)) aNil)))) (aCons (cCall 2 F__law_of (aCons (cVar 0) (aCons (cTup (aCons (cK (.int 3)) (aCons (cK (.int 50)) (aCons (cBin oPow (cK (.int 10)) (cK (.int 5))) aNil)))) aNil))) aNil))))) sNil)
    (sSeq (sSet 1 (cBlt bSortedA (aCons (cComp (cRange1 (aCons (cCall 2 F__law_draw (aCons (cVar 0) (aCons (cK (.int 6)) aNil))) aNil)) [2] (tName 2) bYes (cBin oAddA (cK (.int 1)) (cCall 2 F__law_draw (aCons (cVar 0) (aCons (cCall 2 F__law_of (aCons (cVar 0) (aCons (cTup (aCons (cK (.int 9)) (aCons (cK (.int 300)) (aCons (cBin oPow (cK (.int 10)) (cK (.int 6))) aNil)))) aNil))) aNil))))) aNil)))
    (sSeq (sSet 3 (cAlloc (cLst (aCons (cTup (aCons (cK (.int 0)) (aCons (cCall 2 F__law_draw (aCons (cVar 0) (aCons (cCall 2 F__law_of (aCons (cVar 0) (aCons (cTup (aCons (cK (.int 1)) (aCons (cK (.int 50)) (aCons (cBin oAddA (cBin oPow (cK (.int 10)) (cK (.int 6))) (cK (.int 1))) aNil)))) aNil))) aNil))) (aCons (cCall 2 F__law_draw (aCons (cVar 0) (aCons (cK (.int 1001)) aNil))) aNil)))) aNil))))
    (sSeq (sFor (cEnumA (aCons (cVar 1) aNil)) (tTup 2 (tsCons (tName 4) (tsCons (tName 5) tsNil))) (sIf (bOr (cTest (cBin oEqA (cVar 4) (cK (.int 0)))) (cTest (cBin oGt (cVar 5) (cBin oIx (cVar 1) (cBin oSub (cVar 4) (cK (.int 1))))))) (sExpr (cMt mAppend (cVar 3) (aCons (cTup (aCons (cVar 5) (aCons (cCall 2 F__law_draw (aCons (cVar 0) (aCons (cCall 2 F__law_of (aCons (cVar 0) (aCons (cTup (aCons (cK (.int 1)) (aCons (cK (.int 50)) (aCons (cBin oAddA (cBin oPow (cK (.int 10)) (cK (.int 6))) (cK (.int 1))) aNil)))) aNil))) aNil))) (aCons (cCall 2 F__law_draw (aCons (cVar 0) (aCons (cK (.int 1001)) aNil))) aNil)))) aNil))) sNil))
    (sRet (cBlt bTuple (aCons (cVar 3) aNil)))))))
def F__law_rule : OpB := callF false 6 b__law_rule
def b__law_none : SX := (sSeq (sSet 2 (cAlloc (cLst (aCons (cK .non) (aCons (cTup aNil) (aCons (cK (.str "rule")) (aCons (cK (.int 0)) (aCons (cBlt bList (aCons (cVar 1) aNil)) (aCons (cBin oIx (cVar 1) (cK (.int 0))) (aCons (cBin oAddA (cVar 1) (cSliceA (cVar 1) cNo (cPart (cK (.int 1))))) (aCons (cTup (aCons (cTup (aCons (cK (.int 1)) (aCons (cK (.int 0)) (aCons (cK (.int 0)) aNil)))) aNil)) (aCons (cTup (aCons (cTup (aCons (cK (.int 0)) (aCons (cK (.int 0)) (aCons (cK (.int 1001)) aNil)))) aNil)) (aCons (cTup (aCons (cTup (aCons (cK (.int 0)) (aCons (cUn oNeg (cK (.int 1))) (aCons (cK (.int 0)) aNil)))) aNil)) aNil)))))))))))))
    (sSeq (sSet 2 (cAlloc (cBin oCat (cVar 2) (cLst (aCons (cTup (aCons (cTup (aCons (cK (.int 0)) (aCons (cK (.int 0)) (aCons (cK (.int 0)) aNil)))) (aCons (cTup (aCons (cK (.int 5)) (aCons (cK (.int 0)) (aCons (cK (.int 0)) aNil)))) (aCons (cTup (aCons (cK (.int 5)) (aCons (cK (.int 0)) (aCons (cK (.int 0)) aNil)))) aNil)))) (aCons (cTup (aCons (cTup (aCons (cK (.int 0)) (aCons (cBin oAddA (cBin oPow (cK (.int 10)) (cK (.int 6))) (cK (.int 1))) (aCons (cK (.int 0)) aNil)))) aNil)) (aCons (cTup (aCons (cTup (aCons (cK (.bl true)) (aCons (cK (.int 0)) (aCons (cK (.int 0)) aNil)))) aNil)) (aCons (cTup (aCons (cTup (aCons (cK (.int 0)) (aCons (cK (.int 0)) aNil))) aNil)) aNil))))))))
    (sSeq (sExpr (cMt mAppend (cVar 2) (aCons (cTup (aCons (cTup (aCons (cK (.int 0)) (aCons (cK (.int 0)) (aCons (cK .non) aNil)))) aNil)) aNil)))
    (sRet (cCall 2 F__law_of (aCons (cVar 0) (aCons (cBin oCat (cVar 2) (cLst (aCons (cTup (aCons (cTup (aCons (cK (.int 0)) (aCons (cK (.int 0)) (aCons (cK (.int 0)) aNil)))) (aCons (cTup (aCons (cBin oAddA (cBin oPow (cK (.int 10)) (cK (.int 6))) (cK (.int 1))) (aCons (cK (.int 0)) (aCons (cK (.int 0)) aNil)))) aNil))) (aCons (cTup (aCons (cTup (aCons (cK (.int 0)) (aCons (cK (.int 0)) (aCons (cK (.int 0)) aNil)))) (aCons (cTup (aCons (cK (.int 9)) (aCons (cK (.int 0)) (aCons (cK (.int 0)) aNil)))) (aCons (cTup (aCons (cK (.int 8)) (aCons (cK (.int 0)) (aCons (cK (.int 0)) aNil)))) aNil)))) (aCons (cTup (aCons (cVar 1) aNil)) aNil))))) aNil)))))))
def F__law_none : OpB := callF false 3 b__law_none
def b_is_tuple_of : SX := (sRet (cAnd (cIsi .tuple (cVar 0)) (cBin oEqA (cBlt bLen (aCons (cVar 0) aNil)) (cVar 1))))
def F_is_tuple_of : OpB := callF false 2 b_is_tuple_of
def b_is_whole : SX := (sRet (cAnd (cIsi .int (cVar 0)) (cNot (cIsi .bool (cVar 0)))))
def F_is_whole : OpB := callF false 1 b_is_whole
def b_is_number : SX := (sSeq (sIf (bOr (bNot (cTest (cCall 1 F_is_whole (aCons (cVar 0) aNil)))) (bAnd (cTest (cBin oNotN (cVar 1) (cK .non))) (cTest (cBin oLtA (cVar 0) (cVar 1))))) (sRet (cK (.bl false))) sNil)
    (sRet (cOr (cBin oIsN (cVar 2) (cK .non)) (cBin oLe (cVar 0) (cVar 2)))))
def F_is_number : OpB := callF false 3 b_is_number
def b_is_step : SX := (sSeq (sIf (bOr (bNot (cTest (cCall 2 F_is_tuple_of (aCons (cVar 0) (aCons (cK (.int 3)) aNil))))) (bNot (cTest (cCall 3 F_is_number (aCons (cBin oIx (cVar 0) (cK (.int 2))) (aCons (cK (.int 0)) (aCons (cK (.int 1000)) aNil))))))) (sRet (cK (.bl false))) sNil)
    (sRet (cAnd (cCall 3 F_is_number (aCons (cBin oIx (cVar 0) (cK (.int 0))) (aCons (cK (.int 0)) (aCons (cK (.int 1000000)) aNil)))) (cCall 3 F_is_number (aCons (cBin oIx (cVar 0) (cK (.int 1))) (aCons (cK (.int 0)) (aCons (cK (.int 1000000)) aNil)))))))
def F_is_step : OpB := callF false 1 b_is_step
def b_is_ascending : SX := (sRet (cBlt bAll (aCons (cComp (cZip (aCons (cVar 0) (aCons (cSliceA (cVar 0) (cPart (cK (.int 1))) cNo) aNil))) [1, 2] (tTup 2 (tsCons (tName 1) (tsCons (tName 2) tsNil))) bYes (cBin oLtA (cVar 1) (cVar 2))) aNil)))
def F_is_ascending : OpB := callF false 3 b_is_ascending
def b_is_rule : SX := (sSeq (sIf (bOr (bNot (cTest (cIsi .tuple (cVar 0)))) (bOr (bNot (cTest (cChain oLe oLe (cK (.int 1)) (cBlt bLen (aCons (cVar 0) aNil)) (cK (.int 6))))) (bNot (cTest (cBlt bAll (aCons (cComp (cSeqA (cVar 0)) [1] (tName 1) bYes (cCall 1 F_is_step (aCons (cVar 1) aNil))) aNil)))))) (sRet (cK (.bl false))) sNil)
    (sRet (cAnd (cBin oEqA (cBin oIx (cBin oIx (cVar 0) (cK (.int 0))) (cK (.int 0))) (cK (.int 0))) (cCall 1 F_is_ascending (aCons (cComp (cSeqA (cVar 0)) [1] (tName 1) bYes (cBin oIx (cVar 1) (cK (.int 0)))) aNil)))))
def F_is_rule : OpB := callF false 2 b_is_rule
def b_check_rule : SX := (sIf (bNot (cTest (cCall 1 F_is_rule (aCons (cVar 0) aNil)))) (sRaise "InvalidRule" "given" (aCons (cVar 0) aNil)) sNil)
def F_check_rule : OpB := callF false 1 b_check_rule
def b_check_number : SX := (sIf (bNot (cTest (cCall 3 F_is_number (aCons (cVar 0) (aCons (cVar 1) (aCons (cVar 2) aNil)))))) (sRaise "InvalidNumber" "given" (aCons (cVar 0) aNil)) sNil)
def F_check_number : OpB := callF false 3 b_check_number
def b_step_at : SX := (sRet (cBin oIx (cComp (cSeqA (cVar 0)) [2] (tName 2) (cTest (cBin oLe (cBin oIx (cVar 2) (cK (.int 0))) (cVar 1))) (cVar 2)) (cUn oNeg (cK (.int 1)))))
def F_step_at : OpB := callF false 3 b_step_at
def b_upper : SX := (sRet (cUn oNeg (cBin oDiv (cUn oNeg (cVar 0)) (cVar 1))))
def F_upper : OpB := callF false 2 b_upper
def b_fee_of : SX := (sSeq (sAsg (tTup 3 (tsCons (tName 2) (tsCons (tName 3) (tsCons (tName 4) tsNil)))) (cCall 2 F_step_at (aCons (cVar 0) (aCons (cVar 1) aNil))))
    (sRet (cBin oAddA (cVar 3) (cCall 2 F_upper (aCons (cBin oMul (cVar 4) (cVar 1)) (aCons (cK (.int 1000)) aNil))))))
def F_fee_of : OpB := callF false 5 b_fee_of
def b_fee : SX := (sSeq (sExpr (cCall 1 F_check_rule (aCons (cVar 0) aNil)))
    (sSeq (sExpr (cCall 3 F_check_number (aCons (cVar 1) (aCons (cK (.int 0)) (aCons (cK (.int 1000000000)) aNil)))))
    (sRet (cCall 2 F_fee_of (aCons (cVar 0) (aCons (cVar 1) aNil))))))
def F_fee : OpB := callF false 2 b_fee
def b_net_of : SX := (sRet (cBin oSub (cVar 1) (cCall 2 F_fee_of (aCons (cVar 0) (aCons (cVar 1) aNil)))))
def F_net_of : OpB := callF false 2 b_net_of
def b_net : SX := (sSeq (sExpr (cCall 1 F_check_rule (aCons (cVar 0) aNil)))
    (sSeq (sExpr (cCall 3 F_check_number (aCons (cVar 1) (aCons (cK (.int 0)) (aCons (cK (.int 1000000000)) aNil)))))
    (sRet (cCall 2 F_net_of (aCons (cVar 0) (aCons (cVar 1) aNil))))))
def F_net : OpB := callF false 2 b_net
def b__law_is : SX := (sRet (cBin oEqA (cBlt bRepr (aCons (cVar 0) aNil)) (cBlt bRepr (aCons (cVar 1) aNil))))
def F__law_is : OpB := callF false 2 b__law_is
def b_falls_at : SX := (sSeq (sFor (cSeqA (cSliceA (cVar 0) (cPart (cK (.int 1))) cNo)) (tTup 3 (tsCons (tName 1) (tsCons (tName 2) (tsCons (tName 2) tsNil)))) (sIf (cTest (cBin oLtA (cCall 2 F_net_of (aCons (cVar 0) (aCons (cVar 1) aNil))) (cCall 2 F_net_of (aCons (cVar 0) (aCons (cBin oSub (cVar 1) (cK (.int 1))) aNil))))) (sRet (cBin oSub (cVar 1) (cK (.int 1)))) sNil))
    (sRet (cK .non)))
def F_falls_at : OpB := callF false 3 b_falls_at
def b_is_level : SX := (sSeq (sExpr (cCall 1 F_check_rule (aCons (cVar 0) aNil)))
    (sRet (cBin oIsN (cCall 1 F_falls_at (aCons (cVar 0) aNil)) (cK .non))))
def F_is_level : OpB := callF false 1 b_is_level
def b_falling_total : SX := (sSeq (sExpr (cCall 1 F_check_rule (aCons (cVar 0) aNil)))
    (sRet (cCall 1 F_falls_at (aCons (cVar 0) aNil))))
def F_falling_total : OpB := callF false 1 b_falling_total
def b_parts_at : SX := (sSeq (sSet 2 (cSSI (cComp (cSeqA (cBin oAddA (cVar 0) (cVar 1))) [3] (tName 3) bYes (cBin oIx (cVar 3) (cK (.int 0))))))
    (sSeq (sFor (cEnumA (aCons (cVar 2) aNil)) (tTup 2 (tsCons (tName 4) (tsCons (tName 5) tsNil))) (sSeq (sSet 6 (cIfE (cTest (cBin oEqA (cBin oIx (cCall 2 F_step_at (aCons (cVar 0) (aCons (cVar 5) aNil))) (cK (.int 2))) (cBin oIx (cCall 2 F_step_at (aCons (cVar 1) (aCons (cVar 5) aNil))) (cK (.int 2))))) (cK (.int 1)) (cBin oAddA (cK (.int 1000)) (cK (.int 1)))))
    (sSeq (sSet 7 (cIfE (cTest (cBin oEqA (cBin oAddA (cVar 4) (cK (.int 1))) (cBlt bLen (aCons (cVar 2) aNil)))) (cBin oAddA (cVar 5) (cVar 6)) (cBlt bMin2 (aCons (cBin oAddA (cVar 5) (cVar 6)) (aCons (cBin oIx (cVar 2) (cBin oAddA (cVar 4) (cK (.int 1)))) aNil)))))
    (sFor (cRange2 (aCons (cVar 5) (aCons (cVar 7) aNil))) (tName 8) (sIf (cTest (cBin oNeA (cCall 2 F_net_of (aCons (cVar 0) (aCons (cVar 8) aNil))) (cCall 2 F_net_of (aCons (cVar 1) (aCons (cVar 8) aNil))))) (sRet (cVar 8)) sNil)))))
    (sRet (cK .non))))
def F_parts_at : OpB := callF false 9 b_parts_at
def b_parting_total : SX := (sSeq (sExpr (cCall 1 F_check_rule (aCons (cVar 0) aNil)))
    (sSeq (sExpr (cCall 1 F_check_rule (aCons (cVar 1) aNil)))
    (sRet (cCall 2 F_parts_at (aCons (cVar 0) (aCons (cVar 1) aNil))))))
def F_parting_total : OpB := callF false 2 b_parting_total
def b_net_alike : SX := (sRet (cBin oIsN (cCall 2 F_parting_total (aCons (cVar 0) (aCons (cVar 1) aNil))) (cK .non)))
def F_net_alike : OpB := callF false 2 b_net_alike
def b__law_level : SX := (sRet (cBin oEqA (cComp (cSeqA (cSliceA (cVar 0) (cPart (cK (.int 1))) cNo)) [1] (tName 1) (cTest (cBin oGt (cBin oSub (cCall 2 F__law_fee (aCons (cVar 0) (aCons (cBin oIx (cVar 1) (cK (.int 0))) aNil))) (cCall 2 F__law_fee (aCons (cVar 0) (aCons (cBin oSub (cBin oIx (cVar 1) (cK (.int 0))) (cK (.int 1))) aNil)))) (cK (.int 1)))) (cK (.int 1))) (cLst aNil)))
def F__law_level : OpB := callF false 2 b__law_level
def b_is_level_rule : SX := (sRet (cAnd (cCall 1 F_is_rule (aCons (cVar 0) aNil)) (cBin oIsN (cCall 1 F_falls_at (aCons (cVar 0) aNil)) (cK .non))))
def F_is_level_rule : OpB := callF false 1 b_is_level_rule
def b_least_with_net : SX := (sSeq (sAsg (tTup 3 (tsCons (tName 2) (tsCons (tName 3) (tsCons (tName 4) tsNil)))) (cBin oIx (cVar 0) (cUn oNeg (cK (.int 1)))))
    (sSeq (sPar 5 6 (aCons (cK (.int 0)) (aCons (cBin oAddA (cVar 2) (cBin oMul (cK (.int 1000)) (cBin oAddA (cBin oAddA (cVar 1) (cVar 3)) (cK (.int 2))))) aNil)))
    (sSeq (sIf (cTest (cBin oLtA (cCall 2 F_net_of (aCons (cVar 0) (aCons (cVar 6) aNil))) (cVar 1))) (sRet (cK .non)) sNil)
    (sSeq (sWhile wfuel (cTest (cBin oLtA (cVar 5) (cVar 6))) (sSeq (sSet 7 (cBin oDiv (cBin oAddA (cVar 5) (cVar 6)) (cK (.int 2))))
    (sIf (cTest (cBin oGe (cCall 2 F_net_of (aCons (cVar 0) (aCons (cVar 7) aNil))) (cVar 1))) (sSet 6 (cVar 7)) (sSet 5 (cBin oAddA (cVar 7) (cK (.int 1)))))))
    (sRet (cVar 5))))))
def F_least_with_net : OpB := callF false 8 b_least_with_net
def b_least_total : SX := (sSeq (sIf (bNot (cTest (cCall 1 F_is_level_rule (aCons (cVar 0) aNil)))) (sRaise "InvalidRule" "given" (aCons (cVar 0) aNil)) sNil)
    (sSeq (sExpr (cCall 3 F_check_number (aCons (cVar 1) (aCons (cK (.int 1)) (aCons (cK (.int 1000000)) aNil)))))
    (sRet (cCall 2 F_least_with_net (aCons (cVar 0) (aCons (cVar 1) aNil))))))
def F_least_total : OpB := callF false 2 b_least_total
def b__law_right : SX := (sSeq (sFor (cRange1 (aCons (cK (.int 8)) aNil)) (tName 1) (sSeq (sSet 2 (cCall 1 F__law_rule (aCons (cVar 0) aNil)))
    (sSeq (sAsg (tTup 2 (tsCons (tName 3) (tsCons (tName 4) tsNil))) (cCall 2 F__law_of (aCons (cVar 0) (aCons (cTup (aCons (cTup (aCons (cVar 2) (aCons (cK (.bl true)) aNil))) (aCons (cTup (aCons (cVar 2) (aCons (cK (.bl true)) aNil))) (aCons (cTup (aCons (cCall 2 F__law_none (aCons (cVar 0) (aCons (cVar 2) aNil))) (aCons (cK (.bl false)) aNil))) aNil)))) aNil))))
    (sSeq (sAsg (tTup 2 (tsCons (tName 5) (tsCons (tName 6) tsNil))) (cCall 2 F__law_of (aCons (cVar 0) (aCons (cTup (aCons (cTup (aCons (cVar 2) (aCons (cK (.bl true)) aNil))) (aCons (cTup (aCons (cCall 2 F__law_none (aCons (cVar 0) (aCons (cVar 2) aNil))) (aCons (cK (.bl false)) aNil))) aNil))) aNil))))
    (sSeq (sAsg (tTup 2 (tsCons (tName 7) (tsCons (tName 8) tsNil))) (cCall 2 F__law_of (aCons (cVar 0) (aCons (cTup (aCons (cTup (aCons (cK (.int 0)) (aCons (cK (.bl true)) aNil))) (aCons (cTup (aCons (cBin oPow (cK (.int 10)) (cK (.int 9))) (aCons (cK (.bl true)) aNil))) (aCons (cTup (aCons (cUn oNeg (cK (.int 1))) (aCons (cK (.bl false)) aNil))) (aCons (cTup (aCons (cBin oAddA (cBin oPow (cK (.int 10)) (cK (.int 9))) (cK (.int 1))) (aCons (cK (.bl false)) aNil))) (aCons (cTup (aCons (cK (.bl true)) (aCons (cK (.bl false)) aNil))) (aCons (cTup (aCons (cK .non) (aCons (cK (.bl false)) aNil))) (aCons (cTup (aCons (cK (.str "1")) (aCons (cK (.bl false)) aNil))) (aCons (cTup (aCons (cBin oPow (cK (.int 10)) (cK (.int 30))) (aCons (cK (.bl false)) aNil))) aNil))))))))) aNil))))
    (sSeq (sSet 9 (cIfE (cTest (cVar 4)) (cIfE (cTest (cVar 8)) (cLst (aCons (cK (.str "told")) aNil)) (cLst (aCons (cK (.str "number")) (aCons (cVar 7) aNil)))) (cLst (aCons (cK (.str "rule")) (aCons (cVar 3) aNil)))))
    (sSeq (sSet 10 (cAlloc (cLst (aCons (cTryAct (cCall 2 F_fee (aCons (cVar 3) (aCons (cVar 7) aNil))) (sutL [("InvalidRule", ["rule"], "given"), ("InvalidNumber", ["number"], "given")]) (fun S => some (.ok (.lst [.str "told"]), S))) aNil))))
    (sSeq (sExpr (cMt mAppend (cVar 10) (aCons (cTryAct (cCall 2 F_net (aCons (cVar 3) (aCons (cVar 7) aNil))) (sutL [("InvalidRule", ["rule"], "given"), ("InvalidNumber", ["number"], "given")]) (fun S => some (.ok (.lst [.str "told"]), S))) aNil)))
    (sSeq (sExpr (cMt mAppend (cVar 10) (aCons (cTryAct (cCallK 0 2 kn0_g F_fee aNil (aCons (cVar 7) (aCons (cVar 3) aNil))) (sutL [("InvalidRule", ["rule"], "given"), ("InvalidNumber", ["number"], "given")]) (fun S => some (.ok (.lst [.str "told"]), S))) aNil)))
    (sSeq (sExpr (cMt mAppend (cVar 10) (aCons (cTryAct (cCallK 0 2 kn1_g F_net aNil (aCons (cVar 7) (aCons (cVar 3) aNil))) (sutL [("InvalidRule", ["rule"], "given"), ("InvalidNumber", ["number"], "given")]) (fun S => some (.ok (.lst [.str "told"]), S))) aNil)))
    (sSeq (sIf (bNot (cTest (cCall 2 F__law_is (aCons (cVar 10) (aCons (cBin oRepL (cLst (aCons (cVar 9) aNil)) (cK (.int 4))) aNil))))) (sRet (cK (.bl false))) sNil)
    (sSeq (sSet 9 (cIfE (cTest (cVar 4)) (cLst (aCons (cK (.str "told")) aNil)) (cLst (aCons (cK (.str "rule")) (aCons (cVar 3) aNil)))))
    (sSeq (sSet 10 (cAlloc (cLst (aCons (cTryAct (cCall 1 F_is_level (aCons (cVar 3) aNil)) (sutL [("InvalidRule", ["rule"], "given"), ("InvalidNumber", ["number"], "given")]) (fun S => some (.ok (.lst [.str "told"]), S))) aNil))))
    (sSeq (sExpr (cMt mAppend (cVar 10) (aCons (cTryAct (cCallK 0 1 kn2_g F_falling_total aNil (aCons (cVar 3) aNil)) (sutL [("InvalidRule", ["rule"], "given"), ("InvalidNumber", ["number"], "given")]) (fun S => some (.ok (.lst [.str "told"]), S))) aNil)))
    (sSeq (sIf (bNot (cTest (cCall 2 F__law_is (aCons (cVar 10) (aCons (cBin oRepL (cLst (aCons (cVar 9) aNil)) (cK (.int 2))) aNil))))) (sRet (cK (.bl false))) sNil)
    (sSeq (sSet 9 (cIfE (bAnd (cTest (cVar 4)) (bNot (cTest (cVar 6)))) (cLst (aCons (cK (.str "rule")) (aCons (cVar 5) aNil))) (cVar 9)))
    (sSeq (sSet 10 (cAlloc (cLst (aCons (cTryAct (cCall 2 F_net_alike (aCons (cVar 3) (aCons (cVar 5) aNil))) (sutL [("InvalidRule", ["rule"], "given"), ("InvalidNumber", ["number"], "given")]) (fun S => some (.ok (.lst [.str "told"]), S))) aNil))))
    (sSeq (sExpr (cMt mAppend (cVar 10) (aCons (cTryAct (cCallK 0 2 kn3_g F_parting_total aNil (aCons (cVar 5) (aCons (cVar 3) aNil))) (sutL [("InvalidRule", ["rule"], "given"), ("InvalidNumber", ["number"], "given")]) (fun S => some (.ok (.lst [.str "told"]), S))) aNil)))
    (sSeq (sIf (bNot (cTest (cCall 2 F__law_is (aCons (cVar 10) (aCons (cBin oRepL (cLst (aCons (cVar 9) aNil)) (cK (.int 2))) aNil))))) (sRet (cK (.bl false))) sNil)
    (sSeq (sAsg (tTup 2 (tsCons (tName 11) (tsCons (tName 12) tsNil))) (cCall 2 F__law_of (aCons (cVar 0) (aCons (cTup (aCons (cTup (aCons (cK (.int 1)) (aCons (cK (.bl true)) aNil))) (aCons (cTup (aCons (cBin oPow (cK (.int 10)) (cK (.int 6))) (aCons (cK (.bl true)) aNil))) (aCons (cTup (aCons (cK (.int 0)) (aCons (cK (.bl false)) aNil))) (aCons (cTup (aCons (cBin oAddA (cBin oPow (cK (.int 10)) (cK (.int 6))) (cK (.int 1))) (aCons (cK (.bl false)) aNil))) (aCons (cTup (aCons (cK .non) (aCons (cK (.bl false)) aNil))) aNil)))))) aNil))))
    (sSeq (sSet 9 (cIfE (cTest (cVar 12)) (cLst (aCons (cK (.str "told")) aNil)) (cLst (aCons (cK (.str "number")) (aCons (cVar 11) aNil)))))
    (sSeq (sSet 9 (cIfE (bAnd (cTest (cVar 4)) (cTest (cCall 1 F__law_level (aCons (cVar 2) aNil)))) (cVar 9) (cLst (aCons (cK (.str "rule")) (aCons (cVar 3) aNil)))))
    (sSeq (sSet 10 (cAlloc (cLst (aCons (cTryAct (cCall 2 F_least_total (aCons (cVar 3) (aCons (cVar 11) aNil))) (sutL [("InvalidRule", ["rule"], "given"), ("InvalidNumber", ["number"], "given")]) (fun S => some (.ok (.lst [.str "told"]), S))) aNil))))
    (sSeq (sExpr (cMt mAppend (cVar 10) (aCons (cTryAct (cCallK 0 2 kn4_g F_least_total aNil (aCons (cVar 11) (aCons (cVar 3) aNil))) (sutL [("InvalidRule", ["rule"], "given"), ("InvalidNumber", ["number"], "given")]) (fun S => some (.ok (.lst [.str "told"]), S))) aNil)))
    (sIf (bNot (cTest (cCall 2 F__law_is (aCons (cVar 10) (aCons (cBin oRepL (cLst (aCons (cVar 9) aNil)) (cK (.int 2))) aNil))))) (sRet (cK (.bl false))) sNil)))))))))))))))))))))))))
    (sRet (cK (.bl true))))
def F__law_right : OpB := callF false 13 b__law_right
def b__law_well : SX := (sSeq (sSet 2 (cBin oAddA (cK (.int 92885)) (cBin oMul (cK (.int 5231)) (cVar 1))))
    (sSeq (sFor (cSeqA (cSliceL (cVar 0) cNo (cPart (cK (.int 9))))) (tName 3) (sSet 2 (cBin oMod (cBlt bInt (aCons (cBin oAddA (cBin oAddA (cBin oMul (cVar 2) (cK (.int 47521))) (cBin oMod (cBlt bInt (aCons (cVar 3) aNil)) (cK (.int 2147483549)))) (cK (.int 41))) aNil)) (cK (.int 2147483629)))))
    (sSeq (sSet 4 (cIfE (cTest (cBin oLtA (cVar 1) (cBlt bLen (aCons (cVar 0) aNil)))) (cBlt bInt (aCons (cBin oIx (cVar 0) (cVar 1)) aNil)) (cK (.int 0))))
    (sSeq (sSet 2 (cBin oMod (cBlt bInt (aCons (cBin oAddA (cBin oAddA (cBin oMul (cVar 2) (cK (.int 61))) (cBin oMul (cBin oMod (cBlt bInt (aCons (cVar 4) aNil)) (cK (.int 2147483549))) (cK (.int 16007)))) (cK (.int 17))) aNil)) (cK (.int 2147483629))))
    (sRet (cLst (aCons (cIfE (bOr (cTest (cBin oLtA (cVar 4) (cK (.int 0)))) (cTest (cBin oGe (cVar 4) (cBin oPow (cK (.int 10)) (cK (.int 15)))))) (cBlt bAbs (aCons (cVar 4) aNil)) (cK (.int 0))) (aCons (cVar 2) (aCons (cK (.int 0)) aNil)))))))))
def F__law_well : OpB := callF true 5 b__law_well
def b_law : SX := (sRet (cBlt bAll (aCons (cComp (cRange1 (aCons (cBlt bMax2 (aCons (cK (.int 1)) (aCons (cBlt bMin2 (aCons (cBlt bLen (aCons (cVar 0) aNil)) (aCons (cK (.int 3)) aNil))) aNil))) aNil)) [1] (tName 1) bYes (cScope (cCall 1 F__law_right (aCons (cAlloc (cCall 2 F__law_well (aCons (cVar 0) (aCons (cVar 1) aNil)))) aNil)))) aNil)))
def F_law : OpB := callF false 2 b_law
end
/-! ### what the top has written -/
structure Facts (P : Program) (K : PySem.W.Frag) (mg : Str → Option Value) : Prop where
  n_abs : mg "abs" = none
  n_all : mg "all" = none
  n_bool : mg "bool" = none
  n_divmod : mg "divmod" = none
  n_enumerate : mg "enumerate" = none
  n_int : mg "int" = none
  n_isinstance : mg "isinstance" = none
  n_len : mg "len" = none
  n_list : mg "list" = none
  n_max : mg "max" = none
  n_min : mg "min" = none
  n_range : mg "range" = none
  n_repr : mg "repr" = none
  n_set : mg "set" = none
  n_sorted : mg "sorted" = none
  n_tuple : mg "tuple" = none
  n_zip : mg "zip" = none
  k_MOST_BEGIN : GlobK K mg "MOST_BEGIN" (.int 1000000)
  k_MOST_FLOOR : GlobK K mg "MOST_FLOOR" (.int 1000000)
  k_MOST_RATE : GlobK K mg "MOST_RATE" (.int 1000)
  k_MOST_STEPS : GlobK K mg "MOST_STEPS" (.int 6)
  k_MOST_TOTAL : GlobK K mg "MOST_TOTAL" (.int 1000000000)
  k_WHOLE : GlobK K mg "WHOLE" (.int 1000)
  xr_InvalidNumber_given : ∃ C fI, StX.XinK P K C "given" fI ∧ mg "InvalidNumber" = some (.ref C)
  xr_InvalidRule_given : ∃ C fI, StX.XinK P K C "given" fI ∧ mg "InvalidRule" = some (.ref C)
  cl_InvalidNumber_given : ClF K mg "InvalidNumber" "given"
  cl_InvalidRule_given : ClF K mg "InvalidRule" "given"
  gmx__law_refused : ∀ r ∈ (["InvalidRule", "InvalidNumber"] : List Str), mg r = some (.ref (He.ga K r))
  exm__law_refused : ∀ r ∈ (["InvalidRule", "InvalidNumber"] : List Str), ∀ c ∈ (["InvalidRule", "InvalidNumber"] : List Str), PySem.W.exmOne K (.ref (He.ga K r)) (.ref (He.ga K c)) = some (decide (r = c))
  d_is_whole : ∃ f fd, FunD K "is_whole" "is_whole" (defArgs s_is_whole) (defBody s_is_whole) (defScope s_is_whole) [] [] f fd ∧ mg "is_whole" = some (.ref f)
  d_is_number : ∃ f fd, FunD K "is_number" "is_number" (defArgs s_is_number) (defBody s_is_number) (defScope s_is_number) [] [] f fd ∧ mg "is_number" = some (.ref f)
  d_check_number : ∃ f fd, FunD K "check_number" "check_number" (defArgs s_check_number) (defBody s_check_number) (defScope s_check_number) [] [] f fd ∧ mg "check_number" = some (.ref f)
  d_upper : ∃ f fd, FunD K "upper" "upper" (defArgs s_upper) (defBody s_upper) (defScope s_upper) [] [] f fd ∧ mg "upper" = some (.ref f)
  d_is_tuple_of : ∃ f fd, FunD K "is_tuple_of" "is_tuple_of" (defArgs s_is_tuple_of) (defBody s_is_tuple_of) (defScope s_is_tuple_of) [] [] f fd ∧ mg "is_tuple_of" = some (.ref f)
  d_is_ascending : ∃ f fd, FunD K "is_ascending" "is_ascending" (defArgs s_is_ascending) (defBody s_is_ascending) (defScope s_is_ascending) [] [] f fd ∧ mg "is_ascending" = some (.ref f)
  d_step_at : ∃ f fd, FunD K "step_at" "step_at" (defArgs s_step_at) (defBody s_step_at) (defScope s_step_at) [] [] f fd ∧ mg "step_at" = some (.ref f)
  d_fee_of : ∃ f fd, FunD K "fee_of" "fee_of" (defArgs s_fee_of) (defBody s_fee_of) (defScope s_fee_of) [] [] f fd ∧ mg "fee_of" = some (.ref f)
  d_net_of : ∃ f fd, FunD K "net_of" "net_of" (defArgs s_net_of) (defBody s_net_of) (defScope s_net_of) [] [] f fd ∧ mg "net_of" = some (.ref f)
  d_falls_at : ∃ f fd, FunD K "falls_at" "falls_at" (defArgs s_falls_at) (defBody s_falls_at) (defScope s_falls_at) [] [] f fd ∧ mg "falls_at" = some (.ref f)
  d_parts_at : ∃ f fd, FunD K "parts_at" "parts_at" (defArgs s_parts_at) (defBody s_parts_at) (defScope s_parts_at) [] [] f fd ∧ mg "parts_at" = some (.ref f)
  d_least_with_net : ∃ f fd, FunD K "least_with_net" "least_with_net" (defArgs s_least_with_net) (defBody s_least_with_net) (defScope s_least_with_net) [] [] f fd ∧ mg "least_with_net" = some (.ref f)
  d_is_step : ∃ f fd, FunD K "is_step" "is_step" (defArgs s_is_step) (defBody s_is_step) (defScope s_is_step) [] [] f fd ∧ mg "is_step" = some (.ref f)
  d_is_rule : ∃ f fd, FunD K "is_rule" "is_rule" (defArgs s_is_rule) (defBody s_is_rule) (defScope s_is_rule) [] [] f fd ∧ mg "is_rule" = some (.ref f)
  d_is_level_rule : ∃ f fd, FunD K "is_level_rule" "is_level_rule" (defArgs s_is_level_rule) (defBody s_is_level_rule) (defScope s_is_level_rule) [] [] f fd ∧ mg "is_level_rule" = some (.ref f)
  d_check_rule : ∃ f fd, FunD K "check_rule" "check_rule" (defArgs s_check_rule) (defBody s_check_rule) (defScope s_check_rule) [] [] f fd ∧ mg "check_rule" = some (.ref f)
  d_fee : ∃ f fd, FunD K "fee" "fee" (defArgs s_fee) (defBody s_fee) (defScope s_fee) [] [] f fd ∧ mg "fee" = some (.ref f)
  d_net : ∃ f fd, FunD K "net" "net" (defArgs s_net) (defBody s_net) (defScope s_net) [] [] f fd ∧ mg "net" = some (.ref f)
  d_is_level : ∃ f fd, FunD K "is_level" "is_level" (defArgs s_is_level) (defBody s_is_level) (defScope s_is_level) [] [] f fd ∧ mg "is_level" = some (.ref f)
  d_falling_total : ∃ f fd, FunD K "falling_total" "falling_total" (defArgs s_falling_total) (defBody s_falling_total) (defScope s_falling_total) [] [] f fd ∧ mg "falling_total" = some (.ref f)
  d_net_alike : ∃ f fd, FunD K "net_alike" "net_alike" (defArgs s_net_alike) (defBody s_net_alike) (defScope s_net_alike) [] [] f fd ∧ mg "net_alike" = some (.ref f)
  d_parting_total : ∃ f fd, FunD K "parting_total" "parting_total" (defArgs s_parting_total) (defBody s_parting_total) (defScope s_parting_total) [] [] f fd ∧ mg "parting_total" = some (.ref f)
  d_least_total : ∃ f fd, FunD K "least_total" "least_total" (defArgs s_least_total) (defBody s_least_total) (defScope s_least_total) [] [] f fd ∧ mg "least_total" = some (.ref f)
  d__law_well : ∃ f fd, FunD K "_law_well" "_law_well" (defArgs s__law_well) (defBody s__law_well) (defScope s__law_well) [] [] f fd ∧ mg "_law_well" = some (.ref f)
  d__law_draw : ∃ f fd, FunD K "_law_draw" "_law_draw" (defArgs s__law_draw) (defBody s__law_draw) (defScope s__law_draw) [] [] f fd ∧ mg "_law_draw" = some (.ref f)
  d__law_of : ∃ f fd, FunD K "_law_of" "_law_of" (defArgs s__law_of) (defBody s__law_of) (defScope s__law_of) [] [] f fd ∧ mg "_law_of" = some (.ref f)
  d__law_is : ∃ f fd, FunD K "_law_is" "_law_is" (defArgs s__law_is) (defBody s__law_is) (defScope s__law_is) [] [] f fd ∧ mg "_law_is" = some (.ref f)
  d__law_fee : ∃ f fd, FunD K "_law_fee" "_law_fee" (defArgs s__law_fee) (defBody s__law_fee) (defScope s__law_fee) [] [] f fd ∧ mg "_law_fee" = some (.ref f)
  d__law_level_rule : ∃ f fd, FunD K "_law_level_rule" "_law_level_rule" (defArgs s__law_level_rule) (defBody s__law_level_rule) (defScope s__law_level_rule) [] [] f fd ∧ mg "_law_level_rule" = some (.ref f)
  d__law_rule : ∃ f fd, FunD K "_law_rule" "_law_rule" (defArgs s__law_rule) (defBody s__law_rule) (defScope s__law_rule) [] [] f fd ∧ mg "_law_rule" = some (.ref f)
  d__law_refused : ∃ f fd, FunD K "_law_refused" "_law_refused" (defArgs s__law_refused) (defBody s__law_refused) (defScope s__law_refused) [] [] f fd ∧ mg "_law_refused" = some (.ref f)
  d__law_none : ∃ f fd, FunD K "_law_none" "_law_none" (defArgs s__law_none) (defBody s__law_none) (defScope s__law_none) [] [] f fd ∧ mg "_law_none" = some (.ref f)
  d__law_level : ∃ f fd, FunD K "_law_level" "_law_level" (defArgs s__law_level) (defBody s__law_level) (defScope s__law_level) [] [] f fd ∧ mg "_law_level" = some (.ref f)
  d__law_right : ∃ f fd, FunD K "_law_right" "_law_right" (defArgs s__law_right) (defBody s__law_right) (defScope s__law_right) [] [] f fd ∧ mg "_law_right" = some (.ref f)
  d_law : ∃ f fd, FunD K "law" "law" (defArgs s_law) (defBody s_law) (defScope s_law) [] [] f fd ∧ mg "law" = some (.ref f)
structure FactsT (K : PySem.W.Frag) (mg : Str → Option Value) (base : Heap) (T : List (Addr × Str)) : Prop where
  t__law_right : ∃ f fd c P, FunD K "_law_right" "_law_right" (defArgs s__law_right) (defBody s__law_right) (defScope s__law_right) [] [] f fd ∧ mg "_law_right" = some (.ref f) ∧ fd.code = .ref c ∧ LamX.TabB base mg c P ∧ (P, ("_law_right.<locals>.<lambda>" : Str)) ∈ T ∧ ∀ p ∈ T, p.1 = P → p.2 = "_law_right.<locals>.<lambda>"
section
variable {P : Program} {w : World} {K : PySem.W.Frag} {mg : Str → Option Value} {base : Heap} {T : List (Addr × Str)}
theorem r__law_draw (Z : Facts P K mg) (Y : FactsT K mg base T) {f : Addr} : ∀ (cdv : Value) (A : Around) (outer : List PySem.Env) (s : Shared) (H : Hp) (E : XK), Room 0 (A.deeper (envOfC "_law_draw" (defScope s__law_draw) s.heap.objs.size f cdv)) → A.guards = some [] →
    RSs T false (cxOf (L2.CX P w) P w K mg base ["well", "limit", "figure", "mixed"] "_law_draw" (defScope s__law_draw) f cdv A outer s H E) (fun cls d _ H' => E cls d H') (defBody s__law_draw) b__law_draw := by
  intro cdv A outer s H E hr hgu
  unfold b__law_draw
  exact (rss_cons (rs_if (rt_cmp op_gt oGt_ok (re_ix (re_var (i := 0)) re_int (fun _ _ => rfl)) re_int (nomark _)) (rss_cons (rs_asg (re_callB call_divmod bDivmod_ok Z.n_divmod (by decide +kernel) (ra_cons (re_ix (re_var (i := 0)) re_int (fun _ _ => rfl)) (ra_cons (re_var (i := 1)) ra_nil))) (rg_tup rfl (rgs_cons (rg_sub (re_var (i := 0)) re_int) (rgs_cons (rg_name (i := 2) sc__law_draw.nd) rgs_nil))))
    (rss_one (rs_ret (re_var (i := 2))))) rss_nil)
    (rss_cons (rs_asg (re_bin op_add4 oAddA_ok (re_ix (re_var (i := 0)) re_int (fun _ _ => rfl)) re_int) (rg_sub (re_var (i := 0)) re_int))
    (rss_cons (rs_set (i := 3) sc__law_draw.nd (re_bin op_modN oMod_ok (re_callTy call_int1 bInt_ok Z.n_int (by decide +kernel) (ra_cons (re_bin op_add4 oAddA_ok (re_bin op_mul oMul_ok (re_ix (re_var (i := 0)) re_int (fun _ _ => rfl)) re_int) (re_bin op_mul oMul_ok re_int (re_ix (re_var (i := 0)) re_int (fun _ _ => rfl)))) ra_nil)) re_int))
    (rss_cons (rs_asg (re_bin op_modN oMod_ok (re_callTy call_int1 bInt_ok Z.n_int (by decide +kernel) (ra_cons (re_bin op_add4 oAddA_ok (re_bin op_mul oMul_ok (re_var (i := 3)) (re_bin op_add4 oAddA_ok (re_bin op_modN oMod_ok (re_callTy call_int1 bInt_ok Z.n_int (by decide +kernel) (ra_cons (re_var (i := 3)) ra_nil)) re_int) re_int)) (re_ix (re_var (i := 0)) re_int (fun _ _ => rfl))) ra_nil)) re_int) (rg_sub (re_var (i := 0)) re_int))
    (rss_one (rs_ret (re_bin op_modN oMod_ok (re_callTy call_int1 bInt_ok Z.n_int (by decide +kernel) (ra_cons (re_bin op_fdivN oDiv_ok (re_ix (re_var (i := 0)) re_int (fun _ _ => rfl)) re_int) ra_nil)) (re_var (i := 1)))))))))
theorem g__law_draw (Z : Facts P K mg) (Y : FactsT K mg base T) : DefG P w K mg base T 1 "_law_draw" (defArgs s__law_draw) (defBody s__law_draw) (defScope s__law_draw) ["well", "limit"] false F__law_draw := by
  obtain ⟨f, fd, a, b⟩ := Z.d__law_draw
  exact ⟨f, fd, a, b, def_g a sc__law_draw (r__law_draw Z Y)⟩
theorem r__law_of (Z : Facts P K mg) (Y : FactsT K mg base T) {f : Addr} : ∀ (cdv : Value) (A : Around) (outer : List PySem.Env) (s : Shared) (H : Hp) (E : XK), Room 1 (A.deeper (envOfC "_law_of" (defScope s__law_of) s.heap.objs.size f cdv)) → A.guards = some [] →
    RSs T false (cxOf (L2.CX P w) P w K mg base ["well", "some"] "_law_of" (defScope s__law_of) f cdv A outer s H E) (fun cls d _ H' => E cls d H') (defBody s__law_of) b__law_of := by
  intro cdv A outer s H E hr hgu
  unfold b__law_of
  exact (rss_one (rs_ret (re_ix (re_var (i := 1)) (re_call (g__law_draw Z Y) pn__law_draw (hr.mono (by decide)) hgu pass_cx (ra_cons (re_var (i := 0)) (ra_cons (re_callB call_len bLen_ok Z.n_len (by decide +kernel) (ra_cons (re_var (i := 1)) ra_nil)) ra_nil))) (fun _ _ => rfl))))
theorem g__law_of (Z : Facts P K mg) (Y : FactsT K mg base T) : DefG P w K mg base T 2 "_law_of" (defArgs s__law_of) (defBody s__law_of) (defScope s__law_of) ["well", "some"] false F__law_of := by
  obtain ⟨f, fd, a, b⟩ := Z.d__law_of
  exact ⟨f, fd, a, b, def_g a sc__law_of (r__law_of Z Y)⟩
theorem r__law_fee (Z : Facts P K mg) (Y : FactsT K mg base T) {f : Addr} : ∀ (cdv : Value) (A : Around) (outer : List PySem.Env) (s : Shared) (H : Hp) (E : XK), Room 0 (A.deeper (envOfC "_law_fee" (defScope s__law_fee) s.heap.objs.size f cdv)) → A.guards = some [] →
    RSs T false (cxOf (L2.CX P w) P w K mg base ["rule", "total", "step", "each"] "_law_fee" (defScope s__law_fee) f cdv A outer s H E) (fun cls d _ H' => E cls d H') (defBody s__law_fee) b__law_fee := by
  intro cdv A outer s H E hr hgu
  unfold b__law_fee
  exact (rss_cons (rs_set (i := 2) sc__law_fee.nd (re_ix (RE.frozen (re_comp rfl sc__law_fee.nd (blkOk_by (N := ["rule", "total", "step", "each"]) (sc := (defScope s__law_fee)) (own := [("each", 3)]) (by decide +kernel)) rfl (by decide) (ri_seqA (re_var (i := 0))) (fun _ _ _ _ _ => (rg_name (i := 3) sc__law_fee.nd)) (fun _ _ _ _ _ => (rts_one (rt_cmp op_le oLe_ok (re_ix (re_var (i := 3)) re_int (fun _ _ => rfl)) (re_var (i := 1)) (nomark _)))) (fun _ _ _ _ _ => (re_var (i := 3))))) (re_neg re_int) (fun _ _ => rfl)))
    (rss_one (rs_ret (re_bin op_add4 oAddA_ok (re_ix (re_var (i := 2)) re_int (fun _ _ => rfl)) (re_bin op_fdivN oDiv_ok (re_bin op_add4 oAddA_ok (re_bin op_mul oMul_ok (re_ix (re_var (i := 2)) re_int (fun _ _ => rfl)) (re_var (i := 1))) re_int) re_int)))))
theorem g__law_fee (Z : Facts P K mg) (Y : FactsT K mg base T) : DefG P w K mg base T 1 "_law_fee" (defArgs s__law_fee) (defBody s__law_fee) (defScope s__law_fee) ["rule", "total"] false F__law_fee := by
  obtain ⟨f, fd, a, b⟩ := Z.d__law_fee
  exact ⟨f, fd, a, b, def_g a sc__law_fee (r__law_fee Z Y)⟩
theorem r__law_level_rule (Z : Facts P K mg) (Y : FactsT K mg base T) {f : Addr} : ∀ (cdv : Value) (A : Around) (outer : List PySem.Env) (s : Shared) (H : Hp) (E : XK), Room 2 (A.deeper (envOfC "_law_level_rule" (defScope s__law_level_rule) s.heap.objs.size f cdv)) → A.guards = some [] →
    RSs T false (cxOf (L2.CX P w) P w K mg base ["well", "many", "wide", "rule", "start", "turn", "left", "rate"] "_law_level_rule" (defScope s__law_level_rule) f cdv A outer s H E) (fun cls d _ H' => E cls d H') (defBody s__law_level_rule) b__law_level_rule := by
  intro cdv A outer s H E hr hgu
  unfold b__law_level_rule
  exact (rss_cons (rs_par (i := 3) (j := 4) rfl sc__law_level_rule.nd (ra_cons (re_tup (ra_cons (re_tup (ra_cons re_int (ra_cons (re_call (g__law_draw Z Y) pn__law_draw (hr.mono (by decide)) hgu pass_cx (ra_cons (re_var (i := 0)) (ra_cons (re_call (g__law_of Z Y) pn__law_of (hr.mono (by decide)) hgu pass_cx (ra_cons (re_var (i := 0)) (ra_cons (re_tup (ra_cons re_int (ra_cons re_int (ra_cons re_int (ra_cons (re_bin op_add4 oAddA_ok (re_bin op_pow oPow_ok re_int re_int) re_int) ra_nil))))) ra_nil))) ra_nil))) (ra_cons (re_call (g__law_draw Z Y) pn__law_draw (hr.mono (by decide)) hgu pass_cx (ra_cons (re_var (i := 0)) (ra_cons re_int ra_nil))) ra_nil)))) ra_nil)) (ra_cons re_int ra_nil)))
    (rss_cons (rs_for own_cx rfl (ri_range1 (ra_cons (re_bin op_sub oSub_ok (re_var (i := 1)) re_int) ra_nil) Z.n_range) (rg_name (i := 5) sc__law_level_rule.nd) (rss_cons (rs_set (i := 4) sc__law_level_rule.nd (re_bin op_add4 oAddA_ok (re_bin op_add4 oAddA_ok (re_var (i := 4)) re_int) (re_call (g__law_draw Z Y) pn__law_draw (hr.mono (by decide)) hgu pass_cx (ra_cons (re_var (i := 0)) (ra_cons (re_var (i := 2)) ra_nil)))))
    (rss_one (rs_if (rt_cmp op_le oLe_ok (re_var (i := 4)) (re_bin op_pow oPow_ok re_int re_int) (nomark _)) (rss_cons (rs_set (i := 6) sc__law_level_rule.nd (re_bin op_add4 oAddA_ok re_int (re_call (g__law_fee Z Y) pn__law_fee (hr.mono (by decide)) hgu pass_cx (ra_cons (re_var (i := 3)) (ra_cons (re_bin op_sub oSub_ok (re_var (i := 4)) re_int) ra_nil)))))
    (rss_cons (rs_set (i := 7) sc__law_level_rule.nd (re_callB (call_min2 rfl) bMin2_ok Z.n_min (by decide +kernel) (ra_cons (re_call (g__law_of Z Y) pn__law_of (hr.mono (by decide)) hgu pass_cx (ra_cons (re_var (i := 0)) (ra_cons (re_tup (ra_cons re_int (ra_cons re_int (ra_cons (re_ix (re_ix (re_var (i := 3)) (re_neg re_int) (fun _ _ => rfl)) re_int (fun _ _ => rfl)) (ra_cons (re_call (g__law_draw Z Y) pn__law_draw (hr.mono (by decide)) hgu pass_cx (ra_cons (re_var (i := 0)) (ra_cons re_int ra_nil))) ra_nil))))) ra_nil))) (ra_cons (re_bin op_fdivN oDiv_ok (re_bin op_mul oMul_ok (re_var (i := 6)) re_int) (re_var (i := 4))) ra_nil))))
    (rss_cons (rs_set (i := 6) sc__law_level_rule.nd (re_callB (call_min2 rfl) bMin2_ok Z.n_min (by decide +kernel) (ra_cons (re_bin op_sub oSub_ok (re_var (i := 6)) (re_bin op_fdivN oDiv_ok (re_bin op_add4 oAddA_ok (re_bin op_mul oMul_ok (re_var (i := 7)) (re_var (i := 4))) re_int) re_int)) (ra_cons (re_bin op_pow oPow_ok re_int re_int) ra_nil))))
    (rss_one (rs_set (i := 3) sc__law_level_rule.nd (re_bin op_add4 oAddA_ok (re_var (i := 3)) (re_tup (ra_cons (re_tup (ra_cons (re_var (i := 4)) (ra_cons (re_call (g__law_of Z Y) pn__law_of (hr.mono (by decide)) hgu pass_cx (ra_cons (re_var (i := 0)) (ra_cons (re_tup (ra_cons (re_var (i := 6)) (ra_cons (re_var (i := 6)) (ra_cons re_int (ra_cons (re_call (g__law_draw Z Y) pn__law_draw (hr.mono (by decide)) hgu pass_cx (ra_cons (re_var (i := 0)) (ra_cons (re_bin op_add4 oAddA_ok (re_var (i := 6)) re_int) ra_nil))) ra_nil))))) ra_nil))) (ra_cons (re_var (i := 7)) ra_nil)))) ra_nil)))))))) rss_nil))))
    (rss_one (rs_ret (re_var (i := 3))))))
theorem g__law_level_rule (Z : Facts P K mg) (Y : FactsT K mg base T) : DefG P w K mg base T 3 "_law_level_rule" (defArgs s__law_level_rule) (defBody s__law_level_rule) (defScope s__law_level_rule) ["well", "many", "wide"] false F__law_level_rule := by
  obtain ⟨f, fd, a, b⟩ := Z.d__law_level_rule
  exact ⟨f, fd, a, b, def_g a sc__law_level_rule (r__law_level_rule Z Y)⟩
theorem r__law_rule (Z : Facts P K mg) (Y : FactsT K mg base T) {f : Addr} : ∀ (cdv : Value) (A : Around) (outer : List PySem.Env) (s : Shared) (H : Hp) (E : XK), Room 3 (A.deeper (envOfC "_law_rule" (defScope s__law_rule) s.heap.objs.size f cdv)) → A.guards = some [] →
    RSs T false (cxOf (L2.CX P w) P w K mg base ["well", "starts", "turn", "found", "at", "start"] "_law_rule" (defScope s__law_rule) f cdv A outer s H E) (fun cls d _ H' => E cls d H') (defBody s__law_rule) b__law_rule := by
  intro cdv A outer s H E hr hgu
  unfold b__law_rule
  exact (rss_cons (rs_if (rt_cmp (op_eqA (Room.units hr)) oEqA_ok (re_call (g__law_draw Z Y) pn__law_draw (hr.mono (by decide)) hgu pass_cx (ra_cons (re_var (i := 0)) (ra_cons re_int ra_nil))) re_int (nomark _)) (rss_one (rs_ret (re_call (g__law_level_rule Z Y) pn__law_level_rule (hr.mono (by decide)) hgu pass_cx (ra_cons (re_var (i := 0)) (ra_cons (re_bin op_add4 oAddA_ok re_int (re_call (g__law_draw Z Y) pn__law_draw (hr.mono (by decide)) hgu pass_cx (ra_cons (re_var (i := 0)) (ra_cons re_int ra_nil)))) (ra_cons (re_call (g__law_of Z Y) pn__law_of (hr.mono (by decide)) hgu pass_cx (ra_cons (re_var (i := 0)) (ra_cons (re_tup (ra_cons re_int (ra_cons re_int (ra_cons (re_bin op_pow oPow_ok re_int re_int) ra_nil)))) ra_nil))) ra_nil)))))) rss_nil)
    (rss_cons (rs_set (i := 1) sc__law_rule.nd (RE.frozen (re_callB cr_sortedA bSortedA_ok Z.n_sorted (by decide +kernel) (ra_cons (RE.frozen (re_comp rfl sc__law_rule.nd (blkOk_by (N := ["well", "starts", "turn", "found", "at", "start"]) (sc := (defScope s__law_rule)) (own := [("turn", 2)]) (by decide +kernel)) rfl (by decide) (ri_range1 (ra_cons (re_call (g__law_draw Z Y) pn__law_draw (hr.mono (by decide)) hgu pass_cx (ra_cons (re_var (i := 0)) (ra_cons re_int ra_nil))) ra_nil) Z.n_range) (fun _ _ _ _ _ => (rg_name (i := 2) sc__law_rule.nd)) (fun _ _ _ _ _ => rts_nil) (fun _ _ _ _ _ => (re_bin op_add4 oAddA_ok re_int (re_call (g__law_draw Z Y) pn__law_draw (hr.mono (by decide)) hgu pass_blk (ra_cons (re_var (i := 0)) (ra_cons (re_call (g__law_of Z Y) pn__law_of (hr.mono (by decide)) hgu pass_blk (ra_cons (re_var (i := 0)) (ra_cons (re_tup (ra_cons re_int (ra_cons re_int (ra_cons (re_bin op_pow oPow_ok re_int re_int) ra_nil)))) ra_nil))) ra_nil))))))) ra_nil))))
    (rss_cons (rs_set (i := 3) sc__law_rule.nd (RE.alloc (re_lst (ra_cons (re_tup (ra_cons re_int (ra_cons (re_call (g__law_draw Z Y) pn__law_draw (hr.mono (by decide)) hgu pass_cx (ra_cons (re_var (i := 0)) (ra_cons (re_call (g__law_of Z Y) pn__law_of (hr.mono (by decide)) hgu pass_cx (ra_cons (re_var (i := 0)) (ra_cons (re_tup (ra_cons re_int (ra_cons re_int (ra_cons (re_bin op_add4 oAddA_ok (re_bin op_pow oPow_ok re_int re_int) re_int) ra_nil)))) ra_nil))) ra_nil))) (ra_cons (re_call (g__law_draw Z Y) pn__law_draw (hr.mono (by decide)) hgu pass_cx (ra_cons (re_var (i := 0)) (ra_cons re_int ra_nil))) ra_nil)))) ra_nil))))
    (rss_cons (rs_for own_cx rfl (ri_enumA (ra_cons (re_var (i := 1)) ra_nil) Z.n_enumerate) (rg_tup rfl (rgs_cons (rg_name (i := 4) sc__law_rule.nd) (rgs_cons (rg_name (i := 5) sc__law_rule.nd) rgs_nil))) (rss_one (rs_if (RW.t (rw_or (rt_cmp (op_eqA (Room.units hr)) oEqA_ok (re_var (i := 4)) re_int (nomark _)) (rw_or1 (rt_cmp op_gt oGt_ok (re_var (i := 5)) (re_ix (re_var (i := 1)) (re_bin op_sub oSub_ok (re_var (i := 4)) re_int) (fun _ _ => rfl)) (nomark _))))) (rss_one (rs_expr (re_bm PySem.F.slot_list_append PySem.F.type_list_append mt_append mAppend_ok (re_var (i := 3)) (ra_cons (re_tup (ra_cons (re_var (i := 5)) (ra_cons (re_call (g__law_draw Z Y) pn__law_draw (hr.mono (by decide)) hgu pass_cx (ra_cons (re_var (i := 0)) (ra_cons (re_call (g__law_of Z Y) pn__law_of (hr.mono (by decide)) hgu pass_cx (ra_cons (re_var (i := 0)) (ra_cons (re_tup (ra_cons re_int (ra_cons re_int (ra_cons (re_bin op_add4 oAddA_ok (re_bin op_pow oPow_ok re_int re_int) re_int) ra_nil)))) ra_nil))) ra_nil))) (ra_cons (re_call (g__law_draw Z Y) pn__law_draw (hr.mono (by decide)) hgu pass_cx (ra_cons (re_var (i := 0)) (ra_cons re_int ra_nil))) ra_nil)))) ra_nil)))) rss_nil)))
    (rss_one (rs_ret (re_callTy call_tuple_of bTuple_ok Z.n_tuple (by decide +kernel) (ra_cons (re_var (i := 3)) ra_nil))))))))
theorem g__law_rule (Z : Facts P K mg) (Y : FactsT K mg base T) : DefG P w K mg base T 4 "_law_rule" (defArgs s__law_rule) (defBody s__law_rule) (defScope s__law_rule) ["well"] false F__law_rule := by
  obtain ⟨f, fd, a, b⟩ := Z.d__law_rule
  exact ⟨f, fd, a, b, def_g a sc__law_rule (r__law_rule Z Y)⟩
theorem r__law_none (Z : Facts P K mg) (Y : FactsT K mg base T) {f : Addr} : ∀ (cdv : Value) (A : Around) (outer : List PySem.Env) (s : Shared) (H : Hp) (E : XK), Room 2 (A.deeper (envOfC "_law_none" (defScope s__law_none) s.heap.objs.size f cdv)) → A.guards = some [] →
    RSs T false (cxOf (L2.CX P w) P w K mg base ["well", "rule", "some"] "_law_none" (defScope s__law_none) f cdv A outer s H E) (fun cls d _ H' => E cls d H') (defBody s__law_none) b__law_none := by
  intro cdv A outer s H E hr hgu
  unfold b__law_none
  exact (rss_cons (rs_set (i := 2) sc__law_none.nd (RE.alloc (re_lst (ra_cons re_non (ra_cons (re_tup ra_nil) (ra_cons re_str (ra_cons re_int (ra_cons (RE.frozen (re_callTy call_list_of bList_ok Z.n_list (by decide +kernel) (ra_cons (re_var (i := 1)) ra_nil))) (ra_cons (re_ix (re_var (i := 1)) re_int (fun _ _ => rfl)) (ra_cons (re_bin op_add4 oAddA_ok (re_var (i := 1)) (re_sliceA (re_var (i := 1)) ro_none (ro_some re_int))) (ra_cons (re_tup (ra_cons (re_tup (ra_cons re_int (ra_cons re_int (ra_cons re_int ra_nil)))) ra_nil)) (ra_cons (re_tup (ra_cons (re_tup (ra_cons re_int (ra_cons re_int (ra_cons re_int ra_nil)))) ra_nil)) (ra_cons (re_tup (ra_cons (re_tup (ra_cons re_int (ra_cons (re_neg re_int) (ra_cons re_int ra_nil)))) ra_nil)) ra_nil)))))))))))))
    (rss_cons (rs_set (i := 2) sc__law_none.nd (RE.alloc (re_bin op_cat oCat_ok (re_var (i := 2)) (RE.frozen (re_lst (ra_cons (re_tup (ra_cons (re_tup (ra_cons re_int (ra_cons re_int (ra_cons re_int ra_nil)))) (ra_cons (re_tup (ra_cons re_int (ra_cons re_int (ra_cons re_int ra_nil)))) (ra_cons (re_tup (ra_cons re_int (ra_cons re_int (ra_cons re_int ra_nil)))) ra_nil)))) (ra_cons (re_tup (ra_cons (re_tup (ra_cons re_int (ra_cons (re_bin op_add4 oAddA_ok (re_bin op_pow oPow_ok re_int re_int) re_int) (ra_cons re_int ra_nil)))) ra_nil)) (ra_cons (re_tup (ra_cons (re_tup (ra_cons re_bl (ra_cons re_int (ra_cons re_int ra_nil)))) ra_nil)) (ra_cons (re_tup (ra_cons (re_tup (ra_cons re_int (ra_cons re_int ra_nil))) ra_nil)) ra_nil)))))))))
    (rss_cons (rs_expr (re_bm PySem.F.slot_list_append PySem.F.type_list_append mt_append mAppend_ok (re_var (i := 2)) (ra_cons (re_tup (ra_cons (re_tup (ra_cons re_int (ra_cons re_int (ra_cons re_non ra_nil)))) ra_nil)) ra_nil)))
    (rss_one (rs_ret (re_call (g__law_of Z Y) pn__law_of (hr.mono (by decide)) hgu pass_cx (ra_cons (re_var (i := 0)) (ra_cons (RE.frozen (re_bin op_cat oCat_ok (re_var (i := 2)) (RE.frozen (re_lst (ra_cons (re_tup (ra_cons (re_tup (ra_cons re_int (ra_cons re_int (ra_cons re_int ra_nil)))) (ra_cons (re_tup (ra_cons (re_bin op_add4 oAddA_ok (re_bin op_pow oPow_ok re_int re_int) re_int) (ra_cons re_int (ra_cons re_int ra_nil)))) ra_nil))) (ra_cons (re_tup (ra_cons (re_tup (ra_cons re_int (ra_cons re_int (ra_cons re_int ra_nil)))) (ra_cons (re_tup (ra_cons re_int (ra_cons re_int (ra_cons re_int ra_nil)))) (ra_cons (re_tup (ra_cons re_int (ra_cons re_int (ra_cons re_int ra_nil)))) ra_nil)))) (ra_cons (re_tup (ra_cons (re_var (i := 1)) ra_nil)) ra_nil))))))) ra_nil))))))))
theorem g__law_none (Z : Facts P K mg) (Y : FactsT K mg base T) : DefG P w K mg base T 3 "_law_none" (defArgs s__law_none) (defBody s__law_none) (defScope s__law_none) ["well", "rule"] false F__law_none := by
  obtain ⟨f, fd, a, b⟩ := Z.d__law_none
  exact ⟨f, fd, a, b, def_g a sc__law_none (r__law_none Z Y)⟩
theorem r_is_tuple_of (Z : Facts P K mg) (Y : FactsT K mg base T) {f : Addr} : ∀ (cdv : Value) (A : Around) (outer : List PySem.Env) (s : Shared) (H : Hp) (E : XK), Room 0 (A.deeper (envOfC "is_tuple_of" (defScope s_is_tuple_of) s.heap.objs.size f cdv)) → A.guards = some [] →
    RSs T false (cxOf (L2.CX P w) P w K mg base ["value", "many"] "is_tuple_of" (defScope s_is_tuple_of) f cdv A outer s H E) (fun cls d _ H' => E cls d H') (defBody s_is_tuple_of) b_is_tuple_of := by
  intro cdv A outer s H E hr hgu
  unfold b_is_tuple_of
  exact (rss_one (rs_ret (re_and (re_isi (t := .tuple) (re_var (i := 0)) Z.n_isinstance Z.n_tuple (by decide +kernel)) (re_one (re_cmp (op_eqA (Room.units hr)) oEqA_ok (re_callB call_len bLen_ok Z.n_len (by decide +kernel) (ra_cons (re_var (i := 0)) ra_nil)) (re_var (i := 1)) (nomark _))))))
theorem g_is_tuple_of (Z : Facts P K mg) (Y : FactsT K mg base T) : DefG P w K mg base T 1 "is_tuple_of" (defArgs s_is_tuple_of) (defBody s_is_tuple_of) (defScope s_is_tuple_of) ["value", "many"] false F_is_tuple_of := by
  obtain ⟨f, fd, a, b⟩ := Z.d_is_tuple_of
  exact ⟨f, fd, a, b, def_g a sc_is_tuple_of (r_is_tuple_of Z Y)⟩
theorem r_is_whole (Z : Facts P K mg) (Y : FactsT K mg base T) {f : Addr} : ∀ (cdv : Value) (A : Around) (outer : List PySem.Env) (s : Shared) (H : Hp) (E : XK), Room 0 (A.deeper (envOfC "is_whole" (defScope s_is_whole) s.heap.objs.size f cdv)) → A.guards = some [] →
    RSs T false (cxOf (L2.CX P w) P w K mg base ["value"] "is_whole" (defScope s_is_whole) f cdv A outer s H E) (fun cls d _ H' => E cls d H') (defBody s_is_whole) b_is_whole := by
  intro cdv A outer s H E hr hgu
  unfold b_is_whole
  exact (rss_one (rs_ret (re_and (re_isi (t := .int) (re_var (i := 0)) Z.n_isinstance Z.n_int (by decide +kernel)) (re_one (re_not (re_isi (t := .bool) (re_var (i := 0)) Z.n_isinstance Z.n_bool (by decide +kernel)))))))
theorem g_is_whole (Z : Facts P K mg) (Y : FactsT K mg base T) : DefG P w K mg base T 1 "is_whole" (defArgs s_is_whole) (defBody s_is_whole) (defScope s_is_whole) ["value"] false F_is_whole := by
  obtain ⟨f, fd, a, b⟩ := Z.d_is_whole
  exact ⟨f, fd, a, b, def_g a sc_is_whole (r_is_whole Z Y)⟩
theorem r_is_number (Z : Facts P K mg) (Y : FactsT K mg base T) {f : Addr} : ∀ (cdv : Value) (A : Around) (outer : List PySem.Env) (s : Shared) (H : Hp) (E : XK), Room 1 (A.deeper (envOfC "is_number" (defScope s_is_number) s.heap.objs.size f cdv)) → A.guards = some [] →
    RSs T false (cxOf (L2.CX P w) P w K mg base ["value", "low", "high"] "is_number" (defScope s_is_number) f cdv A outer s H E) (fun cls d _ H' => E cls d H') (defBody s_is_number) b_is_number := by
  intro cdv A outer s H E hr hgu
  unfold b_is_number
  exact (rss_cons (rs_if (RW.t (rw_or (rt_not (rt_val (re_call (g_is_whole Z Y) pn_is_whole (hr.mono (by decide)) hgu pass_cx (ra_cons (re_var (i := 0)) ra_nil)))) (rw_or1 (RW.t (rw_and (rt_cmp op_notN oNotN_ok (re_var (i := 1)) re_non (nomark _)) (rw_and1 (rt_cmp (op_ltA (Room.units0 hr)) oLtA_ok (re_var (i := 0)) (re_var (i := 1)) (nomark _)))))))) (rss_one (rs_ret re_bl)) rss_nil)
    (rss_one (rs_ret (re_or (re_cmp op_isN oIsN_ok (re_var (i := 2)) re_non (nomark _)) (re_one (re_cmp op_le oLe_ok (re_var (i := 0)) (re_var (i := 2)) (nomark _)))))))
theorem g_is_number (Z : Facts P K mg) (Y : FactsT K mg base T) : DefG P w K mg base T 2 "is_number" (defArgs s_is_number) (defBody s_is_number) (defScope s_is_number) ["value", "low", "high"] false F_is_number := by
  obtain ⟨f, fd, a, b⟩ := Z.d_is_number
  exact ⟨f, fd, a, b, def_g a sc_is_number (r_is_number Z Y)⟩
theorem r_is_step (Z : Facts P K mg) (Y : FactsT K mg base T) {f : Addr} : ∀ (cdv : Value) (A : Around) (outer : List PySem.Env) (s : Shared) (H : Hp) (E : XK), Room 2 (A.deeper (envOfC "is_step" (defScope s_is_step) s.heap.objs.size f cdv)) → A.guards = some [] →
    RSs T false (cxOf (L2.CX P w) P w K mg base ["value"] "is_step" (defScope s_is_step) f cdv A outer s H E) (fun cls d _ H' => E cls d H') (defBody s_is_step) b_is_step := by
  intro cdv A outer s H E hr hgu
  unfold b_is_step
  exact (rss_cons (rs_if (RW.t (rw_or (rt_not (rt_val (re_call (g_is_tuple_of Z Y) pn_is_tuple_of (hr.mono (by decide)) hgu pass_cx (ra_cons (re_var (i := 0)) (ra_cons re_int ra_nil))))) (rw_or1 (rt_not (rt_val (re_call (g_is_number Z Y) pn_is_number (hr.mono (by decide)) hgu pass_cx (ra_cons (re_ix (re_var (i := 0)) re_int (fun _ _ => rfl)) (ra_cons re_int (ra_cons (re_glob Z.k_MOST_RATE) ra_nil))))))))) (rss_one (rs_ret re_bl)) rss_nil)
    (rss_one (rs_ret (re_and (re_call (g_is_number Z Y) pn_is_number (hr.mono (by decide)) hgu pass_cx (ra_cons (re_ix (re_var (i := 0)) re_int (fun _ _ => rfl)) (ra_cons re_int (ra_cons (re_glob Z.k_MOST_BEGIN) ra_nil)))) (re_one (re_call (g_is_number Z Y) pn_is_number (hr.mono (by decide)) hgu pass_cx (ra_cons (re_ix (re_var (i := 0)) re_int (fun _ _ => rfl)) (ra_cons re_int (ra_cons (re_glob Z.k_MOST_BEGIN) ra_nil)))))))))
theorem g_is_step (Z : Facts P K mg) (Y : FactsT K mg base T) : DefG P w K mg base T 3 "is_step" (defArgs s_is_step) (defBody s_is_step) (defScope s_is_step) ["value"] false F_is_step := by
  obtain ⟨f, fd, a, b⟩ := Z.d_is_step
  exact ⟨f, fd, a, b, def_g a sc_is_step (r_is_step Z Y)⟩
theorem r_is_ascending (Z : Facts P K mg) (Y : FactsT K mg base T) {f : Addr} : ∀ (cdv : Value) (A : Around) (outer : List PySem.Env) (s : Shared) (H : Hp) (E : XK), Room 0 (A.deeper (envOfC "is_ascending" (defScope s_is_ascending) s.heap.objs.size f cdv)) → A.guards = some [] →
    RSs T false (cxOf (L2.CX P w) P w K mg base ["values", "one", "two"] "is_ascending" (defScope s_is_ascending) f cdv A outer s H E) (fun cls d _ H' => E cls d H') (defBody s_is_ascending) b_is_ascending := by
  intro cdv A outer s H E hr hgu
  unfold b_is_ascending
  exact (rss_one (rs_ret (re_callB (cr_all rfl) bAll_ok Z.n_all (by decide +kernel) (ra_cons (RE.frozen (re_comp rfl sc_is_ascending.nd (blkOk_by (N := ["values", "one", "two"]) (sc := (defScope s_is_ascending)) (own := [("one", 1), ("two", 2)]) (by decide +kernel)) rfl (by decide) (ri_zip (ra_cons (re_var (i := 0)) (ra_cons (re_sliceA (re_var (i := 0)) (ro_some re_int) ro_none) ra_nil)) Z.n_zip) (fun _ _ _ _ _ => (rg_tup rfl (rgs_cons (rg_name (i := 1) sc_is_ascending.nd) (rgs_cons (rg_name (i := 2) sc_is_ascending.nd) rgs_nil)))) (fun _ _ _ _ _ => rts_nil) (fun _ _ _ _ _ => (re_cmp (op_ltA (Room.units0 hr)) oLtA_ok (re_var (i := 1)) (re_var (i := 2)) (nomark _))))) ra_nil))))
theorem g_is_ascending (Z : Facts P K mg) (Y : FactsT K mg base T) : DefG P w K mg base T 1 "is_ascending" (defArgs s_is_ascending) (defBody s_is_ascending) (defScope s_is_ascending) ["values"] false F_is_ascending := by
  obtain ⟨f, fd, a, b⟩ := Z.d_is_ascending
  exact ⟨f, fd, a, b, def_g a sc_is_ascending (r_is_ascending Z Y)⟩
theorem r_is_rule (Z : Facts P K mg) (Y : FactsT K mg base T) {f : Addr} : ∀ (cdv : Value) (A : Around) (outer : List PySem.Env) (s : Shared) (H : Hp) (E : XK), Room 3 (A.deeper (envOfC "is_rule" (defScope s_is_rule) s.heap.objs.size f cdv)) → A.guards = some [] →
    RSs T false (cxOf (L2.CX P w) P w K mg base ["value", "step"] "is_rule" (defScope s_is_rule) f cdv A outer s H E) (fun cls d _ H' => E cls d H') (defBody s_is_rule) b_is_rule := by
  intro cdv A outer s H E hr hgu
  unfold b_is_rule
  exact (rss_cons (rs_if (RW.t (rw_or (rt_not (rt_val (re_isi (t := .tuple) (re_var (i := 0)) Z.n_isinstance Z.n_tuple (by decide +kernel)))) (rw_or (rt_not (rt_chain op_le op_le oLe_ok oLe_ok re_int (re_callB call_len bLen_ok Z.n_len (by decide +kernel) (ra_cons (re_var (i := 0)) ra_nil)) (re_glob Z.k_MOST_STEPS))) (rw_or1 (rt_not (rt_val (re_callB (cr_all rfl) bAll_ok Z.n_all (by decide +kernel) (ra_cons (RE.frozen (re_comp rfl sc_is_rule.nd (blkOk_by (N := ["value", "step"]) (sc := (defScope s_is_rule)) (own := [("step", 1)]) (by decide +kernel)) rfl (by decide) (ri_seqA (re_var (i := 0))) (fun _ _ _ _ _ => (rg_name (i := 1) sc_is_rule.nd)) (fun _ _ _ _ _ => rts_nil) (fun _ _ _ _ _ => (re_call (g_is_step Z Y) pn_is_step (hr.mono (by decide)) hgu pass_blk (ra_cons (re_var (i := 1)) ra_nil))))) ra_nil)))))))) (rss_one (rs_ret re_bl)) rss_nil)
    (rss_one (rs_ret (re_and (re_cmp (op_eqA (Room.units hr)) oEqA_ok (re_ix (re_ix (re_var (i := 0)) re_int (fun _ _ => rfl)) re_int (fun _ _ => rfl)) re_int (nomark _)) (re_one (re_call (g_is_ascending Z Y) pn_is_ascending (hr.mono (by decide)) hgu pass_cx (ra_cons (RE.frozen (re_comp rfl sc_is_rule.nd (blkOk_by (N := ["value", "step"]) (sc := (defScope s_is_rule)) (own := [("step", 1)]) (by decide +kernel)) rfl (by decide) (ri_seqA (re_var (i := 0))) (fun _ _ _ _ _ => (rg_name (i := 1) sc_is_rule.nd)) (fun _ _ _ _ _ => rts_nil) (fun _ _ _ _ _ => (re_ix (re_var (i := 1)) re_int (fun _ _ => rfl))))) ra_nil)))))))
theorem g_is_rule (Z : Facts P K mg) (Y : FactsT K mg base T) : DefG P w K mg base T 4 "is_rule" (defArgs s_is_rule) (defBody s_is_rule) (defScope s_is_rule) ["value"] false F_is_rule := by
  obtain ⟨f, fd, a, b⟩ := Z.d_is_rule
  exact ⟨f, fd, a, b, def_g a sc_is_rule (r_is_rule Z Y)⟩
theorem r_check_rule (Z : Facts P K mg) (Y : FactsT K mg base T) {f : Addr} : ∀ (cdv : Value) (A : Around) (outer : List PySem.Env) (s : Shared) (H : Hp) (E : XK), Room 4 (A.deeper (envOfC "check_rule" (defScope s_check_rule) s.heap.objs.size f cdv)) → A.guards = some [] →
    RSs T false (cxOf (L2.CX P w) P w K mg base ["value"] "check_rule" (defScope s_check_rule) f cdv A outer s H E) (fun cls d _ H' => E cls d H') (defBody s_check_rule) b_check_rule := by
  intro cdv A outer s H E hr hgu
  unfold b_check_rule
  exact (rss_one (rs_if (rt_not (rt_val (re_call (g_is_rule Z Y) pn_is_rule (hr.mono (by decide)) hgu pass_cx (ra_cons (re_var (i := 0)) ra_nil)))) (rss_one (rs_raise Z.xr_InvalidRule_given (hr.mono (by decide)) rfl (takes_of rfl rfl rfl rfl) (ra_cons (re_var (i := 0)) ra_nil))) rss_nil))
theorem g_check_rule (Z : Facts P K mg) (Y : FactsT K mg base T) : DefG P w K mg base T 5 "check_rule" (defArgs s_check_rule) (defBody s_check_rule) (defScope s_check_rule) ["value"] false F_check_rule := by
  obtain ⟨f, fd, a, b⟩ := Z.d_check_rule
  exact ⟨f, fd, a, b, def_g a sc_check_rule (r_check_rule Z Y)⟩
theorem r_check_number (Z : Facts P K mg) (Y : FactsT K mg base T) {f : Addr} : ∀ (cdv : Value) (A : Around) (outer : List PySem.Env) (s : Shared) (H : Hp) (E : XK), Room 2 (A.deeper (envOfC "check_number" (defScope s_check_number) s.heap.objs.size f cdv)) → A.guards = some [] →
    RSs T false (cxOf (L2.CX P w) P w K mg base ["value", "low", "high"] "check_number" (defScope s_check_number) f cdv A outer s H E) (fun cls d _ H' => E cls d H') (defBody s_check_number) b_check_number := by
  intro cdv A outer s H E hr hgu
  unfold b_check_number
  exact (rss_one (rs_if (rt_not (rt_val (re_call (g_is_number Z Y) pn_is_number (hr.mono (by decide)) hgu pass_cx (ra_cons (re_var (i := 0)) (ra_cons (re_var (i := 1)) (ra_cons (re_var (i := 2)) ra_nil)))))) (rss_one (rs_raise Z.xr_InvalidNumber_given (hr.mono (by decide)) rfl (takes_of rfl rfl rfl rfl) (ra_cons (re_var (i := 0)) ra_nil))) rss_nil))
theorem g_check_number (Z : Facts P K mg) (Y : FactsT K mg base T) : DefG P w K mg base T 3 "check_number" (defArgs s_check_number) (defBody s_check_number) (defScope s_check_number) ["value", "low", "high"] false F_check_number := by
  obtain ⟨f, fd, a, b⟩ := Z.d_check_number
  exact ⟨f, fd, a, b, def_g a sc_check_number (r_check_number Z Y)⟩
theorem r_step_at (Z : Facts P K mg) (Y : FactsT K mg base T) {f : Addr} : ∀ (cdv : Value) (A : Around) (outer : List PySem.Env) (s : Shared) (H : Hp) (E : XK), Room 0 (A.deeper (envOfC "step_at" (defScope s_step_at) s.heap.objs.size f cdv)) → A.guards = some [] →
    RSs T false (cxOf (L2.CX P w) P w K mg base ["rule", "total", "step"] "step_at" (defScope s_step_at) f cdv A outer s H E) (fun cls d _ H' => E cls d H') (defBody s_step_at) b_step_at := by
  intro cdv A outer s H E hr hgu
  unfold b_step_at
  exact (rss_one (rs_ret (re_ix (RE.frozen (re_comp rfl sc_step_at.nd (blkOk_by (N := ["rule", "total", "step"]) (sc := (defScope s_step_at)) (own := [("step", 2)]) (by decide +kernel)) rfl (by decide) (ri_seqA (re_var (i := 0))) (fun _ _ _ _ _ => (rg_name (i := 2) sc_step_at.nd)) (fun _ _ _ _ _ => (rts_one (rt_cmp op_le oLe_ok (re_ix (re_var (i := 2)) re_int (fun _ _ => rfl)) (re_var (i := 1)) (nomark _)))) (fun _ _ _ _ _ => (re_var (i := 2))))) (re_neg re_int) (fun _ _ => rfl))))
theorem g_step_at (Z : Facts P K mg) (Y : FactsT K mg base T) : DefG P w K mg base T 1 "step_at" (defArgs s_step_at) (defBody s_step_at) (defScope s_step_at) ["rule", "total"] false F_step_at := by
  obtain ⟨f, fd, a, b⟩ := Z.d_step_at
  exact ⟨f, fd, a, b, def_g a sc_step_at (r_step_at Z Y)⟩
theorem r_upper (Z : Facts P K mg) (Y : FactsT K mg base T) {f : Addr} : ∀ (cdv : Value) (A : Around) (outer : List PySem.Env) (s : Shared) (H : Hp) (E : XK), Room 0 (A.deeper (envOfC "upper" (defScope s_upper) s.heap.objs.size f cdv)) → A.guards = some [] →
    RSs T false (cxOf (L2.CX P w) P w K mg base ["number", "by"] "upper" (defScope s_upper) f cdv A outer s H E) (fun cls d _ H' => E cls d H') (defBody s_upper) b_upper := by
  intro cdv A outer s H E hr hgu
  unfold b_upper
  exact (rss_one (rs_ret (re_neg (re_bin op_fdivN oDiv_ok (re_neg (re_var (i := 0))) (re_var (i := 1))))))
theorem g_upper (Z : Facts P K mg) (Y : FactsT K mg base T) : DefG P w K mg base T 1 "upper" (defArgs s_upper) (defBody s_upper) (defScope s_upper) ["number", "by"] false F_upper := by
  obtain ⟨f, fd, a, b⟩ := Z.d_upper
  exact ⟨f, fd, a, b, def_g a sc_upper (r_upper Z Y)⟩
theorem r_fee_of (Z : Facts P K mg) (Y : FactsT K mg base T) {f : Addr} : ∀ (cdv : Value) (A : Around) (outer : List PySem.Env) (s : Shared) (H : Hp) (E : XK), Room 1 (A.deeper (envOfC "fee_of" (defScope s_fee_of) s.heap.objs.size f cdv)) → A.guards = some [] →
    RSs T false (cxOf (L2.CX P w) P w K mg base ["rule", "total", "_", "base", "rate"] "fee_of" (defScope s_fee_of) f cdv A outer s H E) (fun cls d _ H' => E cls d H') (defBody s_fee_of) b_fee_of := by
  intro cdv A outer s H E hr hgu
  unfold b_fee_of
  exact (rss_cons (rs_asg (re_call (g_step_at Z Y) pn_step_at (hr.mono (by decide)) hgu pass_cx (ra_cons (re_var (i := 0)) (ra_cons (re_var (i := 1)) ra_nil))) (rg_tup rfl (rgs_cons (rg_name (i := 2) sc_fee_of.nd) (rgs_cons (rg_name (i := 3) sc_fee_of.nd) (rgs_cons (rg_name (i := 4) sc_fee_of.nd) rgs_nil)))))
    (rss_one (rs_ret (re_bin op_add4 oAddA_ok (re_var (i := 3)) (re_call (g_upper Z Y) pn_upper (hr.mono (by decide)) hgu pass_cx (ra_cons (re_bin op_mul oMul_ok (re_var (i := 4)) (re_var (i := 1))) (ra_cons (re_glob Z.k_WHOLE) ra_nil)))))))
theorem g_fee_of (Z : Facts P K mg) (Y : FactsT K mg base T) : DefG P w K mg base T 2 "fee_of" (defArgs s_fee_of) (defBody s_fee_of) (defScope s_fee_of) ["rule", "total"] false F_fee_of := by
  obtain ⟨f, fd, a, b⟩ := Z.d_fee_of
  exact ⟨f, fd, a, b, def_g a sc_fee_of (r_fee_of Z Y)⟩
theorem r_fee (Z : Facts P K mg) (Y : FactsT K mg base T) {f : Addr} : ∀ (cdv : Value) (A : Around) (outer : List PySem.Env) (s : Shared) (H : Hp) (E : XK), Room 5 (A.deeper (envOfC "fee" (defScope s_fee) s.heap.objs.size f cdv)) → A.guards = some [] →
    RSs T false (cxOf (L2.CX P w) P w K mg base ["rule", "total"] "fee" (defScope s_fee) f cdv A outer s H E) (fun cls d _ H' => E cls d H') (defBody s_fee) b_fee := by
  intro cdv A outer s H E hr hgu
  unfold b_fee
  exact (rss_cons (rs_expr (re_call (g_check_rule Z Y) pn_check_rule (hr.mono (by decide)) hgu pass_cx (ra_cons (re_var (i := 0)) ra_nil)))
    (rss_cons (rs_expr (re_call (g_check_number Z Y) pn_check_number (hr.mono (by decide)) hgu pass_cx (ra_cons (re_var (i := 1)) (ra_cons re_int (ra_cons (re_glob Z.k_MOST_TOTAL) ra_nil)))))
    (rss_one (rs_ret (re_call (g_fee_of Z Y) pn_fee_of (hr.mono (by decide)) hgu pass_cx (ra_cons (re_var (i := 0)) (ra_cons (re_var (i := 1)) ra_nil)))))))
theorem g_fee (Z : Facts P K mg) (Y : FactsT K mg base T) : DefG P w K mg base T 6 "fee" (defArgs s_fee) (defBody s_fee) (defScope s_fee) ["rule", "total"] false F_fee := by
  obtain ⟨f, fd, a, b⟩ := Z.d_fee
  exact ⟨f, fd, a, b, def_g a sc_fee (r_fee Z Y)⟩
theorem r_net_of (Z : Facts P K mg) (Y : FactsT K mg base T) {f : Addr} : ∀ (cdv : Value) (A : Around) (outer : List PySem.Env) (s : Shared) (H : Hp) (E : XK), Room 2 (A.deeper (envOfC "net_of" (defScope s_net_of) s.heap.objs.size f cdv)) → A.guards = some [] →
    RSs T false (cxOf (L2.CX P w) P w K mg base ["rule", "total"] "net_of" (defScope s_net_of) f cdv A outer s H E) (fun cls d _ H' => E cls d H') (defBody s_net_of) b_net_of := by
  intro cdv A outer s H E hr hgu
  unfold b_net_of
  exact (rss_one (rs_ret (re_bin op_sub oSub_ok (re_var (i := 1)) (re_call (g_fee_of Z Y) pn_fee_of (hr.mono (by decide)) hgu pass_cx (ra_cons (re_var (i := 0)) (ra_cons (re_var (i := 1)) ra_nil))))))
theorem g_net_of (Z : Facts P K mg) (Y : FactsT K mg base T) : DefG P w K mg base T 3 "net_of" (defArgs s_net_of) (defBody s_net_of) (defScope s_net_of) ["rule", "total"] false F_net_of := by
  obtain ⟨f, fd, a, b⟩ := Z.d_net_of
  exact ⟨f, fd, a, b, def_g a sc_net_of (r_net_of Z Y)⟩
theorem r_net (Z : Facts P K mg) (Y : FactsT K mg base T) {f : Addr} : ∀ (cdv : Value) (A : Around) (outer : List PySem.Env) (s : Shared) (H : Hp) (E : XK), Room 5 (A.deeper (envOfC "net" (defScope s_net) s.heap.objs.size f cdv)) → A.guards = some [] →
    RSs T false (cxOf (L2.CX P w) P w K mg base ["rule", "total"] "net" (defScope s_net) f cdv A outer s H E) (fun cls d _ H' => E cls d H') (defBody s_net) b_net := by
  intro cdv A outer s H E hr hgu
  unfold b_net
  exact (rss_cons (rs_expr (re_call (g_check_rule Z Y) pn_check_rule (hr.mono (by decide)) hgu pass_cx (ra_cons (re_var (i := 0)) ra_nil)))
    (rss_cons (rs_expr (re_call (g_check_number Z Y) pn_check_number (hr.mono (by decide)) hgu pass_cx (ra_cons (re_var (i := 1)) (ra_cons re_int (ra_cons (re_glob Z.k_MOST_TOTAL) ra_nil)))))
    (rss_one (rs_ret (re_call (g_net_of Z Y) pn_net_of (hr.mono (by decide)) hgu pass_cx (ra_cons (re_var (i := 0)) (ra_cons (re_var (i := 1)) ra_nil)))))))
theorem g_net (Z : Facts P K mg) (Y : FactsT K mg base T) : DefG P w K mg base T 6 "net" (defArgs s_net) (defBody s_net) (defScope s_net) ["rule", "total"] false F_net := by
  obtain ⟨f, fd, a, b⟩ := Z.d_net
  exact ⟨f, fd, a, b, def_g a sc_net (r_net Z Y)⟩
theorem r__law_is (Z : Facts P K mg) (Y : FactsT K mg base T) {f : Addr} : ∀ (cdv : Value) (A : Around) (outer : List PySem.Env) (s : Shared) (H : Hp) (E : XK), Room 0 (A.deeper (envOfC "_law_is" (defScope s__law_is) s.heap.objs.size f cdv)) → A.guards = some [] →
    RSs T false (cxOf (L2.CX P w) P w K mg base ["told", "due"] "_law_is" (defScope s__law_is) f cdv A outer s H E) (fun cls d _ H' => E cls d H') (defBody s__law_is) b__law_is := by
  intro cdv A outer s H E hr hgu
  unfold b__law_is
  exact (rss_one (rs_ret (re_cmp (op_eqA (Room.units hr)) oEqA_ok (re_callB (call_repr hgu (Room.units hr)) bRepr_ok Z.n_repr (by decide +kernel) (ra_cons (re_var (i := 0)) ra_nil)) (re_callB (call_repr hgu (Room.units hr)) bRepr_ok Z.n_repr (by decide +kernel) (ra_cons (re_var (i := 1)) ra_nil)) (nomark _))))
theorem g__law_is (Z : Facts P K mg) (Y : FactsT K mg base T) : DefG P w K mg base T 1 "_law_is" (defArgs s__law_is) (defBody s__law_is) (defScope s__law_is) ["told", "due"] false F__law_is := by
  obtain ⟨f, fd, a, b⟩ := Z.d__law_is
  exact ⟨f, fd, a, b, def_g a sc__law_is (r__law_is Z Y)⟩
theorem r_falls_at (Z : Facts P K mg) (Y : FactsT K mg base T) {f : Addr} : ∀ (cdv : Value) (A : Around) (outer : List PySem.Env) (s : Shared) (H : Hp) (E : XK), Room 3 (A.deeper (envOfC "falls_at" (defScope s_falls_at) s.heap.objs.size f cdv)) → A.guards = some [] →
    RSs T false (cxOf (L2.CX P w) P w K mg base ["rule", "begin", "_"] "falls_at" (defScope s_falls_at) f cdv A outer s H E) (fun cls d _ H' => E cls d H') (defBody s_falls_at) b_falls_at := by
  intro cdv A outer s H E hr hgu
  unfold b_falls_at
  exact (rss_cons (rs_for own_cx rfl (ri_seqA (re_sliceA (re_var (i := 0)) (ro_some re_int) ro_none)) (rg_tup rfl (rgs_cons (rg_name (i := 1) sc_falls_at.nd) (rgs_cons (rg_name (i := 2) sc_falls_at.nd) (rgs_cons (rg_name (i := 2) sc_falls_at.nd) rgs_nil)))) (rss_one (rs_if (rt_cmp (op_ltA (Room.units0 hr)) oLtA_ok (re_call (g_net_of Z Y) pn_net_of (hr.mono (by decide)) hgu pass_cx (ra_cons (re_var (i := 0)) (ra_cons (re_var (i := 1)) ra_nil))) (re_call (g_net_of Z Y) pn_net_of (hr.mono (by decide)) hgu pass_cx (ra_cons (re_var (i := 0)) (ra_cons (re_bin op_sub oSub_ok (re_var (i := 1)) re_int) ra_nil))) (nomark _)) (rss_one (rs_ret (re_bin op_sub oSub_ok (re_var (i := 1)) re_int))) rss_nil)))
    (rss_one (rs_ret re_non)))
theorem g_falls_at (Z : Facts P K mg) (Y : FactsT K mg base T) : DefG P w K mg base T 4 "falls_at" (defArgs s_falls_at) (defBody s_falls_at) (defScope s_falls_at) ["rule"] false F_falls_at := by
  obtain ⟨f, fd, a, b⟩ := Z.d_falls_at
  exact ⟨f, fd, a, b, def_g a sc_falls_at (r_falls_at Z Y)⟩
theorem r_is_level (Z : Facts P K mg) (Y : FactsT K mg base T) {f : Addr} : ∀ (cdv : Value) (A : Around) (outer : List PySem.Env) (s : Shared) (H : Hp) (E : XK), Room 5 (A.deeper (envOfC "is_level" (defScope s_is_level) s.heap.objs.size f cdv)) → A.guards = some [] →
    RSs T false (cxOf (L2.CX P w) P w K mg base ["rule"] "is_level" (defScope s_is_level) f cdv A outer s H E) (fun cls d _ H' => E cls d H') (defBody s_is_level) b_is_level := by
  intro cdv A outer s H E hr hgu
  unfold b_is_level
  exact (rss_cons (rs_expr (re_call (g_check_rule Z Y) pn_check_rule (hr.mono (by decide)) hgu pass_cx (ra_cons (re_var (i := 0)) ra_nil)))
    (rss_one (rs_ret (re_cmp op_isN oIsN_ok (re_call (g_falls_at Z Y) pn_falls_at (hr.mono (by decide)) hgu pass_cx (ra_cons (re_var (i := 0)) ra_nil)) re_non (nomark _)))))
theorem g_is_level (Z : Facts P K mg) (Y : FactsT K mg base T) : DefG P w K mg base T 6 "is_level" (defArgs s_is_level) (defBody s_is_level) (defScope s_is_level) ["rule"] false F_is_level := by
  obtain ⟨f, fd, a, b⟩ := Z.d_is_level
  exact ⟨f, fd, a, b, def_g a sc_is_level (r_is_level Z Y)⟩
theorem r_falling_total (Z : Facts P K mg) (Y : FactsT K mg base T) {f : Addr} : ∀ (cdv : Value) (A : Around) (outer : List PySem.Env) (s : Shared) (H : Hp) (E : XK), Room 5 (A.deeper (envOfC "falling_total" (defScope s_falling_total) s.heap.objs.size f cdv)) → A.guards = some [] →
    RSs T false (cxOf (L2.CX P w) P w K mg base ["rule"] "falling_total" (defScope s_falling_total) f cdv A outer s H E) (fun cls d _ H' => E cls d H') (defBody s_falling_total) b_falling_total := by
  intro cdv A outer s H E hr hgu
  unfold b_falling_total
  exact (rss_cons (rs_expr (re_call (g_check_rule Z Y) pn_check_rule (hr.mono (by decide)) hgu pass_cx (ra_cons (re_var (i := 0)) ra_nil)))
    (rss_one (rs_ret (re_call (g_falls_at Z Y) pn_falls_at (hr.mono (by decide)) hgu pass_cx (ra_cons (re_var (i := 0)) ra_nil)))))
theorem g_falling_total (Z : Facts P K mg) (Y : FactsT K mg base T) : DefG P w K mg base T 6 "falling_total" (defArgs s_falling_total) (defBody s_falling_total) (defScope s_falling_total) ["rule"] false F_falling_total := by
  obtain ⟨f, fd, a, b⟩ := Z.d_falling_total
  exact ⟨f, fd, a, b, def_g a sc_falling_total (r_falling_total Z Y)⟩
theorem r_parts_at (Z : Facts P K mg) (Y : FactsT K mg base T) {f : Addr} : ∀ (cdv : Value) (A : Around) (outer : List PySem.Env) (s : Shared) (H : Hp) (E : XK), Room 3 (A.deeper (envOfC "parts_at" (defScope s_parts_at) s.heap.objs.size f cdv)) → A.guards = some [] →
    RSs T false (cxOf (L2.CX P w) P w K mg base ["rule", "other", "begins", "step", "at", "begin", "many", "end", "total"] "parts_at" (defScope s_parts_at) f cdv A outer s H E) (fun cls d _ H' => E cls d H') (defBody s_parts_at) b_parts_at := by
  intro cdv A outer s H E hr hgu
  unfold b_parts_at
  exact (rss_cons (rs_set (i := 2) sc_parts_at.nd (RE.frozen (re_ssI (RE.frozen (re_comp rfl sc_parts_at.nd (blkOk_by (N := ["rule", "other", "begins", "step", "at", "begin", "many", "end", "total"]) (sc := (defScope s_parts_at)) (own := [("step", 3)]) (by decide +kernel)) rfl (by decide) (ri_seqA (re_bin op_add4 oAddA_ok (re_var (i := 0)) (re_var (i := 1)))) (fun _ _ _ _ _ => (rg_name (i := 3) sc_parts_at.nd)) (fun _ _ _ _ _ => rts_nil) (fun _ _ _ _ _ => (re_ix (re_var (i := 3)) re_int (fun _ _ => rfl))))) Z.n_sorted Z.n_set)))
    (rss_cons (rs_for own_cx rfl (ri_enumA (ra_cons (re_var (i := 2)) ra_nil) Z.n_enumerate) (rg_tup rfl (rgs_cons (rg_name (i := 4) sc_parts_at.nd) (rgs_cons (rg_name (i := 5) sc_parts_at.nd) rgs_nil))) (rss_cons (rs_set (i := 6) sc_parts_at.nd (re_if (rt_cmp (op_eqA (Room.units hr)) oEqA_ok (re_ix (re_call (g_step_at Z Y) pn_step_at (hr.mono (by decide)) hgu pass_cx (ra_cons (re_var (i := 0)) (ra_cons (re_var (i := 5)) ra_nil))) re_int (fun _ _ => rfl)) (re_ix (re_call (g_step_at Z Y) pn_step_at (hr.mono (by decide)) hgu pass_cx (ra_cons (re_var (i := 1)) (ra_cons (re_var (i := 5)) ra_nil))) re_int (fun _ _ => rfl)) (nomark _)) re_int (re_bin op_add4 oAddA_ok (re_glob Z.k_WHOLE) re_int)))
    (rss_cons (rs_set (i := 7) sc_parts_at.nd (re_if (rt_cmp (op_eqA (Room.units hr)) oEqA_ok (re_bin op_add4 oAddA_ok (re_var (i := 4)) re_int) (re_callB call_len bLen_ok Z.n_len (by decide +kernel) (ra_cons (re_var (i := 2)) ra_nil)) (nomark _)) (re_bin op_add4 oAddA_ok (re_var (i := 5)) (re_var (i := 6))) (re_callB (call_min2 rfl) bMin2_ok Z.n_min (by decide +kernel) (ra_cons (re_bin op_add4 oAddA_ok (re_var (i := 5)) (re_var (i := 6))) (ra_cons (re_ix (re_var (i := 2)) (re_bin op_add4 oAddA_ok (re_var (i := 4)) re_int) (fun _ _ => rfl)) ra_nil)))))
    (rss_one (rs_for own_cx rfl (ri_range2 (ra_cons (re_var (i := 5)) (ra_cons (re_var (i := 7)) ra_nil)) Z.n_range) (rg_name (i := 8) sc_parts_at.nd) (rss_one (rs_if (rt_cmp (op_neA (Room.units hr)) oNeA_ok (re_call (g_net_of Z Y) pn_net_of (hr.mono (by decide)) hgu pass_cx (ra_cons (re_var (i := 0)) (ra_cons (re_var (i := 8)) ra_nil))) (re_call (g_net_of Z Y) pn_net_of (hr.mono (by decide)) hgu pass_cx (ra_cons (re_var (i := 1)) (ra_cons (re_var (i := 8)) ra_nil))) (nomark _)) (rss_one (rs_ret (re_var (i := 8)))) rss_nil)))))))
    (rss_one (rs_ret re_non))))
theorem g_parts_at (Z : Facts P K mg) (Y : FactsT K mg base T) : DefG P w K mg base T 4 "parts_at" (defArgs s_parts_at) (defBody s_parts_at) (defScope s_parts_at) ["rule", "other"] false F_parts_at := by
  obtain ⟨f, fd, a, b⟩ := Z.d_parts_at
  exact ⟨f, fd, a, b, def_g a sc_parts_at (r_parts_at Z Y)⟩
theorem r_parting_total (Z : Facts P K mg) (Y : FactsT K mg base T) {f : Addr} : ∀ (cdv : Value) (A : Around) (outer : List PySem.Env) (s : Shared) (H : Hp) (E : XK), Room 5 (A.deeper (envOfC "parting_total" (defScope s_parting_total) s.heap.objs.size f cdv)) → A.guards = some [] →
    RSs T false (cxOf (L2.CX P w) P w K mg base ["rule", "other"] "parting_total" (defScope s_parting_total) f cdv A outer s H E) (fun cls d _ H' => E cls d H') (defBody s_parting_total) b_parting_total := by
  intro cdv A outer s H E hr hgu
  unfold b_parting_total
  exact (rss_cons (rs_expr (re_call (g_check_rule Z Y) pn_check_rule (hr.mono (by decide)) hgu pass_cx (ra_cons (re_var (i := 0)) ra_nil)))
    (rss_cons (rs_expr (re_call (g_check_rule Z Y) pn_check_rule (hr.mono (by decide)) hgu pass_cx (ra_cons (re_var (i := 1)) ra_nil)))
    (rss_one (rs_ret (re_call (g_parts_at Z Y) pn_parts_at (hr.mono (by decide)) hgu pass_cx (ra_cons (re_var (i := 0)) (ra_cons (re_var (i := 1)) ra_nil)))))))
theorem g_parting_total (Z : Facts P K mg) (Y : FactsT K mg base T) : DefG P w K mg base T 6 "parting_total" (defArgs s_parting_total) (defBody s_parting_total) (defScope s_parting_total) ["rule", "other"] false F_parting_total := by
  obtain ⟨f, fd, a, b⟩ := Z.d_parting_total
  exact ⟨f, fd, a, b, def_g a sc_parting_total (r_parting_total Z Y)⟩
theorem r_net_alike (Z : Facts P K mg) (Y : FactsT K mg base T) {f : Addr} : ∀ (cdv : Value) (A : Around) (outer : List PySem.Env) (s : Shared) (H : Hp) (E : XK), Room 6 (A.deeper (envOfC "net_alike" (defScope s_net_alike) s.heap.objs.size f cdv)) → A.guards = some [] →
    RSs T false (cxOf (L2.CX P w) P w K mg base ["rule", "other"] "net_alike" (defScope s_net_alike) f cdv A outer s H E) (fun cls d _ H' => E cls d H') (defBody s_net_alike) b_net_alike := by
  intro cdv A outer s H E hr hgu
  unfold b_net_alike
  exact (rss_one (rs_ret (re_cmp op_isN oIsN_ok (re_call (g_parting_total Z Y) pn_parting_total (hr.mono (by decide)) hgu pass_cx (ra_cons (re_var (i := 0)) (ra_cons (re_var (i := 1)) ra_nil))) re_non (nomark _))))
theorem g_net_alike (Z : Facts P K mg) (Y : FactsT K mg base T) : DefG P w K mg base T 7 "net_alike" (defArgs s_net_alike) (defBody s_net_alike) (defScope s_net_alike) ["rule", "other"] false F_net_alike := by
  obtain ⟨f, fd, a, b⟩ := Z.d_net_alike
  exact ⟨f, fd, a, b, def_g a sc_net_alike (r_net_alike Z Y)⟩
theorem r__law_level (Z : Facts P K mg) (Y : FactsT K mg base T) {f : Addr} : ∀ (cdv : Value) (A : Around) (outer : List PySem.Env) (s : Shared) (H : Hp) (E : XK), Room 1 (A.deeper (envOfC "_law_level" (defScope s__law_level) s.heap.objs.size f cdv)) → A.guards = some [] →
    RSs T false (cxOf (L2.CX P w) P w K mg base ["rule", "step"] "_law_level" (defScope s__law_level) f cdv A outer s H E) (fun cls d _ H' => E cls d H') (defBody s__law_level) b__law_level := by
  intro cdv A outer s H E hr hgu
  unfold b__law_level
  exact (rss_one (rs_ret (re_cmp (op_eqA (Room.units hr)) oEqA_ok (RE.frozen (re_comp rfl sc__law_level.nd (blkOk_by (N := ["rule", "step"]) (sc := (defScope s__law_level)) (own := [("step", 1)]) (by decide +kernel)) rfl (by decide) (ri_seqA (re_sliceA (re_var (i := 0)) (ro_some re_int) ro_none)) (fun _ _ _ _ _ => (rg_name (i := 1) sc__law_level.nd)) (fun _ _ _ _ _ => (rts_one (rt_cmp op_gt oGt_ok (re_bin op_sub oSub_ok (re_call (g__law_fee Z Y) pn__law_fee (hr.mono (by decide)) hgu pass_blk (ra_cons (re_var (i := 0)) (ra_cons (re_ix (re_var (i := 1)) re_int (fun _ _ => rfl)) ra_nil))) (re_call (g__law_fee Z Y) pn__law_fee (hr.mono (by decide)) hgu pass_blk (ra_cons (re_var (i := 0)) (ra_cons (re_bin op_sub oSub_ok (re_ix (re_var (i := 1)) re_int (fun _ _ => rfl)) re_int) ra_nil)))) re_int (nomark _)))) (fun _ _ _ _ _ => re_int))) (RE.frozen (re_lst ra_nil)) (nomark _))))
theorem g__law_level (Z : Facts P K mg) (Y : FactsT K mg base T) : DefG P w K mg base T 2 "_law_level" (defArgs s__law_level) (defBody s__law_level) (defScope s__law_level) ["rule"] false F__law_level := by
  obtain ⟨f, fd, a, b⟩ := Z.d__law_level
  exact ⟨f, fd, a, b, def_g a sc__law_level (r__law_level Z Y)⟩
theorem r_is_level_rule (Z : Facts P K mg) (Y : FactsT K mg base T) {f : Addr} : ∀ (cdv : Value) (A : Around) (outer : List PySem.Env) (s : Shared) (H : Hp) (E : XK), Room 4 (A.deeper (envOfC "is_level_rule" (defScope s_is_level_rule) s.heap.objs.size f cdv)) → A.guards = some [] →
    RSs T false (cxOf (L2.CX P w) P w K mg base ["value"] "is_level_rule" (defScope s_is_level_rule) f cdv A outer s H E) (fun cls d _ H' => E cls d H') (defBody s_is_level_rule) b_is_level_rule := by
  intro cdv A outer s H E hr hgu
  unfold b_is_level_rule
  exact (rss_one (rs_ret (re_and (re_call (g_is_rule Z Y) pn_is_rule (hr.mono (by decide)) hgu pass_cx (ra_cons (re_var (i := 0)) ra_nil)) (re_one (re_cmp op_isN oIsN_ok (re_call (g_falls_at Z Y) pn_falls_at (hr.mono (by decide)) hgu pass_cx (ra_cons (re_var (i := 0)) ra_nil)) re_non (nomark _))))))
theorem g_is_level_rule (Z : Facts P K mg) (Y : FactsT K mg base T) : DefG P w K mg base T 5 "is_level_rule" (defArgs s_is_level_rule) (defBody s_is_level_rule) (defScope s_is_level_rule) ["value"] false F_is_level_rule := by
  obtain ⟨f, fd, a, b⟩ := Z.d_is_level_rule
  exact ⟨f, fd, a, b, def_g a sc_is_level_rule (r_is_level_rule Z Y)⟩
theorem r_least_with_net (Z : Facts P K mg) (Y : FactsT K mg base T) {f : Addr} : ∀ (cdv : Value) (A : Around) (outer : List PySem.Env) (s : Shared) (H : Hp) (E : XK), Room 3 (A.deeper (envOfC "least_with_net" (defScope s_least_with_net) s.heap.objs.size f cdv)) → A.guards = some [] →
    RSs T false (cxOf (L2.CX P w) P w K mg base ["rule", "floor", "begin", "base", "_", "low", "high", "middle"] "least_with_net" (defScope s_least_with_net) f cdv A outer s H E) (fun cls d _ H' => E cls d H') (defBody s_least_with_net) b_least_with_net := by
  intro cdv A outer s H E hr hgu
  unfold b_least_with_net
  exact (rss_cons (rs_asg (re_ix (re_var (i := 0)) (re_neg re_int) (fun _ _ => rfl)) (rg_tup rfl (rgs_cons (rg_name (i := 2) sc_least_with_net.nd) (rgs_cons (rg_name (i := 3) sc_least_with_net.nd) (rgs_cons (rg_name (i := 4) sc_least_with_net.nd) rgs_nil)))))
    (rss_cons (rs_par (i := 5) (j := 6) rfl sc_least_with_net.nd (ra_cons re_int (ra_cons (re_bin op_add4 oAddA_ok (re_var (i := 2)) (re_bin op_mul oMul_ok (re_glob Z.k_WHOLE) (re_bin op_add4 oAddA_ok (re_bin op_add4 oAddA_ok (re_var (i := 1)) (re_var (i := 3))) re_int))) ra_nil)))
    (rss_cons (rs_if (rt_cmp (op_ltA (Room.units0 hr)) oLtA_ok (re_call (g_net_of Z Y) pn_net_of (hr.mono (by decide)) hgu pass_cx (ra_cons (re_var (i := 0)) (ra_cons (re_var (i := 6)) ra_nil))) (re_var (i := 1)) (nomark _)) (rss_one (rs_ret re_non)) rss_nil)
    (rss_cons (rs_while wfuel own_cx (rt_cmp (op_ltA (Room.units0 hr)) oLtA_ok (re_var (i := 5)) (re_var (i := 6)) (nomark _)) (rss_cons (rs_set (i := 7) sc_least_with_net.nd (re_bin op_fdivN oDiv_ok (re_bin op_add4 oAddA_ok (re_var (i := 5)) (re_var (i := 6))) re_int))
    (rss_one (rs_if (rt_cmp op_ge oGe_ok (re_call (g_net_of Z Y) pn_net_of (hr.mono (by decide)) hgu pass_cx (ra_cons (re_var (i := 0)) (ra_cons (re_var (i := 7)) ra_nil))) (re_var (i := 1)) (nomark _)) (rss_one (rs_set (i := 6) sc_least_with_net.nd (re_var (i := 7)))) (rss_one (rs_set (i := 5) sc_least_with_net.nd (re_bin op_add4 oAddA_ok (re_var (i := 7)) re_int)))))))
    (rss_one (rs_ret (re_var (i := 5))))))))
theorem g_least_with_net (Z : Facts P K mg) (Y : FactsT K mg base T) : DefG P w K mg base T 4 "least_with_net" (defArgs s_least_with_net) (defBody s_least_with_net) (defScope s_least_with_net) ["rule", "floor"] false F_least_with_net := by
  obtain ⟨f, fd, a, b⟩ := Z.d_least_with_net
  exact ⟨f, fd, a, b, def_g a sc_least_with_net (r_least_with_net Z Y)⟩
theorem r_least_total (Z : Facts P K mg) (Y : FactsT K mg base T) {f : Addr} : ∀ (cdv : Value) (A : Around) (outer : List PySem.Env) (s : Shared) (H : Hp) (E : XK), Room 5 (A.deeper (envOfC "least_total" (defScope s_least_total) s.heap.objs.size f cdv)) → A.guards = some [] →
    RSs T false (cxOf (L2.CX P w) P w K mg base ["rule", "floor"] "least_total" (defScope s_least_total) f cdv A outer s H E) (fun cls d _ H' => E cls d H') (defBody s_least_total) b_least_total := by
  intro cdv A outer s H E hr hgu
  unfold b_least_total
  exact (rss_cons (rs_if (rt_not (rt_val (re_call (g_is_level_rule Z Y) pn_is_level_rule (hr.mono (by decide)) hgu pass_cx (ra_cons (re_var (i := 0)) ra_nil)))) (rss_one (rs_raise Z.xr_InvalidRule_given (hr.mono (by decide)) rfl (takes_of rfl rfl rfl rfl) (ra_cons (re_var (i := 0)) ra_nil))) rss_nil)
    (rss_cons (rs_expr (re_call (g_check_number Z Y) pn_check_number (hr.mono (by decide)) hgu pass_cx (ra_cons (re_var (i := 1)) (ra_cons re_int (ra_cons (re_glob Z.k_MOST_FLOOR) ra_nil)))))
    (rss_one (rs_ret (re_call (g_least_with_net Z Y) pn_least_with_net (hr.mono (by decide)) hgu pass_cx (ra_cons (re_var (i := 0)) (ra_cons (re_var (i := 1)) ra_nil)))))))
theorem g_least_total (Z : Facts P K mg) (Y : FactsT K mg base T) : DefG P w K mg base T 6 "least_total" (defArgs s_least_total) (defBody s_least_total) (defScope s_least_total) ["rule", "floor"] false F_least_total := by
  obtain ⟨f, fd, a, b⟩ := Z.d_least_total
  exact ⟨f, fd, a, b, def_g a sc_least_total (r_least_total Z Y)⟩
theorem r__law_right (Z : Facts P K mg) (Y : FactsT K mg base T) {f : Addr} : ∀ (cdv : Value) (A : Around) (outer : List PySem.Env) (s : Shared) (H : Hp) (E : XK), Room 9 (A.deeper (envOfC "_law_right" (defScope s__law_right) s.heap.objs.size f cdv)) → A.guards = some [] → (∃ c P, LamX.TabB base mg c P ∧ cdv = .ref c ∧ (P, ("_law_right.<locals>.<lambda>" : Str)) ∈ T ∧ ∀ p ∈ T, p.1 = P → p.2 = "_law_right.<locals>.<lambda>") →
    RSs T false (cxOf (L2.CX P w) P w K mg base ["well", "turn", "rule", "one", "is_one", "two", "is_two", "total", "is_total", "due", "told", "floor", "is_floor"] "_law_right" (defScope s__law_right) f cdv A outer s H E) (fun cls d _ H' => E cls d H') (defBody s__law_right) b__law_right := by
  intro cdv A outer s H E hr hgu L
  unfold b__law_right
  exact (rss_cons (rs_for own_cx rfl (ri_range1 (ra_cons re_int ra_nil) Z.n_range) (rg_name (i := 1) sc__law_right.nd) (rss_cons (rs_set (i := 2) sc__law_right.nd (re_call (g__law_rule Z Y) pn__law_rule (hr.mono (by decide)) hgu pass_cx (ra_cons (re_var (i := 0)) ra_nil)))
    (rss_cons (rs_asg (re_call (g__law_of Z Y) pn__law_of (hr.mono (by decide)) hgu pass_cx (ra_cons (re_var (i := 0)) (ra_cons (re_tup (ra_cons (re_tup (ra_cons (re_var (i := 2)) (ra_cons re_bl ra_nil))) (ra_cons (re_tup (ra_cons (re_var (i := 2)) (ra_cons re_bl ra_nil))) (ra_cons (re_tup (ra_cons (re_call (g__law_none Z Y) pn__law_none (hr.mono (by decide)) hgu pass_cx (ra_cons (re_var (i := 0)) (ra_cons (re_var (i := 2)) ra_nil))) (ra_cons re_bl ra_nil))) ra_nil)))) ra_nil))) (rg_tup rfl (rgs_cons (rg_name (i := 3) sc__law_right.nd) (rgs_cons (rg_name (i := 4) sc__law_right.nd) rgs_nil))))
    (rss_cons (rs_asg (re_call (g__law_of Z Y) pn__law_of (hr.mono (by decide)) hgu pass_cx (ra_cons (re_var (i := 0)) (ra_cons (re_tup (ra_cons (re_tup (ra_cons (re_var (i := 2)) (ra_cons re_bl ra_nil))) (ra_cons (re_tup (ra_cons (re_call (g__law_none Z Y) pn__law_none (hr.mono (by decide)) hgu pass_cx (ra_cons (re_var (i := 0)) (ra_cons (re_var (i := 2)) ra_nil))) (ra_cons re_bl ra_nil))) ra_nil))) ra_nil))) (rg_tup rfl (rgs_cons (rg_name (i := 5) sc__law_right.nd) (rgs_cons (rg_name (i := 6) sc__law_right.nd) rgs_nil))))
    (rss_cons (rs_asg (re_call (g__law_of Z Y) pn__law_of (hr.mono (by decide)) hgu pass_cx (ra_cons (re_var (i := 0)) (ra_cons (re_tup (ra_cons (re_tup (ra_cons re_int (ra_cons re_bl ra_nil))) (ra_cons (re_tup (ra_cons (re_bin op_pow oPow_ok re_int re_int) (ra_cons re_bl ra_nil))) (ra_cons (re_tup (ra_cons (re_neg re_int) (ra_cons re_bl ra_nil))) (ra_cons (re_tup (ra_cons (re_bin op_add4 oAddA_ok (re_bin op_pow oPow_ok re_int re_int) re_int) (ra_cons re_bl ra_nil))) (ra_cons (re_tup (ra_cons re_bl (ra_cons re_bl ra_nil))) (ra_cons (re_tup (ra_cons re_non (ra_cons re_bl ra_nil))) (ra_cons (re_tup (ra_cons re_str (ra_cons re_bl ra_nil))) (ra_cons (re_tup (ra_cons (re_bin op_pow oPow_ok re_int re_int) (ra_cons re_bl ra_nil))) ra_nil))))))))) ra_nil))) (rg_tup rfl (rgs_cons (rg_name (i := 7) sc__law_right.nd) (rgs_cons (rg_name (i := 8) sc__law_right.nd) rgs_nil))))
    (rss_cons (rs_set (i := 9) sc__law_right.nd (RE.frozen (re_if (rt_val (re_var (i := 4))) (re_if (rt_val (re_var (i := 8))) (re_lst (ra_cons re_str ra_nil)) (re_lst (ra_cons re_str (ra_cons (re_var (i := 7)) ra_nil)))) (re_lst (ra_cons re_str (ra_cons (re_var (i := 3)) ra_nil))))))
    (rss_cons (rs_set (i := 10) sc__law_right.nd (RE.alloc (re_lst (ra_cons (RE.frozen (re_tryact (k := 6) (act := "act") (n := "e") (q := "_law_right.<locals>.<lambda>") (sut := sutL [("InvalidRule", ["rule"], "given"), ("InvalidNumber", ["number"], "given")]) (re := (fun S => some (.ok (.lst [.str "told"]), S))) Z.d__law_refused pn__law_refused sc__law_refused rfl (by decide) ⟨L, rfl⟩ (hr.mono (by decide)) (fun _ _ _ _ _ => rfl) (fun E A2 outer s H f c' hgu2 hr => (fun (hgu : A2.guards = some []) => (re_call (g_fee Z Y) pn_fee (hr.mono (by decide)) hgu pass_lam0 (ra_cons (re_var (i := 3)) (ra_cons (re_var (i := 7)) ra_nil)))) (hgu2.trans hgu)) (by show lamPB0 (defScope s__law_right) _ = true; decide +kernel) (by intro _ _ _ _; exact (clause1 Z.cl_InvalidRule_given rfl (.inl rfl) rfl (clause1 Z.cl_InvalidNumber_given rfl (.inl rfl) rfl .nil))) (by intro _ _ _ _; exact pe_lst (pa_cons pe_str pa_nil)) (sut_ok (names := ["InvalidRule", "InvalidNumber"]) Z.gmx__law_refused Z.exm__law_refused (.one Z.cl_InvalidRule_given (by simp) (.one Z.cl_InvalidNumber_given (by simp) .nil))) (by intro σ0 F μ S H Q s g; exact ⟨by show 1 ≤ _; decide, gp_lst g s (.cons (.str _) .nil)⟩))) ra_nil))))
    (rss_cons (rs_expr (re_bm PySem.F.slot_list_append PySem.F.type_list_append mt_append mAppend_ok (re_var (i := 10)) (ra_cons (RE.frozen (re_tryact (k := 6) (act := "act") (n := "e") (q := "_law_right.<locals>.<lambda>") (sut := sutL [("InvalidRule", ["rule"], "given"), ("InvalidNumber", ["number"], "given")]) (re := (fun S => some (.ok (.lst [.str "told"]), S))) Z.d__law_refused pn__law_refused sc__law_refused rfl (by decide) ⟨L, rfl⟩ (hr.mono (by decide)) (fun _ _ _ _ _ => rfl) (fun E A2 outer s H f c' hgu2 hr => (fun (hgu : A2.guards = some []) => (re_call (g_net Z Y) pn_net (hr.mono (by decide)) hgu pass_lam0 (ra_cons (re_var (i := 3)) (ra_cons (re_var (i := 7)) ra_nil)))) (hgu2.trans hgu)) (by show lamPB0 (defScope s__law_right) _ = true; decide +kernel) (by intro _ _ _ _; exact (clause1 Z.cl_InvalidRule_given rfl (.inl rfl) rfl (clause1 Z.cl_InvalidNumber_given rfl (.inl rfl) rfl .nil))) (by intro _ _ _ _; exact pe_lst (pa_cons pe_str pa_nil)) (sut_ok (names := ["InvalidRule", "InvalidNumber"]) Z.gmx__law_refused Z.exm__law_refused (.one Z.cl_InvalidRule_given (by simp) (.one Z.cl_InvalidNumber_given (by simp) .nil))) (by intro σ0 F μ S H Q s g; exact ⟨by show 1 ≤ _; decide, gp_lst g s (.cons (.str _) .nil)⟩))) ra_nil)))
    (rss_cons (rs_expr (re_bm PySem.F.slot_list_append PySem.F.type_list_append mt_append mAppend_ok (re_var (i := 10)) (ra_cons (RE.frozen (re_tryact (k := 6) (act := "act") (n := "e") (q := "_law_right.<locals>.<lambda>") (sut := sutL [("InvalidRule", ["rule"], "given"), ("InvalidNumber", ["number"], "given")]) (re := (fun S => some (.ok (.lst [.str "told"]), S))) Z.d__law_refused pn__law_refused sc__law_refused rfl (by decide) ⟨L, rfl⟩ (hr.mono (by decide)) (fun _ _ _ _ _ => rfl) (fun E A2 outer s H f c' hgu2 hr => (fun (hgu : A2.guards = some []) => (re_callK0 (g_fee Z Y) kn0_b kn0_r kn0_v kn0_l (hr.mono (by decide)) hgu pass_lam0 (rk_cons (re_var (i := 7)) (rk_cons (re_var (i := 3)) rk_nil)))) (hgu2.trans hgu)) (by show lamPB0 (defScope s__law_right) _ = true; decide +kernel) (by intro _ _ _ _; exact (clause1 Z.cl_InvalidRule_given rfl (.inl rfl) rfl (clause1 Z.cl_InvalidNumber_given rfl (.inl rfl) rfl .nil))) (by intro _ _ _ _; exact pe_lst (pa_cons pe_str pa_nil)) (sut_ok (names := ["InvalidRule", "InvalidNumber"]) Z.gmx__law_refused Z.exm__law_refused (.one Z.cl_InvalidRule_given (by simp) (.one Z.cl_InvalidNumber_given (by simp) .nil))) (by intro σ0 F μ S H Q s g; exact ⟨by show 1 ≤ _; decide, gp_lst g s (.cons (.str _) .nil)⟩))) ra_nil)))
    (rss_cons (rs_expr (re_bm PySem.F.slot_list_append PySem.F.type_list_append mt_append mAppend_ok (re_var (i := 10)) (ra_cons (RE.frozen (re_tryact (k := 6) (act := "act") (n := "e") (q := "_law_right.<locals>.<lambda>") (sut := sutL [("InvalidRule", ["rule"], "given"), ("InvalidNumber", ["number"], "given")]) (re := (fun S => some (.ok (.lst [.str "told"]), S))) Z.d__law_refused pn__law_refused sc__law_refused rfl (by decide) ⟨L, rfl⟩ (hr.mono (by decide)) (fun _ _ _ _ _ => rfl) (fun E A2 outer s H f c' hgu2 hr => (fun (hgu : A2.guards = some []) => (re_callK0 (g_net Z Y) kn1_b kn1_r kn1_v kn1_l (hr.mono (by decide)) hgu pass_lam0 (rk_cons (re_var (i := 7)) (rk_cons (re_var (i := 3)) rk_nil)))) (hgu2.trans hgu)) (by show lamPB0 (defScope s__law_right) _ = true; decide +kernel) (by intro _ _ _ _; exact (clause1 Z.cl_InvalidRule_given rfl (.inl rfl) rfl (clause1 Z.cl_InvalidNumber_given rfl (.inl rfl) rfl .nil))) (by intro _ _ _ _; exact pe_lst (pa_cons pe_str pa_nil)) (sut_ok (names := ["InvalidRule", "InvalidNumber"]) Z.gmx__law_refused Z.exm__law_refused (.one Z.cl_InvalidRule_given (by simp) (.one Z.cl_InvalidNumber_given (by simp) .nil))) (by intro σ0 F μ S H Q s g; exact ⟨by show 1 ≤ _; decide, gp_lst g s (.cons (.str _) .nil)⟩))) ra_nil)))
    (rss_cons (rs_if (rt_not (rt_val (re_call (g__law_is Z Y) pn__law_is (hr.mono (by decide)) hgu pass_cx (ra_cons (re_var (i := 10)) (ra_cons (RE.frozen (re_bin op_rep oRepL_ok (RE.frozen (re_lst (ra_cons (re_var (i := 9)) ra_nil))) re_int)) ra_nil))))) (rss_one (rs_ret re_bl)) rss_nil)
    (rss_cons (rs_set (i := 9) sc__law_right.nd (RE.frozen (re_if (rt_val (re_var (i := 4))) (re_lst (ra_cons re_str ra_nil)) (re_lst (ra_cons re_str (ra_cons (re_var (i := 3)) ra_nil))))))
    (rss_cons (rs_set (i := 10) sc__law_right.nd (RE.alloc (re_lst (ra_cons (RE.frozen (re_tryact (k := 6) (act := "act") (n := "e") (q := "_law_right.<locals>.<lambda>") (sut := sutL [("InvalidRule", ["rule"], "given"), ("InvalidNumber", ["number"], "given")]) (re := (fun S => some (.ok (.lst [.str "told"]), S))) Z.d__law_refused pn__law_refused sc__law_refused rfl (by decide) ⟨L, rfl⟩ (hr.mono (by decide)) (fun _ _ _ _ _ => rfl) (fun E A2 outer s H f c' hgu2 hr => (fun (hgu : A2.guards = some []) => (re_call (g_is_level Z Y) pn_is_level (hr.mono (by decide)) hgu pass_lam0 (ra_cons (re_var (i := 3)) ra_nil))) (hgu2.trans hgu)) (by show lamPB0 (defScope s__law_right) _ = true; decide +kernel) (by intro _ _ _ _; exact (clause1 Z.cl_InvalidRule_given rfl (.inl rfl) rfl (clause1 Z.cl_InvalidNumber_given rfl (.inl rfl) rfl .nil))) (by intro _ _ _ _; exact pe_lst (pa_cons pe_str pa_nil)) (sut_ok (names := ["InvalidRule", "InvalidNumber"]) Z.gmx__law_refused Z.exm__law_refused (.one Z.cl_InvalidRule_given (by simp) (.one Z.cl_InvalidNumber_given (by simp) .nil))) (by intro σ0 F μ S H Q s g; exact ⟨by show 1 ≤ _; decide, gp_lst g s (.cons (.str _) .nil)⟩))) ra_nil))))
    (rss_cons (rs_expr (re_bm PySem.F.slot_list_append PySem.F.type_list_append mt_append mAppend_ok (re_var (i := 10)) (ra_cons (RE.frozen (re_tryact (k := 6) (act := "act") (n := "e") (q := "_law_right.<locals>.<lambda>") (sut := sutL [("InvalidRule", ["rule"], "given"), ("InvalidNumber", ["number"], "given")]) (re := (fun S => some (.ok (.lst [.str "told"]), S))) Z.d__law_refused pn__law_refused sc__law_refused rfl (by decide) ⟨L, rfl⟩ (hr.mono (by decide)) (fun _ _ _ _ _ => rfl) (fun E A2 outer s H f c' hgu2 hr => (fun (hgu : A2.guards = some []) => (re_callK0 (g_falling_total Z Y) kn2_b kn2_r kn2_v kn2_l (hr.mono (by decide)) hgu pass_lam0 (rk_cons (re_var (i := 3)) rk_nil))) (hgu2.trans hgu)) (by show lamPB0 (defScope s__law_right) _ = true; decide +kernel) (by intro _ _ _ _; exact (clause1 Z.cl_InvalidRule_given rfl (.inl rfl) rfl (clause1 Z.cl_InvalidNumber_given rfl (.inl rfl) rfl .nil))) (by intro _ _ _ _; exact pe_lst (pa_cons pe_str pa_nil)) (sut_ok (names := ["InvalidRule", "InvalidNumber"]) Z.gmx__law_refused Z.exm__law_refused (.one Z.cl_InvalidRule_given (by simp) (.one Z.cl_InvalidNumber_given (by simp) .nil))) (by intro σ0 F μ S H Q s g; exact ⟨by show 1 ≤ _; decide, gp_lst g s (.cons (.str _) .nil)⟩))) ra_nil)))
    (rss_cons (rs_if (rt_not (rt_val (re_call (g__law_is Z Y) pn__law_is (hr.mono (by decide)) hgu pass_cx (ra_cons (re_var (i := 10)) (ra_cons (RE.frozen (re_bin op_rep oRepL_ok (RE.frozen (re_lst (ra_cons (re_var (i := 9)) ra_nil))) re_int)) ra_nil))))) (rss_one (rs_ret re_bl)) rss_nil)
    (rss_cons (rs_set (i := 9) sc__law_right.nd (re_if (RW.t (rw_and (rt_val (re_var (i := 4))) (rw_and1 (rt_not (rt_val (re_var (i := 6))))))) (RE.frozen (re_lst (ra_cons re_str (ra_cons (re_var (i := 5)) ra_nil)))) (re_var (i := 9))))
    (rss_cons (rs_set (i := 10) sc__law_right.nd (RE.alloc (re_lst (ra_cons (RE.frozen (re_tryact (k := 7) (act := "act") (n := "e") (q := "_law_right.<locals>.<lambda>") (sut := sutL [("InvalidRule", ["rule"], "given"), ("InvalidNumber", ["number"], "given")]) (re := (fun S => some (.ok (.lst [.str "told"]), S))) Z.d__law_refused pn__law_refused sc__law_refused rfl (by decide) ⟨L, rfl⟩ (hr.mono (by decide)) (fun _ _ _ _ _ => rfl) (fun E A2 outer s H f c' hgu2 hr => (fun (hgu : A2.guards = some []) => (re_call (g_net_alike Z Y) pn_net_alike (hr.mono (by decide)) hgu pass_lam0 (ra_cons (re_var (i := 3)) (ra_cons (re_var (i := 5)) ra_nil)))) (hgu2.trans hgu)) (by show lamPB0 (defScope s__law_right) _ = true; decide +kernel) (by intro _ _ _ _; exact (clause1 Z.cl_InvalidRule_given rfl (.inl rfl) rfl (clause1 Z.cl_InvalidNumber_given rfl (.inl rfl) rfl .nil))) (by intro _ _ _ _; exact pe_lst (pa_cons pe_str pa_nil)) (sut_ok (names := ["InvalidRule", "InvalidNumber"]) Z.gmx__law_refused Z.exm__law_refused (.one Z.cl_InvalidRule_given (by simp) (.one Z.cl_InvalidNumber_given (by simp) .nil))) (by intro σ0 F μ S H Q s g; exact ⟨by show 1 ≤ _; decide, gp_lst g s (.cons (.str _) .nil)⟩))) ra_nil))))
    (rss_cons (rs_expr (re_bm PySem.F.slot_list_append PySem.F.type_list_append mt_append mAppend_ok (re_var (i := 10)) (ra_cons (RE.frozen (re_tryact (k := 6) (act := "act") (n := "e") (q := "_law_right.<locals>.<lambda>") (sut := sutL [("InvalidRule", ["rule"], "given"), ("InvalidNumber", ["number"], "given")]) (re := (fun S => some (.ok (.lst [.str "told"]), S))) Z.d__law_refused pn__law_refused sc__law_refused rfl (by decide) ⟨L, rfl⟩ (hr.mono (by decide)) (fun _ _ _ _ _ => rfl) (fun E A2 outer s H f c' hgu2 hr => (fun (hgu : A2.guards = some []) => (re_callK0 (g_parting_total Z Y) kn3_b kn3_r kn3_v kn3_l (hr.mono (by decide)) hgu pass_lam0 (rk_cons (re_var (i := 5)) (rk_cons (re_var (i := 3)) rk_nil)))) (hgu2.trans hgu)) (by show lamPB0 (defScope s__law_right) _ = true; decide +kernel) (by intro _ _ _ _; exact (clause1 Z.cl_InvalidRule_given rfl (.inl rfl) rfl (clause1 Z.cl_InvalidNumber_given rfl (.inl rfl) rfl .nil))) (by intro _ _ _ _; exact pe_lst (pa_cons pe_str pa_nil)) (sut_ok (names := ["InvalidRule", "InvalidNumber"]) Z.gmx__law_refused Z.exm__law_refused (.one Z.cl_InvalidRule_given (by simp) (.one Z.cl_InvalidNumber_given (by simp) .nil))) (by intro σ0 F μ S H Q s g; exact ⟨by show 1 ≤ _; decide, gp_lst g s (.cons (.str _) .nil)⟩))) ra_nil)))
    (rss_cons (rs_if (rt_not (rt_val (re_call (g__law_is Z Y) pn__law_is (hr.mono (by decide)) hgu pass_cx (ra_cons (re_var (i := 10)) (ra_cons (RE.frozen (re_bin op_rep oRepL_ok (RE.frozen (re_lst (ra_cons (re_var (i := 9)) ra_nil))) re_int)) ra_nil))))) (rss_one (rs_ret re_bl)) rss_nil)
    (rss_cons (rs_asg (re_call (g__law_of Z Y) pn__law_of (hr.mono (by decide)) hgu pass_cx (ra_cons (re_var (i := 0)) (ra_cons (re_tup (ra_cons (re_tup (ra_cons re_int (ra_cons re_bl ra_nil))) (ra_cons (re_tup (ra_cons (re_bin op_pow oPow_ok re_int re_int) (ra_cons re_bl ra_nil))) (ra_cons (re_tup (ra_cons re_int (ra_cons re_bl ra_nil))) (ra_cons (re_tup (ra_cons (re_bin op_add4 oAddA_ok (re_bin op_pow oPow_ok re_int re_int) re_int) (ra_cons re_bl ra_nil))) (ra_cons (re_tup (ra_cons re_non (ra_cons re_bl ra_nil))) ra_nil)))))) ra_nil))) (rg_tup rfl (rgs_cons (rg_name (i := 11) sc__law_right.nd) (rgs_cons (rg_name (i := 12) sc__law_right.nd) rgs_nil))))
    (rss_cons (rs_set (i := 9) sc__law_right.nd (RE.frozen (re_if (rt_val (re_var (i := 12))) (re_lst (ra_cons re_str ra_nil)) (re_lst (ra_cons re_str (ra_cons (re_var (i := 11)) ra_nil))))))
    (rss_cons (rs_set (i := 9) sc__law_right.nd (re_if (RW.t (rw_and (rt_val (re_var (i := 4))) (rw_and1 (rt_val (re_call (g__law_level Z Y) pn__law_level (hr.mono (by decide)) hgu pass_cx (ra_cons (re_var (i := 2)) ra_nil)))))) (re_var (i := 9)) (RE.frozen (re_lst (ra_cons re_str (ra_cons (re_var (i := 3)) ra_nil))))))
    (rss_cons (rs_set (i := 10) sc__law_right.nd (RE.alloc (re_lst (ra_cons (RE.frozen (re_tryact (k := 6) (act := "act") (n := "e") (q := "_law_right.<locals>.<lambda>") (sut := sutL [("InvalidRule", ["rule"], "given"), ("InvalidNumber", ["number"], "given")]) (re := (fun S => some (.ok (.lst [.str "told"]), S))) Z.d__law_refused pn__law_refused sc__law_refused rfl (by decide) ⟨L, rfl⟩ (hr.mono (by decide)) (fun _ _ _ _ _ => rfl) (fun E A2 outer s H f c' hgu2 hr => (fun (hgu : A2.guards = some []) => (re_call (g_least_total Z Y) pn_least_total (hr.mono (by decide)) hgu pass_lam0 (ra_cons (re_var (i := 3)) (ra_cons (re_var (i := 11)) ra_nil)))) (hgu2.trans hgu)) (by show lamPB0 (defScope s__law_right) _ = true; decide +kernel) (by intro _ _ _ _; exact (clause1 Z.cl_InvalidRule_given rfl (.inl rfl) rfl (clause1 Z.cl_InvalidNumber_given rfl (.inl rfl) rfl .nil))) (by intro _ _ _ _; exact pe_lst (pa_cons pe_str pa_nil)) (sut_ok (names := ["InvalidRule", "InvalidNumber"]) Z.gmx__law_refused Z.exm__law_refused (.one Z.cl_InvalidRule_given (by simp) (.one Z.cl_InvalidNumber_given (by simp) .nil))) (by intro σ0 F μ S H Q s g; exact ⟨by show 1 ≤ _; decide, gp_lst g s (.cons (.str _) .nil)⟩))) ra_nil))))
    (rss_cons (rs_expr (re_bm PySem.F.slot_list_append PySem.F.type_list_append mt_append mAppend_ok (re_var (i := 10)) (ra_cons (RE.frozen (re_tryact (k := 6) (act := "act") (n := "e") (q := "_law_right.<locals>.<lambda>") (sut := sutL [("InvalidRule", ["rule"], "given"), ("InvalidNumber", ["number"], "given")]) (re := (fun S => some (.ok (.lst [.str "told"]), S))) Z.d__law_refused pn__law_refused sc__law_refused rfl (by decide) ⟨L, rfl⟩ (hr.mono (by decide)) (fun _ _ _ _ _ => rfl) (fun E A2 outer s H f c' hgu2 hr => (fun (hgu : A2.guards = some []) => (re_callK0 (g_least_total Z Y) kn4_b kn4_r kn4_v kn4_l (hr.mono (by decide)) hgu pass_lam0 (rk_cons (re_var (i := 11)) (rk_cons (re_var (i := 3)) rk_nil)))) (hgu2.trans hgu)) (by show lamPB0 (defScope s__law_right) _ = true; decide +kernel) (by intro _ _ _ _; exact (clause1 Z.cl_InvalidRule_given rfl (.inl rfl) rfl (clause1 Z.cl_InvalidNumber_given rfl (.inl rfl) rfl .nil))) (by intro _ _ _ _; exact pe_lst (pa_cons pe_str pa_nil)) (sut_ok (names := ["InvalidRule", "InvalidNumber"]) Z.gmx__law_refused Z.exm__law_refused (.one Z.cl_InvalidRule_given (by simp) (.one Z.cl_InvalidNumber_given (by simp) .nil))) (by intro σ0 F μ S H Q s g; exact ⟨by show 1 ≤ _; decide, gp_lst g s (.cons (.str _) .nil)⟩))) ra_nil)))
    (rss_one (rs_if (rt_not (rt_val (re_call (g__law_is Z Y) pn__law_is (hr.mono (by decide)) hgu pass_cx (ra_cons (re_var (i := 10)) (ra_cons (RE.frozen (re_bin op_rep oRepL_ok (RE.frozen (re_lst (ra_cons (re_var (i := 9)) ra_nil))) re_int)) ra_nil))))) (rss_one (rs_ret re_bl)) rss_nil))))))))))))))))))))))))))
    (rss_one (rs_ret re_bl)))
theorem g__law_right (Z : Facts P K mg) (Y : FactsT K mg base T) : DefG P w K mg base T 10 "_law_right" (defArgs s__law_right) (defBody s__law_right) (defScope s__law_right) ["well"] false F__law_right := by
  obtain ⟨f, fd, c, P, a, b, hc, TB, hm, hu⟩ := Y.t__law_right
  exact ⟨f, fd, a, b, def_gT a sc__law_right fun cdv A outer s H E e hr hgu => r__law_right Z Y cdv A outer s H E hr hgu ⟨c, P, TB, e.symm.trans hc, hm, hu⟩⟩
theorem r__law_well (Z : Facts P K mg) (Y : FactsT K mg base T) {f : Addr} : ∀ (cdv : Value) (A : Around) (outer : List PySem.Env) (s : Shared) (H : Hp) (E : XK), Room 0 (A.deeper (envOfC "_law_well" (defScope s__law_well) s.heap.objs.size f cdv)) → A.guards = some [] →
    RSs T true (cxOf (L2.CX P w) P w K mg base ["script", "lap", "stirred", "cell", "own"] "_law_well" (defScope s__law_well) f cdv A outer s H E) (fun cls d _ H' => E cls d H') (defBody s__law_well) b__law_well := by
  intro cdv A outer s H E hr hgu
  unfold b__law_well
  exact (rss_cons (rs_set (i := 2) sc__law_well.nd (re_bin op_add4 oAddA_ok re_int (re_bin op_mul oMul_ok re_int (re_var (i := 1)))))
    (rss_cons (rs_for own_cx rfl (ri_seqA (RE.frozen (re_sliceL (re_var (i := 0)) ro_none (ro_some re_int)))) (rg_name (i := 3) sc__law_well.nd) (rss_one (rs_set (i := 2) sc__law_well.nd (re_bin op_modN oMod_ok (re_callTy call_int1 bInt_ok Z.n_int (by decide +kernel) (ra_cons (re_bin op_add4 oAddA_ok (re_bin op_add4 oAddA_ok (re_bin op_mul oMul_ok (re_var (i := 2)) re_int) (re_bin op_modN oMod_ok (re_callTy call_int1 bInt_ok Z.n_int (by decide +kernel) (ra_cons (re_var (i := 3)) ra_nil)) re_int)) re_int) ra_nil)) re_int))))
    (rss_cons (rs_set (i := 4) sc__law_well.nd (re_if (rt_cmp (op_ltA (Room.units0 hr)) oLtA_ok (re_var (i := 1)) (re_callB call_len bLen_ok Z.n_len (by decide +kernel) (ra_cons (re_var (i := 0)) ra_nil)) (nomark _)) (re_callTy call_int1 bInt_ok Z.n_int (by decide +kernel) (ra_cons (re_ix (re_var (i := 0)) (re_var (i := 1)) (fun _ _ => rfl)) ra_nil)) re_int))
    (rss_cons (rs_set (i := 2) sc__law_well.nd (re_bin op_modN oMod_ok (re_callTy call_int1 bInt_ok Z.n_int (by decide +kernel) (ra_cons (re_bin op_add4 oAddA_ok (re_bin op_add4 oAddA_ok (re_bin op_mul oMul_ok (re_var (i := 2)) re_int) (re_bin op_mul oMul_ok (re_bin op_modN oMod_ok (re_callTy call_int1 bInt_ok Z.n_int (by decide +kernel) (ra_cons (re_var (i := 4)) ra_nil)) re_int) re_int)) re_int) ra_nil)) re_int))
    (rss_one (rs_ret (re_lst (ra_cons (re_if (RW.t (rw_or (rt_cmp (op_ltA (Room.units0 hr)) oLtA_ok (re_var (i := 4)) re_int (nomark _)) (rw_or1 (rt_cmp op_ge oGe_ok (re_var (i := 4)) (re_bin op_pow oPow_ok re_int re_int) (nomark _))))) (re_callB call_abs bAbs_ok Z.n_abs (by decide +kernel) (ra_cons (re_var (i := 4)) ra_nil)) re_int) (ra_cons (re_var (i := 2)) (ra_cons re_int ra_nil))))))))))
theorem g__law_well (Z : Facts P K mg) (Y : FactsT K mg base T) : DefG P w K mg base T 1 "_law_well" (defArgs s__law_well) (defBody s__law_well) (defScope s__law_well) ["script", "lap"] true F__law_well := by
  obtain ⟨f, fd, a, b⟩ := Z.d__law_well
  exact ⟨f, fd, a, b, def_g a sc__law_well (r__law_well Z Y)⟩
theorem r_law (Z : Facts P K mg) (Y : FactsT K mg base T) {f : Addr} : ∀ (cdv : Value) (A : Around) (outer : List PySem.Env) (s : Shared) (H : Hp) (E : XK), Room 10 (A.deeper (envOfC "law" (defScope s_law) s.heap.objs.size f cdv)) → A.guards = some [] →
    RSs T false (cxOf (L2.CX P w) P w K mg base ["script", "lap"] "law" (defScope s_law) f cdv A outer s H E) (fun cls d _ H' => E cls d H') (defBody s_law) b_law := by
  intro cdv A outer s H E hr hgu
  unfold b_law
  exact (rss_one (rs_ret (re_callB (cr_all rfl) bAll_ok Z.n_all (by decide +kernel) (ra_cons (RE.frozen (re_comp rfl sc_law.nd (blkOk_by (N := ["script", "lap"]) (sc := (defScope s_law)) (own := [("lap", 1)]) (by decide +kernel)) rfl (by decide) (ri_range1 (ra_cons (re_callB (call_max2 rfl) bMax2_ok Z.n_max (by decide +kernel) (ra_cons re_int (ra_cons (re_callB (call_min2 rfl) bMin2_ok Z.n_min (by decide +kernel) (ra_cons (re_callB call_len bLen_ok Z.n_len (by decide +kernel) (ra_cons (re_var (i := 0)) ra_nil)) (ra_cons re_int ra_nil))) ra_nil))) ra_nil) Z.n_range) (fun _ _ _ _ _ => (rg_name (i := 1) sc_law.nd)) (fun _ _ _ _ _ => rts_nil) (fun _ _ _ _ _ => (RE.scope (re_call (g__law_right Z Y) pn__law_right (hr.mono (by decide)) hgu pass_blk (ra_cons (RE.alloc (re_call (g__law_well Z Y) pn__law_well (hr.mono (by decide)) hgu pass_blk (ra_cons (re_var (i := 0)) (ra_cons (re_var (i := 1)) ra_nil)))) ra_nil)))))) ra_nil))))
theorem g_law (Z : Facts P K mg) (Y : FactsT K mg base T) : DefG P w K mg base T 11 "law" (defArgs s_law) (defBody s_law) (defScope s_law) ["script"] false F_law := by
  obtain ⟨f, fd, a, b⟩ := Z.d_law
  exact ⟨f, fd, a, b, def_g a sc_law (r_law Z Y)⟩
end
end LW
set_option Elab.async false
set_option linter.all false
set_option maxRecDepth 100000
set_option maxHeartbeats 0
namespace LW
open PySem L2 Evl PySem.Spec PyProof.Rows PF
theorem facts_of {K : PySem.W.Frag} {h : Heap} {mg : Str → Option Value} (X : K.In h) (G : h.Ns mainGlobals mg) (c : He.SaysD fas fns K) (cm : exb K = true) : Facts R.prog K mg := by
  refine { n_abs := ?n_abs, n_all := ?n_all, n_bool := ?n_bool, n_divmod := ?n_divmod, n_enumerate := ?n_enumerate, n_int := ?n_int, n_isinstance := ?n_isinstance, n_len := ?n_len, n_list := ?n_list, n_max := ?n_max, n_min := ?n_min, n_range := ?n_range, n_repr := ?n_repr, n_set := ?n_set, n_sorted := ?n_sorted, n_tuple := ?n_tuple, n_zip := ?n_zip, k_MOST_BEGIN := ?k_MOST_BEGIN, k_MOST_FLOOR := ?k_MOST_FLOOR, k_MOST_RATE := ?k_MOST_RATE, k_MOST_STEPS := ?k_MOST_STEPS, k_MOST_TOTAL := ?k_MOST_TOTAL, k_WHOLE := ?k_WHOLE, xr_InvalidNumber_given := ?xr_InvalidNumber_given, xr_InvalidRule_given := ?xr_InvalidRule_given, cl_InvalidNumber_given := ?cl_InvalidNumber_given, cl_InvalidRule_given := ?cl_InvalidRule_given, gmx__law_refused := ?gmx__law_refused, exm__law_refused := ?exm__law_refused, d_is_whole := ?d_is_whole, d_is_number := ?d_is_number, d_check_number := ?d_check_number, d_upper := ?d_upper, d_is_tuple_of := ?d_is_tuple_of, d_is_ascending := ?d_is_ascending, d_step_at := ?d_step_at, d_fee_of := ?d_fee_of, d_net_of := ?d_net_of, d_falls_at := ?d_falls_at, d_parts_at := ?d_parts_at, d_least_with_net := ?d_least_with_net, d_is_step := ?d_is_step, d_is_rule := ?d_is_rule, d_is_level_rule := ?d_is_level_rule, d_check_rule := ?d_check_rule, d_fee := ?d_fee, d_net := ?d_net, d_is_level := ?d_is_level, d_falling_total := ?d_falling_total, d_net_alike := ?d_net_alike, d_parting_total := ?d_parting_total, d_least_total := ?d_least_total, d__law_well := ?d__law_well, d__law_draw := ?d__law_draw, d__law_of := ?d__law_of, d__law_is := ?d__law_is, d__law_fee := ?d__law_fee, d__law_level_rule := ?d__law_level_rule, d__law_rule := ?d__law_rule, d__law_refused := ?d__law_refused, d__law_none := ?d__law_none, d__law_level := ?d__law_level, d__law_right := ?d__law_right, d_law := ?d_law }
  case n_abs => exact He.free_ok X G (c.fact 35 (f := .free "abs") rfl)
  case n_all => exact He.free_ok X G (c.fact 36 (f := .free "all") rfl)
  case n_bool => exact He.free_ok X G (c.fact 37 (f := .free "bool") rfl)
  case n_divmod => exact He.free_ok X G (c.fact 38 (f := .free "divmod") rfl)
  case n_enumerate => exact He.free_ok X G (c.fact 39 (f := .free "enumerate") rfl)
  case n_int => exact He.free_ok X G (c.fact 40 (f := .free "int") rfl)
  case n_isinstance => exact He.free_ok X G (c.fact 41 (f := .free "isinstance") rfl)
  case n_len => exact He.free_ok X G (c.fact 42 (f := .free "len") rfl)
  case n_list => exact He.free_ok X G (c.fact 43 (f := .free "list") rfl)
  case n_max => exact He.free_ok X G (c.fact 44 (f := .free "max") rfl)
  case n_min => exact He.free_ok X G (c.fact 45 (f := .free "min") rfl)
  case n_range => exact He.free_ok X G (c.fact 46 (f := .free "range") rfl)
  case n_repr => exact He.free_ok X G (c.fact 47 (f := .free "repr") rfl)
  case n_set => exact He.free_ok X G (c.fact 48 (f := .free "set") rfl)
  case n_sorted => exact He.free_ok X G (c.fact 49 (f := .free "sorted") rfl)
  case n_tuple => exact He.free_ok X G (c.fact 50 (f := .free "tuple") rfl)
  case n_zip => exact He.free_ok X G (c.fact 51 (f := .free "zip") rfl)
  case k_MOST_BEGIN => exact globInt (He.int_ok X G (c.fact 52 (f := .int "MOST_BEGIN" 1000000) rfl))
  case k_MOST_FLOOR => exact globInt (He.int_ok X G (c.fact 53 (f := .int "MOST_FLOOR" 1000000) rfl))
  case k_MOST_RATE => exact globInt (He.int_ok X G (c.fact 54 (f := .int "MOST_RATE" 1000) rfl))
  case k_MOST_STEPS => exact globInt (He.int_ok X G (c.fact 55 (f := .int "MOST_STEPS" 6) rfl))
  case k_MOST_TOTAL => exact globInt (He.int_ok X G (c.fact 56 (f := .int "MOST_TOTAL" 1000000000) rfl))
  case k_WHOLE => exact globInt (He.int_ok X G (c.fact 57 (f := .int "WHOLE" 1000) rfl))
  case xr_InvalidNumber_given =>
    obtain ⟨fI, hx⟩ := xin_of (exb_at cm 1 rfl)
    exact ⟨_, fI, hx, He.glo_ok X G (c.fact 58 (f := .glo "InvalidNumber") rfl)⟩
  case xr_InvalidRule_given =>
    obtain ⟨fI, hx⟩ := xin_of (exb_at cm 2 rfl)
    exact ⟨_, fI, hx, He.glo_ok X G (c.fact 59 (f := .glo "InvalidRule") rfl)⟩
  case cl_InvalidNumber_given => exact clF_of (He.glo_ok X G (c.fact 58 (f := .glo "InvalidNumber") rfl)) (exb_at cm 3 rfl)
  case cl_InvalidRule_given => exact clF_of (He.glo_ok X G (c.fact 59 (f := .glo "InvalidRule") rfl)) (exb_at cm 4 rfl)
  case gmx__law_refused =>
    intro r hr
    simp only [List.mem_cons, List.not_mem_nil, or_false] at hr
    rcases hr with rfl | rfl
    · exact He.glo_ok X G (c.fact 59 (f := .glo "InvalidRule") rfl)
    · exact He.glo_ok X G (c.fact 58 (f := .glo "InvalidNumber") rfl)
  case exm__law_refused => exact exms_of (exb_at cm 5 rfl)
  case d_is_whole =>
    obtain ⟨fd, FD⟩ := c.def_ 0 (d := df_is_whole) rfl
    exact ⟨_, fd, FD, He.glo_ok X G (c.fact 0 (f := .glo "is_whole") rfl)⟩
  case d_is_number =>
    obtain ⟨fd, FD⟩ := c.def_ 1 (d := df_is_number) rfl
    exact ⟨_, fd, FD, He.glo_ok X G (c.fact 1 (f := .glo "is_number") rfl)⟩
  case d_check_number =>
    obtain ⟨fd, FD⟩ := c.def_ 2 (d := df_check_number) rfl
    exact ⟨_, fd, FD, He.glo_ok X G (c.fact 2 (f := .glo "check_number") rfl)⟩
  case d_upper =>
    obtain ⟨fd, FD⟩ := c.def_ 3 (d := df_upper) rfl
    exact ⟨_, fd, FD, He.glo_ok X G (c.fact 3 (f := .glo "upper") rfl)⟩
  case d_is_tuple_of =>
    obtain ⟨fd, FD⟩ := c.def_ 4 (d := df_is_tuple_of) rfl
    exact ⟨_, fd, FD, He.glo_ok X G (c.fact 4 (f := .glo "is_tuple_of") rfl)⟩
  case d_is_ascending =>
    obtain ⟨fd, FD⟩ := c.def_ 5 (d := df_is_ascending) rfl
    exact ⟨_, fd, FD, He.glo_ok X G (c.fact 5 (f := .glo "is_ascending") rfl)⟩
  case d_step_at =>
    obtain ⟨fd, FD⟩ := c.def_ 6 (d := df_step_at) rfl
    exact ⟨_, fd, FD, He.glo_ok X G (c.fact 6 (f := .glo "step_at") rfl)⟩
  case d_fee_of =>
    obtain ⟨fd, FD⟩ := c.def_ 7 (d := df_fee_of) rfl
    exact ⟨_, fd, FD, He.glo_ok X G (c.fact 7 (f := .glo "fee_of") rfl)⟩
  case d_net_of =>
    obtain ⟨fd, FD⟩ := c.def_ 8 (d := df_net_of) rfl
    exact ⟨_, fd, FD, He.glo_ok X G (c.fact 8 (f := .glo "net_of") rfl)⟩
  case d_falls_at =>
    obtain ⟨fd, FD⟩ := c.def_ 9 (d := df_falls_at) rfl
    exact ⟨_, fd, FD, He.glo_ok X G (c.fact 9 (f := .glo "falls_at") rfl)⟩
  case d_parts_at =>
    obtain ⟨fd, FD⟩ := c.def_ 10 (d := df_parts_at) rfl
    exact ⟨_, fd, FD, He.glo_ok X G (c.fact 10 (f := .glo "parts_at") rfl)⟩
  case d_least_with_net =>
    obtain ⟨fd, FD⟩ := c.def_ 11 (d := df_least_with_net) rfl
    exact ⟨_, fd, FD, He.glo_ok X G (c.fact 11 (f := .glo "least_with_net") rfl)⟩
  case d_is_step =>
    obtain ⟨fd, FD⟩ := c.def_ 12 (d := df_is_step) rfl
    exact ⟨_, fd, FD, He.glo_ok X G (c.fact 12 (f := .glo "is_step") rfl)⟩
  case d_is_rule =>
    obtain ⟨fd, FD⟩ := c.def_ 13 (d := df_is_rule) rfl
    exact ⟨_, fd, FD, He.glo_ok X G (c.fact 13 (f := .glo "is_rule") rfl)⟩
  case d_is_level_rule =>
    obtain ⟨fd, FD⟩ := c.def_ 14 (d := df_is_level_rule) rfl
    exact ⟨_, fd, FD, He.glo_ok X G (c.fact 14 (f := .glo "is_level_rule") rfl)⟩
  case d_check_rule =>
    obtain ⟨fd, FD⟩ := c.def_ 15 (d := df_check_rule) rfl
    exact ⟨_, fd, FD, He.glo_ok X G (c.fact 15 (f := .glo "check_rule") rfl)⟩
  case d_fee =>
    obtain ⟨fd, FD⟩ := c.def_ 16 (d := df_fee) rfl
    exact ⟨_, fd, FD, He.glo_ok X G (c.fact 16 (f := .glo "fee") rfl)⟩
  case d_net =>
    obtain ⟨fd, FD⟩ := c.def_ 17 (d := df_net) rfl
    exact ⟨_, fd, FD, He.glo_ok X G (c.fact 17 (f := .glo "net") rfl)⟩
  case d_is_level =>
    obtain ⟨fd, FD⟩ := c.def_ 18 (d := df_is_level) rfl
    exact ⟨_, fd, FD, He.glo_ok X G (c.fact 18 (f := .glo "is_level") rfl)⟩
  case d_falling_total =>
    obtain ⟨fd, FD⟩ := c.def_ 19 (d := df_falling_total) rfl
    exact ⟨_, fd, FD, He.glo_ok X G (c.fact 19 (f := .glo "falling_total") rfl)⟩
  case d_net_alike =>
    obtain ⟨fd, FD⟩ := c.def_ 20 (d := df_net_alike) rfl
    exact ⟨_, fd, FD, He.glo_ok X G (c.fact 20 (f := .glo "net_alike") rfl)⟩
  case d_parting_total =>
    obtain ⟨fd, FD⟩ := c.def_ 21 (d := df_parting_total) rfl
    exact ⟨_, fd, FD, He.glo_ok X G (c.fact 21 (f := .glo "parting_total") rfl)⟩
  case d_least_total =>
    obtain ⟨fd, FD⟩ := c.def_ 22 (d := df_least_total) rfl
    exact ⟨_, fd, FD, He.glo_ok X G (c.fact 22 (f := .glo "least_total") rfl)⟩
  case d__law_well =>
    obtain ⟨fd, FD⟩ := c.def_ 23 (d := df__law_well) rfl
    exact ⟨_, fd, FD, He.glo_ok X G (c.fact 23 (f := .glo "_law_well") rfl)⟩
  case d__law_draw =>
    obtain ⟨fd, FD⟩ := c.def_ 24 (d := df__law_draw) rfl
    exact ⟨_, fd, FD, He.glo_ok X G (c.fact 24 (f := .glo "_law_draw") rfl)⟩
  case d__law_of =>
    obtain ⟨fd, FD⟩ := c.def_ 25 (d := df__law_of) rfl
    exact ⟨_, fd, FD, He.glo_ok X G (c.fact 25 (f := .glo "_law_of") rfl)⟩
  case d__law_is =>
    obtain ⟨fd, FD⟩ := c.def_ 26 (d := df__law_is) rfl
    exact ⟨_, fd, FD, He.glo_ok X G (c.fact 26 (f := .glo "_law_is") rfl)⟩
  case d__law_fee =>
    obtain ⟨fd, FD⟩ := c.def_ 27 (d := df__law_fee) rfl
    exact ⟨_, fd, FD, He.glo_ok X G (c.fact 27 (f := .glo "_law_fee") rfl)⟩
  case d__law_level_rule =>
    obtain ⟨fd, FD⟩ := c.def_ 28 (d := df__law_level_rule) rfl
    exact ⟨_, fd, FD, He.glo_ok X G (c.fact 28 (f := .glo "_law_level_rule") rfl)⟩
  case d__law_rule =>
    obtain ⟨fd, FD⟩ := c.def_ 29 (d := df__law_rule) rfl
    exact ⟨_, fd, FD, He.glo_ok X G (c.fact 29 (f := .glo "_law_rule") rfl)⟩
  case d__law_refused =>
    obtain ⟨fd, FD⟩ := c.def_ 30 (d := df__law_refused) rfl
    exact ⟨_, fd, FD, He.glo_ok X G (c.fact 30 (f := .glo "_law_refused") rfl)⟩
  case d__law_none =>
    obtain ⟨fd, FD⟩ := c.def_ 31 (d := df__law_none) rfl
    exact ⟨_, fd, FD, He.glo_ok X G (c.fact 31 (f := .glo "_law_none") rfl)⟩
  case d__law_level =>
    obtain ⟨fd, FD⟩ := c.def_ 32 (d := df__law_level) rfl
    exact ⟨_, fd, FD, He.glo_ok X G (c.fact 32 (f := .glo "_law_level") rfl)⟩
  case d__law_right =>
    obtain ⟨fd, FD⟩ := c.def_ 33 (d := df__law_right) rfl
    exact ⟨_, fd, FD, He.glo_ok X G (c.fact 33 (f := .glo "_law_right") rfl)⟩
  case d_law =>
    obtain ⟨fd, FD⟩ := c.def_ 34 (d := df_law) rfl
    exact ⟨_, fd, FD, He.glo_ok X G (c.fact 34 (f := .glo "law") rfl)⟩
theorem factsT_of {K : PySem.W.Frag} {h : Heap} {mg : Str → Option Value} {base : Heap} (X : K.In h) (G : h.Ns mainGlobals mg) (c : He.SaysD fas fns K) (ap : apartL tf K = true) (tb : ∀ p ∈ tf.map (He.cT K), LamX.TabB base mg p.1 p.2) : FactsT K mg base (tabsL tf K) := by
  refine { t__law_right := ?t__law_right }
  case t__law_right =>
    obtain ⟨fd, FD⟩ := c.def_ 33 (d := df__law_right) rfl
    exact makes ("_law_right", none) ap (by decide) tb FD (He.glo_ok X G (c.fact 33 (f := .glo "_law_right") rfl))
theorem main_ (end_ : ∀ ns : List Int, ns.length ≤ 63 → F_law [.fz (ns.map D.int)] [] = some (.ok (.bl true), [])) : PySem.Challenge.rw_pledgehall_k05_fees_refused.Holds := by
  open PySem.W in
  w_on; o_law
  refine HandSHeadRun.head_any (r := PySem.W.OpenLaw.row PySem.Challenge.rw_pledgehall_k05_fees_refused) (q := PySem.W.view (PySem.W.OpenLaw.row PySem.Challenge.rw_pledgehall_k05_fees_refused).prog [48]) (H := hk) (ob := obs) (M := 100000) (loose := loose) (d := HandSHeadRun.topDef (PySem.W.OpenLaw.row PySem.Challenge.rw_pledgehall_k05_fees_refused).prog 48) (kwd := []) obs_eq
    (by kernel_rfl) (fun s => by kernel_rfl) run (by kernel_rfl) (by kernel_rfl) (by kernel_rfl) (by rfl) (by first | assumption | decide +kernel) (by decide +kernel) ⟨rfl, rfl, rfl, rfl, rfl, by decide +kernel⟩ ?hw ?hc
  case hw => w_witness2
  case hc =>
    refine walk_pfT (l := PySem.Challenge.rw_pledgehall_k05_fees_refused) (k := 11) (x := "script") (o := F_law) rfl (by kernel_rfl) ⟨rfl, by decide, by decide⟩ end_ ?F
    intro w mg fa h Y G hmg0
    obtain ⟨K, KX, c⟩ := Y
    have hmg : mg ("law" : PySem.Str) = some (.ref fa) := by
      have e : (HandSHeadRun.topDef (PySem.W.OpenLaw.row PySem.Challenge.rw_pledgehall_k05_fees_refused).prog 48).name = ("law" : PySem.Str) := by kernel_rfl
      rw [← e]
      exact hmg0
    have Z := facts_of KX G c.t.d c.more
    obtain ⟨f, fd, FD, hf⟩ := Z.d_law
    have e := hmg.symm.trans hf
    cases e
    refine ⟨K, fd, tf.map (He.cT K), tabsL tf K, KX, fun p hp => ?_, fun p hp => ?_, fun p hp => ?_, fun t ht => ?_, fun s u => FunD.bindsA (ps := ["script"]) FD pn_law s [u] rfl, fun base kb gb tb => ?_⟩
    · obtain ⟨q, hq, rfl⟩ := List.mem_map.mp hp
      exact c.empty q hq
    · obtain ⟨q, hq, rfl⟩ := List.mem_map.mp hp
      exact c.out q hq
    · obtain ⟨q, hq, rfl⟩ := List.mem_map.mp hp
      exact PySem.W.codeHd_of_K KX (c.hd q hq)
    · obtain ⟨q, hq, rfl⟩ := List.mem_map.mp ht
      exact ⟨_, List.mem_map.mpr ⟨q, hq, rfl⟩, rfl⟩
    exact def_g FD sc_law (r_law Z (factsT_of KX G c.t.d (exb_at c.more 0 rfl) tb))
end LW
set_option Elab.async false
set_option linter.all false
set_option maxRecDepth 100000
set_option maxHeartbeats 4000000
/-! PF9: the plain reckoning of outcomes. -/
namespace PF
open PySem L2 Evl PySem.Spec PyProof.Rows
/-- an outcome: a value with Q, or an exception with E -/
def Pst {α : Type} (r : Out α) (Q : α → Store → Prop) (E : XV → Store → Prop) : Prop := match r with
  | none => False
  | some (.ok a, S) => Q a S
  | some (.error x, S) => E x S
abbrev NoE : XV → Store → Prop := fun _ _ => False
section
variable {α β : Type} {Q : α → Store → Prop} {E : XV → Store → Prop} {S : Store}
theorem Pst_congr {r r' : Out α} (h : r = r') : Pst r Q E = Pst r' Q E := by rw [h]
@[simp] theorem Pst_ok {a : α} : Pst (some (.ok a, S)) Q E = Q a S := rfl
@[simp] theorem Pst_err {x : XV} : Pst (some (.error x, S)) Q E = E x S := rfl
@[simp] theorem Pst_none : Pst none Q E = False := rfl
@[simp] theorem Pst_bind {r : Out β} {k : β → Store → Out α} : Pst (bindO r k) Q E = Pst r (fun a S => Pst (k a S) Q E) E := by
  unfold bindO
  split <;> rfl
@[simp] theorem Pst_stm {r : Out β} {k : β → Store → Out Fl} {ρ : PF.Env} {Q : Fl → Store → Prop} : Pst (stm ρ r k) Q E = Pst r (fun a S => Pst (k a S) Q E) (fun x S => Q (.exc x ρ) S) := by
  unfold stm
  split <;> rfl
@[simp] theorem Pst_noX {r : Out α} : Pst (noX r) Q E = Pst r Q NoE := by
  unfold noX
  split
  · rfl
  · rename_i h
    match r with
    | none => rfl
    | some (.ok a, S) => rfl
    | some (.error x, S) => exact absurd rfl (h x S)
@[simp] theorem Pst_exit {fr : Bool} {n : Nat} {r : Out Fl} {Q : D → Store → Prop} : Pst (exitF fr n r) Q E = Pst r (fun fl S => Pst (exitF fr n (some (.ok fl, S))) Q E) NoE := by
  match r with
  | none => rfl
  | some (.ok a, S) => rfl
  | some (.error x, S) => rfl
@[simp] theorem Pst_ite {c : Prop} [Decidable c] {r : Out α} : Pst (if c then r else none) Q E = (c ∧ Pst r Q E) := by
  split <;> simp_all
theorem Pst.mono {r : Out α} {Q0 : α → Store → Prop} {E0 : XV → Store → Prop} (h : Pst r Q0 E0) (hq : ∀ a S, Q0 a S → Q a S) (he : ∀ x S, E0 x S → E x S) : Pst r Q E := by
  match r, h with
  | some (.ok a, S), h => exact hq _ _ h
  | some (.error x, S), h => exact he _ _ h
theorem Pst.imp {r : Out α} {Q0 : α → Store → Prop} (h : Pst r Q0 NoE) (hq : ∀ a S, Q0 a S → Q a S) : Pst r Q E := h.mono hq fun _ _ h => h.elim
theorem Pst.eq {r : Out α} {a : α} : Pst r (fun x S' => x = a ∧ S' = S) NoE ↔ r = some (.ok a, S) := by
  match r with
  | none => exact ⟨fun h => h.elim, fun h => by cases h⟩
  | some (.ok a, S) => exact ⟨fun h => by obtain ⟨rfl, rfl⟩ := h; rfl, fun h => by cases h; exact ⟨rfl, rfl⟩⟩
  | some (.error x, S) => exact ⟨fun h => h.elim, fun h => by cases h⟩
end
theorem bindO_congr {α β : Type} {r r' : Out α} {k : α → Store → Out β} (h : r = r') : bindO r k = bindO r' k := by rw [h]
theorem stm_congr {α : Type} {ρ : PF.Env} {r r' : Out α} {k : α → Store → Out Fl} (h : r = r') : stm ρ r k = stm ρ r' k := by rw [h]
@[simp] theorem noX_ok {α : Type} {a : α} {S : Store} : noX (some (.ok a, S)) = some (.ok a, S) := rfl
/-! ### by letters -/
section
variable {ρ : PF.Env} {S : Store}
@[simp] theorem ap_var {i : Nat} : cVar i ρ S = (match ρ[i]? with | some (some d) => some (.ok d, S) | _ => none) := rfl
@[simp] theorem ap_k {d : D} : cK d ρ S = some (.ok d, S) := rfl
@[simp] theorem ap_bin {o : Op2} {a b : EX} : cBin o a b ρ S = bindO (a ρ S) fun x S => bindO (b ρ S) fun y S => o x y S := rfl
@[simp] theorem ap_un {o : D → Store → Out D} {a : EX} : cUn o a ρ S = bindO (a ρ S) fun x S => o x S := rfl
@[simp] theorem ap_nil : aNil ρ S = some (.ok [], S) := rfl
@[simp] theorem ap_cons {a : EX} {r : AX} : aCons a r ρ S = bindO (a ρ S) fun x S => bindO (r ρ S) fun xs S => some (.ok (x :: xs), S) := rfl
@[simp] theorem ap_tup {r : AX} : cTup r ρ S = bindO (r ρ S) fun xs S => if xs.length ≤ lim then some (.ok (.tup xs), S) else none := rfl
@[simp] theorem ap_lst {r : AX} : cLst r ρ S = bindO (r ρ S) fun xs S => if xs.length ≤ lim then some (.ok (.lst xs), S) else none := rfl
@[simp] theorem ap_blt {o : OpB} {r : AX} : cBlt o r ρ S = bindO (r ρ S) fun ds S => o ds S := rfl
@[simp] theorem ap_call {n : Nat} {o : OpB} {r : AX} : cCall n o r ρ S = bindO (r ρ S) fun ds S => if ds.length = n then o ds S else none := rfl
@[simp] theorem ap_callK {n m : Nat} {g : List D → List D → List D} {o : OpB} {r rk : AX} : cCallK n m g o r rk ρ S = bindO (r ρ S) fun ds S => bindO (rk ρ S) fun es S => if ds.length = n ∧ es.length = m then o (g ds es) S else none := rfl
@[simp] theorem ap_mt {o : OpM} {a : EX} {r : AX} : cMt o a r ρ S = bindO (a ρ S) fun d S => match d with
  | .loc n => bindO (r ρ S) fun ds S => o (.loc n) ds S
  | _ => none := rfl
@[simp] theorem ap_isi {t : Ty} {a : EX} : cIsi t a ρ S = bindO (a ρ S) fun x S => if x.isFn = false then some (.ok (.bl (isTy x t)), S) else none := rfl
@[simp] theorem ap_slice {a : EX} {lo hi : OX} : cSliceA a lo hi ρ S = bindO (a ρ S) fun x S => bindO (lo ρ S) fun l S => bindO (hi ρ S) fun h S => match x with
  | .tup xs => some (.ok (.tup (cutL xs l h)), S)
  | .str z => if z.length ≤ lim then some (.ok (.str (cutS z l h)), S) else none
  | d => (match asL d S with
    | some xs => some (.ok (.lst (cutL xs l h)), S)
    | none => none) := rfl
@[simp] theorem ap_sliceL {a : EX} {lo hi : OX} : cSliceL a lo hi ρ S = bindO (a ρ S) fun x S => bindO (lo ρ S) fun l S => bindO (hi ρ S) fun h S => match asL x S with
  | some xs => some (.ok (.lst (cutL xs l h)), S)
  | none => none := rfl
@[simp] theorem ap_no : cNo ρ S = some (.ok none, S) := rfl
@[simp] theorem ap_part {c : EX} : cPart c ρ S = bindO (c ρ S) fun d S => match d with
  | .int i => some (.ok (some i), S)
  | _ => none := rfl
@[simp] theorem ap_alloc {c : EX} : cAlloc c ρ S = bindO (c ρ S) fun d S => match d with
  | .lst ds => if D.pures ds = true then some (.ok (.loc S.length), S ++ [ds]) else none
  | _ => none := rfl
variable {Q : D → Store → Prop} {E : XV → Store → Prop} {QB : Bool → Store → Prop} {QF : Fl → Store → Prop}
@[simp] theorem ap_test {c : EX} : Pst (cTest c ρ S) QB E = Pst (c ρ S) (fun d S => match d with
  | .bl b => QB b S
  | _ => False) E := by
  unfold cTest
  rw [Pst_bind]
  congr 1
  funext d S
  cases d <;> rfl
@[simp] theorem ap_band {a b : BX} : Pst (bAnd a b ρ S) QB E = Pst (a ρ S) (fun x S => (x = true → Pst (b ρ S) QB E) ∧ (x = false → QB false S)) E := by
  unfold bAnd
  rw [Pst_bind]
  congr 1
  funext d S
  cases d <;> simp
@[simp] theorem ap_bor {a b : BX} : Pst (bOr a b ρ S) QB E = Pst (a ρ S) (fun x S => (x = false → Pst (b ρ S) QB E) ∧ (x = true → QB true S)) E := by
  unfold bOr
  rw [Pst_bind]
  congr 1
  funext d S
  cases d <;> simp
@[simp] theorem ap_bnot {a : BX} : Pst (bNot a ρ S) QB E = Pst (a ρ S) (fun x S => QB (!x) S) E := by
  unfold bNot
  rw [Pst_bind]
  rfl
@[simp] theorem ap_byes : bYes ρ S = some (.ok true, S) := rfl
@[simp] theorem ap_and {a b : EX} : Pst (cAnd a b ρ S) Q E = Pst (a ρ S) (fun x S => match x with
  | .bl x => (x = true → Pst (b ρ S) Q E) ∧ (x = false → Q (.bl false) S)
  | _ => False) E := by
  unfold cAnd
  rw [Pst_bind]
  congr 1
  funext d S
  cases d <;> try rfl
  rename_i b
  cases b <;> simp
@[simp] theorem ap_or {a b : EX} : Pst (cOr a b ρ S) Q E = Pst (a ρ S) (fun x S => match x with
  | .bl x => (x = false → Pst (b ρ S) Q E) ∧ (x = true → Q (.bl true) S)
  | _ => False) E := by
  unfold cOr
  rw [Pst_bind]
  congr 1
  funext d S
  cases d <;> try rfl
  rename_i b
  cases b <;> simp
@[simp] theorem ap_not {a : EX} : Pst (cNot a ρ S) Q E = Pst (a ρ S) (fun x S => match x with
  | .bl x => Q (.bl (!x)) S
  | _ => False) E := by
  unfold cNot
  rw [Pst_bind]
  congr 1
  funext d S
  cases d <;> rfl
@[simp] theorem ap_ife {c : BX} {a b : EX} : Pst (cIfE c a b ρ S) Q E = Pst (c ρ S) (fun x S => (x = true → Pst (a ρ S) Q E) ∧ (x = false → Pst (b ρ S) Q E)) E := by
  unfold cIfE
  rw [Pst_bind]
  congr 1
  funext d S
  cases d <;> simp
@[simp] theorem ap_chain {o o' : Op2} {a b c : EX} : Pst (cChain o o' a b c ρ S) Q E = Pst (a ρ S) (fun x S => Pst (b ρ S) (fun y S => Pst (o x y S) (fun z S => match z with
  | .bl z => (z = true → Pst (c ρ S) (fun w S => Pst (o' y w S) Q E) E) ∧ (z = false → Q (.bl false) S)
  | _ => False) E) E) E := by
  unfold cChain
  simp only [Pst_bind]
  congr 1
  funext x S
  congr 1
  funext y S
  congr 1
  funext z S
  cases z <;> try rfl
  rename_i b
  cases b <;> simp
/-! statements -/
@[simp] theorem st_nil : sNil ρ S = some (.ok (.nx ρ), S) := rfl
@[simp] theorem st_brk : sBrk ρ S = some (.ok (.brk ρ), S) := rfl
@[simp] theorem st_ct : sCt ρ S = some (.ok (.ct ρ), S) := rfl
@[simp] theorem st_ret {c : EX} : sRet c ρ S = stm ρ (c ρ S) fun d S => some (.ok (.ret d), S) := rfl
@[simp] theorem st_retL {c : EX} : sRetL c ρ S = stm ρ (c ρ S) fun d S => match d with
  | .loc n => some (.ok (.ret (.loc n)), S)
  | _ => none := rfl
@[simp] theorem st_expr {c : EX} : sExpr c ρ S = stm ρ (c ρ S) fun _ S => some (.ok (.nx ρ), S) := rfl
@[simp] theorem st_set {i : Nat} {c : EX} : sSet i c ρ S = stm ρ (c ρ S) fun d S => some (.ok (.nx (ρ.set i (some d))), S) := rfl
@[simp] theorem st_par {i j : Nat} {r : AX} : sPar i j r ρ S = stm ρ (r ρ S) fun ds S => match ds with
  | [x, y] => some (.ok (.nx ((ρ.set i (some x)).set j (some y))), S)
  | _ => none := rfl
@[simp] theorem st_asg {t : TX} {c : EX} : sAsg t c ρ S = stm ρ (c ρ S) fun d S => bindO (noX (t d ρ S)) fun ρ' S => some (.ok (.nx ρ'), S) := rfl
@[simp] theorem st_stuck : sStuck ρ S = none := rfl
@[simp] theorem tg_name {i : Nat} {d : D} : tName i d ρ S = some (.ok (ρ.set i (some d)), S) := rfl
@[simp] theorem tg_tup {n : Nat} {c : TXs} {ds : List D} : tTup n c (.tup ds) ρ S = if ds.length = n then c ds ρ S else none := rfl
@[simp] theorem tg_nil : tsNil [] ρ S = some (.ok ρ, S) := rfl
@[simp] theorem tg_cons {t : TX} {r : TXs} {d : D} {ds : List D} : tsCons t r (d :: ds) ρ S = bindO (t d ρ S) fun ρ1 S => r ds ρ1 S := rfl
@[simp] theorem tg_sub {a b : EX} {d : D} : tSub a b d ρ S = bindO (noX (a ρ S)) fun o S => bindO (noX (b ρ S)) fun i S => match o, i with
  | .loc n, .int k => (match S[n]? with
    | some ds => (match ixN ds.length k with
      | some j => if d.pure = true then some (.ok ρ, S.set n (ds.set j d)) else none
      | none => none)
    | none => none)
  | _, _ => none := rfl
@[simp] theorem st_seq {a b : SX} : Pst (sSeq a b ρ S) QF E = Pst (a ρ S) (fun fl S => match fl with
  | .nx ρ' => Pst (b ρ' S) QF E
  | fl => QF fl S) E := by
  unfold sSeq
  rw [Pst_bind]
  congr 1
  funext d S
  cases d <;> rfl
@[simp] theorem st_if {c : BX} {a b : SX} : Pst (sIf c a b ρ S) QF E = Pst (c ρ S) (fun x S => (x = true → Pst (a ρ S) QF E) ∧ (x = false → Pst (b ρ S) QF E)) (fun x S => QF (.exc x ρ) S) := by
  unfold sIf
  rw [Pst_stm]
  congr 1
  funext d S
  cases d <;> simp
end
/-! ### operators on letters -/
section
variable {S : Store}
@[simp] theorem o_sub {i j : Int} : oSub (.int i) (.int j) S = some (.ok (.int (i - j)), S) := rfl
@[simp] theorem o_add {i j : Int} : oAddA (.int i) (.int j) S = some (.ok (.int (i + j)), S) := rfl
@[simp] theorem o_mul {i j : Int} : oMul (.int i) (.int j) S = if i.natAbs < 18446744073709551616 ∨ j.natAbs < 18446744073709551616 then some (.ok (.int (i * j)), S) else none := by
  simp [oMul, oI]
@[simp] theorem o_div {i j : Int} : oDiv (.int i) (.int j) S = if j ≠ 0 ∧ j.natAbs < 1073741824 then some (.ok (.int (i.fdiv j)), S) else none := by
  simp [oDiv, oI]
@[simp] theorem o_mod {i j : Int} : oMod (.int i) (.int j) S = if j ≠ 0 then some (.ok (.int (i.fmod j)), S) else none := by
  simp [oMod, oI]
@[simp] theorem o_pow {i j : Int} : oPow (.int i) (.int j) S = if 0 ≤ j ∧ j ≤ 1000 ∧ i.natAbs < 18446744073709551616 then some (.ok (.int (i ^ j.toNat)), S) else none := by
  simp [oPow, oI]
@[simp] theorem o_lt {i j : Int} : oLtA (.int i) (.int j) S = some (.ok (.bl (decide (i < j))), S) := rfl
@[simp] theorem o_le {i j : Int} : oLe (.int i) (.int j) S = some (.ok (.bl (decide (i ≤ j))), S) := rfl
@[simp] theorem o_gt {i j : Int} : oGt (.int i) (.int j) S = some (.ok (.bl (decide (j < i))), S) := rfl
@[simp] theorem o_ge {i j : Int} : oGe (.int i) (.int j) S = some (.ok (.bl (decide (j ≤ i))), S) := rfl
@[simp] theorem o_neg {i : Int} : oNeg (.int i) S = some (.ok (.int (-i)), S) := rfl
@[simp] theorem o_eq {i j : Int} : oEq (.int i) (.int j) S = some (.ok (.bl (i == j)), S) := by
  simp [oEq, told, eqOk, D.pure, D.eqv, D.py, SeqAt.shaped, PyData.canLay0, PyData.depth]
@[simp] theorem o_ne {i j : Int} : oNe (.int i) (.int j) S = some (.ok (.bl (!(i == j))), S) := by
  simp [oNe, told, eqOk, D.pure, D.eqv, D.py, SeqAt.shaped, PyData.canLay0, PyData.depth]
@[simp] theorem o_addT {xs ys : List D} : oAddA (.tup xs) (.tup ys) S = if xs.length + ys.length ≤ lim then some (.ok (.tup (xs ++ ys)), S) else none := by
  simp only [oAddA, oAdd]
  split
  · rename_i h
    split at h
    · cases h; simp [*]
    · cases h
  · rename_i h
    split at h
    · cases h
    · simp [oCat, asM, *]
@[simp] theorem o_addL {xs ys : List D} : oAddA (.lst xs) (.lst ys) S = if xs.length + ys.length ≤ lim then some (.ok (.lst (xs ++ ys)), S) else none := rfl
@[simp] theorem o_ixT {xs : List D} {i : Int} : oIx (.tup xs) (.int i) S = (match atI xs i with
  | some d => some (.ok d, S)
  | none => none) := rfl
@[simp] theorem o_ixL {xs : List D} {i : Int} : oIx (.lst xs) (.int i) S = (match atI xs i with
  | some d => some (.ok d, S)
  | none => none) := rfl
@[simp] theorem o_ixF {xs : List D} {i : Int} : oIx (.fz xs) (.int i) S = (match atI xs i with
  | some d => some (.ok d, S)
  | none => none) := rfl
@[simp] theorem o_ixC {n : Nat} {i : Int} : oIx (.loc n) (.int i) S = (match S[n]? with
  | some ds => (match atI ds i with
    | some d => some (.ok d, S)
    | none => none)
  | none => none) := by
  first | (simp only [oIx, asS, asL]; done) | (simp only [oIx, asS, asL]; rfl)
end
/-! ### built-ins on letters -/
section
variable {S : Store}
@[simp] theorem b_lenT {xs : List D} : bLen [.tup xs] S = some (.ok (.int xs.length), S) := rfl
@[simp] theorem b_lenL {xs : List D} : bLen [.lst xs] S = some (.ok (.int xs.length), S) := rfl
@[simp] theorem b_lenF {xs : List D} : bLen [.fz xs] S = some (.ok (.int xs.length), S) := rfl
@[simp] theorem b_lenC {n : Nat} : bLen [.loc n] S = (match S[n]? with
    | some xs => some (.ok (.int xs.length), S)
    | none => none) := rfl
@[simp] theorem b_abs {i : Int} : bAbs [.int i] S = some (.ok (.int (if i < 0 then -i else i)), S) := rfl
@[simp] theorem b_int {i : Int} : bInt [.int i] S = some (.ok (.int i), S) := rfl
@[simp] theorem b_min2 {i j : Int} : bMin2 [.int i, .int j] S = some (.ok (.int (if j < i then j else i)), S) := rfl
@[simp] theorem b_max2 {i j : Int} : bMax2 [.int i, .int j] S = some (.ok (.int (if i < j then j else i)), S) := rfl
@[simp] theorem b_tupleL {xs : List D} : bTuple [.lst xs] S = some (.ok (.tup xs), S) := rfl
@[simp] theorem b_tupleT {xs : List D} : bTuple [.tup xs] S = some (.ok (.tup xs), S) := rfl
@[simp] theorem b_tupleC {n : Nat} : bTuple [.loc n] S = (match S[n]? with
    | some xs => some (.ok (.tup xs), S)
    | none => none) := rfl
@[simp] theorem b_listT {xs : List D} : bList [.tup xs] S = some (.ok (.lst xs), S) := rfl
theorem intsOf_map {ns : List Int} : intsOf (ns.map D.int) = some ns := by
  induction ns with
  | nil => rfl
  | cons n ns ih => simp [intsOf, ih]
theorem blsOf_map {ns : List Bool} : blsOf (ns.map D.bl) = some ns := by
  induction ns with
  | nil => rfl
  | cons n ns ih => simp [blsOf, ih]
theorem b_all {ns : List Bool} : bAll [.lst (ns.map D.bl)] S = some (.ok (.bl (ns.all id)), S) := by
  simp [bAll, bL1, asL, blsOf_map]
theorem b_any {ns : List Bool} : bAny [.lst (ns.map D.bl)] S = some (.ok (.bl (ns.any id)), S) := by
  simp [bAny, bL1, asL, blsOf_map]
theorem b_sorted {ns : List Int} : bSorted [.lst (ns.map D.int)] S = some (.ok (.lst ((sortI ns).map D.int)), S) := by
  simp [bSorted, bL1, asL, intsOf_map]
theorem b_sum {ns : List Int} : bSum [.lst (ns.map D.int)] S = some (.ok (.int ns.sum), S) := by
  simp [bSum, bL1, asL, intsOf_map]
@[simp] theorem b_divmod {i j : Int} : bDivmod [.int i, .int j] S = if 0 < j ∧ j < 1073741824 then some (.ok (.tup [.int (i / j), .int (i % j)]), S) else none := rfl
@[simp] theorem m_append {n : Nat} {x : D} : mAppend (.loc n) [x] S = (match S[n]? with
    | some xs => if x.pure = true ∧ xs.length < lim then some (.ok .non, S.set n (xs ++ [x])) else none
    | none => none) := rfl
@[simp] theorem is_nonN {S : Store} : oIsN .non .non S = some (.ok (.bl true), S) := rfl
@[simp] theorem is_nonI {i : Int} : oIsN (.int i) .non S = some (.ok (.bl false), S) := rfl
@[simp] theorem not_nonN {S : Store} : oNotN .non .non S = some (.ok (.bl false), S) := rfl
@[simp] theorem not_nonI {i : Int} : oNotN (.int i) .non S = some (.ok (.bl true), S) := rfl
@[simp] theorem is_nonT {xs : List D} : oIsN (.tup xs) .non S = some (.ok (.bl false), S) := rfl
@[simp] theorem not_nonT {xs : List D} : oNotN (.tup xs) .non S = some (.ok (.bl true), S) := rfl
end
/-! ### a call's end -/
section
variable {fr : Bool} {n0 : Nat} {S : Store} {ρ : PF.Env}
theorem call_pst {n : Nat} {b : SX} {ds : List D} {Q : D → Store → Prop} {E : XV → Store → Prop} : Pst (callF fr n b ds S) Q E = Pst (b (startE n ds) S) (fun fl S1 => Pst (exitF fr S.length (some (.ok fl, S1))) Q E) NoE := by
  unfold callF
  rw [Pst_exit]
@[simp] theorem exit_nx : exitF false n0 (some (.ok (.nx ρ), S)) = some (.ok .non, S.take n0) := rfl
@[simp] theorem exit_int {i : Int} : exitF fr n0 (some (.ok (.ret (.int i)), S)) = some (.ok (.int i), S.take n0) := rfl
@[simp] theorem exit_bl {i : Bool} : exitF fr n0 (some (.ok (.ret (.bl i)), S)) = some (.ok (.bl i), S.take n0) := rfl
@[simp] theorem exit_non : exitF fr n0 (some (.ok (.ret .non), S)) = some (.ok .non, S.take n0) := rfl
@[simp] theorem exit_str {i : Str} : exitF fr n0 (some (.ok (.ret (.str i)), S)) = some (.ok (.str i), S.take n0) := rfl
@[simp] theorem exit_tup {ds : List D} : exitF fr n0 (some (.ok (.ret (.tup ds)), S)) = if D.pures ds = true then some (.ok (.tup ds), S.take n0) else none := rfl
@[simp] theorem exit_lst {ds : List D} : exitF fr n0 (some (.ok (.ret (.lst ds)), S)) = if D.pures ds = true then some (.ok (.lst ds), S.take n0) else none := rfl
@[simp] theorem exit_tpn {ds : List D} : exitF fr n0 (some (.ok (.ret (.tpn ds)), S)) = if D.pures ds = true then some (.ok (.tpn ds), S.take n0) else none := rfl
theorem exit_pure {d : D} (h : d.pure = true) : exitF fr n0 (some (.ok (.ret d), S)) = some (.ok d, S.take n0) := by
  cases d <;> simp_all [D.pure] <;> first | rfl | skip
theorem exit_loc {n : Nat} {ds : List D} (h : n0 ≤ n) (e : S[n]? = some ds) : exitF fr n0 (some (.ok (.ret (.loc n)), S)) = some (.ok (.lst ds), S.take n0) := by
  simp only [exitF, exitD, if_neg (Nat.not_lt.mpr h), e]
end
/-! ### loops -/
section
variable {QF : Fl → Store → Prop} {E : XV → Store → Prop} {Q : D → Store → Prop} {ρ : PF.Env} {S : Store}
@[simp] theorem st_for {src : IX} {t : TX} {b : SX} : Pst (sFor src t b ρ S) QF E = Pst (src ρ S) (fun src S => match srcAt src S with
  | some ds => Pst (forGo src t b ds.length 0 ρ S) QF E
  | none => False) (fun x S => QF (.exc x ρ) S) := by
  unfold sFor
  rw [Pst_stm]
  congr 1
  funext src S
  cases srcAt src S <;> rfl
theorem for_inv {src : Src} {t : TX} {b : SX} {ds : List D} (I : Nat → PF.Env → Store → Prop) (hs : ∀ i ρ S, I i ρ S → srcAt src S = some ds)
    (step : ∀ i d ρ S, ds[i]? = some d → I i ρ S → Pst (t d ρ S) (fun ρ1 S => Pst (b ρ1 S) (fun fl S => match fl with
      | .nx ρ' => I (i + 1) ρ' S
      | .ct ρ' => I (i + 1) ρ' S
      | .brk ρ' => QF (.nx ρ') S
      | fl => QF fl S) E) NoE) (fin : ∀ ρ S, I ds.length ρ S → QF (.nx ρ) S) :
    ∀ (k i : Nat) (ρ : PF.Env) (S : Store), k + i = ds.length → I i ρ S → Pst (forGo src t b k i ρ S) QF E
  | 0, i, ρ, S, hk, hi => by
    have hi' : i = ds.length := by omega
    subst hi'
    simp only [forGo, hs _ _ _ hi, Nat.le_refl, if_true]
    exact fin _ _ hi
  | k + 1, i, ρ, S, hk, hi => by
    have h1 : i < ds.length := by omega
    have h2 : ds[i]? = some ds[i] := List.getElem?_eq_getElem h1
    simp only [forGo, hs _ _ _ hi, h2, Pst_bind, Pst_noX]
    refine (step i _ ρ S h2 hi).mono (fun ρ1 S1 h => h.mono (fun fl S2 h => ?_) fun _ _ h => h) fun _ _ h => h
    match fl, h with
    | .nx ρ', h => exact for_inv I hs step fin k (i + 1) ρ' S2 (by omega) h
    | .ct ρ', h => exact for_inv I hs step fin k (i + 1) ρ' S2 (by omega) h
    | .brk ρ', h => exact h
    | .ret d, h => exact h
    | .exc x ρ', h => exact h
theorem for_of {src : Src} {t : TX} {b : SX} {ds : List D} (I : Nat → PF.Env → Store → Prop) (h0 : I 0 ρ S) (hs : ∀ i ρ S, I i ρ S → srcAt src S = some ds)
    (step : ∀ i d ρ S, ds[i]? = some d → I i ρ S → Pst (t d ρ S) (fun ρ1 S => Pst (b ρ1 S) (fun fl S => match fl with
      | .nx ρ' => I (i + 1) ρ' S
      | .ct ρ' => I (i + 1) ρ' S
      | .brk ρ' => QF (.nx ρ') S
      | fl => QF fl S) E) NoE) (fin : ∀ ρ S, I ds.length ρ S → QF (.nx ρ) S) : Pst (forGo src t b ds.length 0 ρ S) QF E :=
  for_inv I hs step fin ds.length 0 ρ S rfl h0
/-- a while: I k with k turns left at most -/
theorem while_inv {c : BX} {b : SX} (I : Nat → PF.Env → Store → Prop)
    (step : ∀ k ρ S, I k ρ S → Pst (c ρ S) (fun x S => (x = true → ∃ k', k = k' + 1 ∧ Pst (b ρ S) (fun fl S => match fl with
      | .nx ρ' => I k' ρ' S
      | .ct ρ' => I k' ρ' S
      | .brk ρ' => QF (.nx ρ') S
      | fl => QF fl S) E) ∧ (x = false → QF (.nx ρ) S)) (fun x S => QF (.exc x ρ) S)) :
    ∀ (m k : Nat) (ρ : PF.Env) (S : Store), k < m → I k ρ S → Pst (sWhile m c b ρ S) QF E
  | 0, k, ρ, S, hk, hi => absurd hk (Nat.not_lt_zero _)
  | m + 1, k, ρ, S, hk, hi => by
    have h := step k ρ S hi
    show Pst (whileGo c b (m + 1) ρ S) QF E
    unfold whileGo
    rw [Pst_stm]
    refine h.mono (fun x S1 h => ?_) fun _ _ h => h
    cases x with
    | false => exact h.2 rfl
    | true =>
      obtain ⟨k', hk', h2⟩ := h.1 rfl
      subst hk'
      show Pst (bindO (b ρ S1) _) QF E
      rw [Pst_bind]
      refine h2.mono (fun fl S2 h => ?_) fun _ _ h => h
      cases fl with
      | nx ρ' => exact while_inv I step m k' ρ' S2 (by omega) h
      | ct ρ' => exact while_inv I step m k' ρ' S2 (by omega) h
      | brk ρ' => exact h
      | ret d => exact h
      | exc x ρ' => exact h
@[simp] theorem src_items {ds : List D} : srcAt (.items ds) S = some ds := rfl
@[simp] theorem src_cell {n : Nat} : srcAt (.cell n) S = S[n]? := rfl
@[simp] theorem sq_tup {c : EX} : cSeqA c ρ S = bindO (c ρ S) fun d S => match srcOfA d with
  | some src => some (.ok src, S)
  | none => none := rfl
@[simp] theorem sq_range {c : AX} : cRange1 c ρ S = bindO (c ρ S) fun ds S => match ds with
  | [.int n] => if n < 1000000000 ∧ -1000000000 < n then some (.ok (.items (ranged 0 n.toNat)), S) else none
  | _ => none := rfl
@[simp] theorem sq_range2 {c : AX} : cRange2 c ρ S = bindO (c ρ S) fun ds S => match ds with
  | [.int m, .int n] => if (n < 1000000000 ∧ -1000000000 < n) ∧ (m < 1000000000 ∧ -1000000000 < m) then some (.ok (.items (ranged m (n - m).toNat)), S) else none
  | _ => none := rfl
@[simp] theorem sq_ofT {ds : List D} : srcOfA (.tup ds) = some (.items ds) := rfl
@[simp] theorem sq_ofL {ds : List D} : srcOfA (.lst ds) = some (.items ds) := rfl
@[simp] theorem sq_ofF {ds : List D} : srcOfA (.fz ds) = some (.items ds) := rfl
@[simp] theorem sq_ofC {n : Nat} : srcOfA (.loc n) = some (.cell n) := rfl
/-- a list that is made: I after i of the source's items, with what is made -/
theorem comp_inv {src : IX} {js : List Nat} {tgt : TX} {test : BX} {elt : EX} {so : Src} {S0 : Store} {ds : List D} (I : Nat → List D → Store → Prop)
    (hsrc : src ρ S = some (.ok so, S0)) (hs : ∀ i acc S1, I i acc S1 → S1.length = S0.length ∧ srcAt so (S1 ++ [acc]) = some ds) (hs0 : srcAt so S0 = some ds) (hl : ds.length ≤ lim) (h0 : I 0 [] S0)
    (step : ∀ i d acc S1, ds[i]? = some d → I i acc S1 → Pst (tgt d (wipeE ρ js) (S1 ++ [acc])) (fun ρ1 S2 => Pst (test ρ1 S2) (fun b S2 =>
      (b = true → Pst (elt ρ1 S2) (fun y S2 => ∃ S3, S2 = S3 ++ [acc] ∧ y.pure = true ∧ I (i + 1) (acc ++ [y]) S3) NoE) ∧ (b = false → ∃ S3, S2 = S3 ++ [acc] ∧ I (i + 1) acc S3)) NoE) NoE)
    (fin : ∀ acc S1, I ds.length acc S1 → Q (.lst acc) S1) : Pst (cComp src js tgt test elt ρ S) Q E := by
  unfold cComp
  rw [hsrc, bindO_ok]
  simp only [hs0, Pst_bind]
  have go : ∀ (k i : Nat) (acc : List D) (S1 : Store), k + i = ds.length → acc.length ≤ i → I i acc S1 →
      Pst (compGo so S0.length (fun d S => bindO (tgt d (wipeE ρ js) S) fun ρ1 S => bindO (test ρ1 S) fun b S => match b with
      | true => bindO (elt ρ1 S) fun y S => some (.ok (some y), S)
      | false => some (.ok none, S)) k i (S1 ++ [acc])) (fun _ S' => ∃ acc S1, S' = S1 ++ [acc] ∧ I ds.length acc S1) E := by
    intro k
    induction k with
    | zero =>
      intro i acc S1 hk ha hi
      have hi' : i = ds.length := by omega
      subst hi'
      simp only [compGo, (hs _ _ _ hi).2, Nat.le_refl, if_true, Pst_ok]
      exact ⟨acc, S1, rfl, hi⟩
    | succ k ih =>
      intro i acc S1 hk ha hi
      have h1 : i < ds.length := by omega
      have h2 : ds[i]? = some ds[i] := List.getElem?_eq_getElem h1
      simp only [compGo, (hs _ _ _ hi).2, h2, Pst_bind, Pst_noX]
      refine (step i _ acc S1 h2 hi).mono (fun ρ1 S2 h => h.mono (fun b S2 h => ?_) fun _ _ h => h) fun _ _ h => h
      match b, h with
      | false, h =>
        obtain ⟨S3, rfl, hi3⟩ := h.2 rfl
        exact ih (i + 1) acc S3 (by omega) (by omega) hi3
      | true, h =>
        rw [Pst_bind]
        refine (h.1 rfl).mono (fun y S2 h => ?_) fun _ _ h => h
        obtain ⟨S3, rfl, hp, hi3⟩ := h
        have l3 := (hs _ _ _ hi3).1
        have e1 : (S3 ++ [acc])[S0.length]? = some acc := by rw [← l3]; simp
        have e2 : (S3 ++ [acc]).set S0.length (acc ++ [y]) = S3 ++ [acc ++ [y]] := by rw [← l3]; simp
        have e3 : acc.length < lim := by omega
        simp only [Pst_ok, e1, e2, hp, e3, and_self, if_true]
        exact ih (i + 1) (acc ++ [y]) S3 (by omega) (by simp; omega) hi3
  refine (go ds.length 0 [] S0 rfl (Nat.le_refl _) h0).mono (fun _ S' h => ?_) fun _ _ h => h
  obtain ⟨acc, S1, rfl, hi⟩ := h
  have l3 := (hs _ _ _ hi).1
  have e1 : (S1 ++ [acc])[S0.length]? = some acc := by rw [← l3]; simp
  have e2 : (S1 ++ [acc]).take S0.length = S1 := by rw [← l3]; simp
  simp only [e1, e2, Pst_ok]
  exact fin acc S1 hi
/-- a list that is made of a source by a function, with nothing written -/
theorem comp_pure {src : IX} {js : List Nat} {tgt : TX} {test : BX} {elt : EX} {so : Src} {ds : List D} (g : D → Option D)
    (hsrc : src ρ S = some (.ok so, S)) (hs : srcAt so S = some ds) (hs1 : ∀ acc, srcAt so (S ++ [acc]) = some ds) (hl : ds.length ≤ lim)
    (hg : ∀ d ∈ ds, ∀ acc, Pst (tgt d (wipeE ρ js) (S ++ [acc])) (fun ρ1 S2 => Pst (test ρ1 S2) (fun b S2 =>
      (b = true → Pst (elt ρ1 S2) (fun y S2 => S2 = S ++ [acc] ∧ y.pure = true ∧ g d = some y) NoE) ∧ (b = false → S2 = S ++ [acc] ∧ g d = none)) NoE) NoE) :
    cComp src js tgt test elt ρ S = some (.ok (.lst (ds.filterMap g)), S) := by
  refine Pst.eq.mp (comp_inv (so := so) (ds := ds) (fun i acc S1 => S1 = S ∧ acc = (ds.take i).filterMap g) hsrc ?_ hs hl ⟨rfl, rfl⟩ ?_ ?_)
  · rintro i acc S1 ⟨rfl, rfl⟩
    exact ⟨rfl, hs1 _⟩
  · rintro i d acc S1 hd ⟨rfl, ha⟩
    have hm : d ∈ ds := List.mem_of_getElem? hd
    have ht : ds.take (i + 1) = ds.take i ++ [d] := by
      have h1 : i < ds.length := by
        rcases Nat.lt_or_ge i ds.length with h | h
        · exact h
        · rw [List.getElem?_eq_none h] at hd; cases hd
      rw [List.getElem?_eq_getElem h1] at hd
      cases hd
      exact List.take_succ_eq_append_getElem h1
    refine (hg d hm acc).mono (fun ρ1 S2 h => h.mono (fun b S2 h => ⟨fun hb => (h.1 hb).mono (fun y S2 h => ?_) fun _ _ h => h, fun hb => ?_⟩) fun _ _ h => h) fun _ _ h => h
    · exact ⟨S1, h.1, h.2.1, rfl, by rw [ht, List.filterMap_append, ← ha]; simp [h.2.2]⟩
    · exact ⟨S1, (h.2 hb).1, rfl, by rw [ht, List.filterMap_append, ← ha]; simp [(h.2 hb).2]⟩
  · rintro acc S1 ⟨rfl, rfl⟩
    rw [List.take_length]
    exact ⟨rfl, rfl⟩
end
section
variable {ρ : PF.Env} {S : Store}
@[simp] theorem ap_lam {l : LamSite} : cLam l ρ S = some (.ok (.fn l), S) := rfl
@[simp] theorem ap_back {a : EX} : cBack a ρ S = bindO (a ρ S) fun x S => match asL x S with
  | some xs => some (.ok (.lst xs.reverse), S)
  | none => none := rfl
theorem pure_noFn {d : D} (h : d.pure = true) : d.isFn = false := by cases d <;> first | rfl | (cases h)
end
end PF
set_option Elab.async false
set_option linter.all false
set_option maxRecDepth 100000
set_option maxHeartbeats 4000000
/-! PF10: one rule for each letter (printed by mk10.py). -/
namespace PF
open PySem L2 Evl PySem.Spec PyProof.Rows
theorem set_get {S : Store} {n : Nat} {x : List D} (y : List D) (h : S[n]? = some x) : (S.set n y)[n]? = some y := by
  have : n < S.length := by
    rcases Nat.lt_or_ge n S.length with h1 | h1
    · exact h1
    · rw [List.getElem?_eq_none h1] at h; cases h
  simp [this]
/-- two ways -/
def Cs (b : Bool) (A B : Prop) : Prop := (b = true → A) ∧ (b = false → B)
def slL (x : D) (l r : Option Int) (S : Store) : Out D := match asL x S with
  | some xs => some (.ok (.lst (cutL xs l r)), S)
  | none => none
def slA (x : D) (l r : Option Int) (S : Store) : Out D := match x with
  | .tup xs => some (.ok (.tup (cutL xs l r)), S)
  | .str z => if z.length ≤ lim then some (.ok (.str (cutS z l r)), S) else none
  | d => slL d l r S
def Bl (d : D) (k : Bool → Prop) : Prop := match d with
  | .bl b => k b
  | _ => False
theorem cs_dec {p : Prop} [Decidable p] {A B : Prop} (h1 : p → A) (h2 : ¬ p → B) : Cs (decide p) A B := ⟨fun h => h1 (of_decide_eq_true h), fun h => h2 (of_decide_eq_false h)⟩
theorem cs_beq {i j : Int} {A B : Prop} (h1 : i = j → A) (h2 : i ≠ j → B) : Cs (i == j) A B := ⟨fun h => h1 (eq_of_beq h), fun h => h2 (fun e => by rw [e, beq_self_eq_true] at h; cases h)⟩
theorem cs_t {A B : Prop} (h1 : A) : Cs true A B := ⟨fun _ => h1, fun h => by cases h⟩
theorem cs_f {A B : Prop} (h1 : B) : Cs false A B := ⟨fun h => (by cases h), fun _ => h1⟩
theorem cs_te {b : Bool} {A B : Prop} (e : b = true) (h1 : A) : Cs b A B := by rw [e]; exact cs_t h1
theorem cs_fe {b : Bool} {A B : Prop} (e : b = false) (h1 : B) : Cs b A B := by rw [e]; exact cs_f h1
theorem cs_not {b : Bool} {A B : Prop} (h : Cs b B A) : Cs (!b) A B := by
  cases b with
  | true => exact cs_f (h.1 rfl)
  | false => exact cs_t (h.2 rfl)
theorem bl_bl {b : Bool} {k : Bool → Prop} (h : k b) : Bl (.bl b) k := h
section
variable {α β : Type} {Q : α → Store → Prop} {E : XV → Store → Prop} {S : Store} {ρ : PF.Env}
theorem r_ok {a : α} (h : Q a S) : Pst (some (.ok a, S)) Q E := h
theorem r_eq {r : Out α} {a : α} {S1 : Store} (e : r = some (.ok a, S1)) (h : Q a S1) : Pst r Q E := by rw [e]; exact h
theorem r_ite {c : Prop} [Decidable c] {r : Out α} (hc : c) (h : Pst r Q E) : Pst (if c then r else none) Q E := by rw [if_pos hc]; exact h
theorem r_bind {r : Out β} {k : β → Store → Out α} (h : Pst r (fun a S => Pst (k a S) Q E) E) : Pst (bindO r k) Q E := by rw [Pst_bind]; exact h
theorem r_nox {r : Out α} (h : Pst r Q NoE) : Pst (noX r) Q E := by rw [Pst_noX]; exact h
theorem r_nil {Q : List D → Store → Prop} (h : Q [] S) : Pst (aNil ρ S) Q E := h
theorem r_cons {Q : List D → Store → Prop} {a : EX} {r : AX} (h : Pst (a ρ S) (fun x S => Pst (r ρ S) (fun xs S => Q (x :: xs) S) E) E) : Pst (aCons a r ρ S) Q E := by
  rw [ap_cons, Pst_bind]
  simpa only [Pst_bind, Pst_ok] using h
theorem bool_t {QB : Bool → Store → Prop} {c : EX} (h : Pst (c ρ S) (fun d S => Bl d fun b => QB b S) E) : Pst (cTest c ρ S) QB E := by
  rw [ap_test]
  exact h
theorem bool_and {QB : Bool → Store → Prop} {a b : BX} (h : Pst (a ρ S) (fun x S => Cs x (Pst (b ρ S) QB E) (QB false S)) E) : Pst (bAnd a b ρ S) QB E := by rw [ap_band]; exact h
theorem bool_or {QB : Bool → Store → Prop} {a b : BX} (h : Pst (a ρ S) (fun x S => Cs x (QB true S) (Pst (b ρ S) QB E)) E) : Pst (bOr a b ρ S) QB E := by rw [ap_bor]; exact h.mono (fun _ _ h => ⟨h.2, h.1⟩) fun _ _ h => h
theorem bool_not {QB : Bool → Store → Prop} {a : BX} (h : Pst (a ρ S) (fun x S => QB (!x) S) E) : Pst (bNot a ρ S) QB E := by rw [ap_bnot]; exact h
theorem bool_yes {QB : Bool → Store → Prop} (h : QB true S) : Pst (bYes ρ S) QB E := h
end
section
variable {Q : D → Store → Prop} {E : XV → Store → Prop} {S : Store} {ρ : PF.Env}
theorem r_k {d : D} (h : Q d S) : Pst (cK d ρ S) Q E := h
theorem r_bin {o : Op2} {a b : EX} (h : Pst (a ρ S) (fun x S => Pst (b ρ S) (fun y S => Pst (o x y S) Q E) E) E) : Pst (cBin o a b ρ S) Q E := by
  rw [ap_bin, Pst_bind]
  simpa only [Pst_bind] using h
theorem r_un {o : D → Store → Out D} {a : EX} (h : Pst (a ρ S) (fun x S => Pst (o x S) Q E) E) : Pst (cUn o a ρ S) Q E := by rw [ap_un, Pst_bind]; exact h
theorem r_tup {r : AX} (h : Pst (r ρ S) (fun xs S => xs.length ≤ lim ∧ Q (.tup xs) S) E) : Pst (cTup r ρ S) Q E := by
  rw [ap_tup, Pst_bind]
  simpa only [Pst_ite, Pst_ok] using h
theorem r_lst {r : AX} (h : Pst (r ρ S) (fun xs S => xs.length ≤ lim ∧ Q (.lst xs) S) E) : Pst (cLst r ρ S) Q E := by
  rw [ap_lst, Pst_bind]
  simpa only [Pst_ite, Pst_ok] using h
theorem r_blt {o : OpB} {r : AX} (h : Pst (r ρ S) (fun ds S => Pst (o ds S) Q E) E) : Pst (cBlt o r ρ S) Q E := by rw [ap_blt, Pst_bind]; exact h
theorem r_call {n : Nat} {o : OpB} {r : AX} (h : Pst (r ρ S) (fun ds S => ds.length = n ∧ Pst (o ds S) Q E) E) : Pst (cCall n o r ρ S) Q E := by
  rw [ap_call, Pst_bind]
  simpa only [Pst_ite] using h
theorem r_callK {n m : Nat} {g : List D → List D → List D} {o : OpB} {r rk : AX} (h : Pst (r ρ S) (fun ds S => Pst (rk ρ S) (fun es S => (ds.length = n ∧ es.length = m) ∧ Pst (o (g ds es) S) Q E) E) E) : Pst (cCallK n m g o r rk ρ S) Q E := by
  rw [ap_callK, Pst_bind]
  simpa only [Pst_bind, Pst_ite] using h
theorem r_isi {t : Ty} {a : EX} (h : Pst (a ρ S) (fun x S => x.isFn = false ∧ Q (.bl (isTy x t)) S) E) : Pst (cIsi t a ρ S) Q E := by
  rw [ap_isi, Pst_bind]
  simpa only [Pst_ite, Pst_ok] using h
theorem r_lam {l : LamSite} (h : Q (.fn l) S) : Pst (cLam l ρ S) Q E := h
theorem r_back {a : EX} (h : Pst (a ρ S) (fun x S => ∃ xs, asL x S = some xs ∧ Q (.lst xs.reverse) S) E) : Pst (cBack a ρ S) Q E := by
  rw [ap_back, Pst_bind]
  refine h.mono (fun x S h => ?_) fun _ _ h => h
  obtain ⟨xs, e, h⟩ := h
  rw [e]; exact h
theorem r_callV {i n : Nat} {l : LamSite} {o : OpB} {r : AX} (h : ρ[i]? = some (some (.fn l))) (k : Pst (r ρ S) (fun ds S => ds.length = n ∧ Pst (o ds S) Q E) E) : Pst (cCallV i l n o r ρ S) Q E := by
  rw [ap_callV h, Pst_bind]
  simpa only [Pst_ite] using k
theorem r_listR1 {c : EX} (h : Pst (c ρ S) (fun d S => ∃ n, d = .int n ∧ (n ≤ 1000000 ∧ -1000000000 < n) ∧ Q (.lst (ranged 0 n.toNat)) S) E) : Pst (cListR1 c ρ S) Q E := by
  have e : cListR1 c ρ S = bindO (c ρ S) fun d S => match d with
    | .int n => if n ≤ 1000000 ∧ -1000000000 < n then some (.ok (.lst (ranged 0 n.toNat)), S) else none
    | _ => none := rfl
  rw [e, Pst_bind]
  refine h.mono (fun d S h => ?_) fun _ _ h => h
  obtain ⟨n, rfl, c, h⟩ := h
  simp only [c, and_self, if_true, Pst_ok]
  exact h
theorem r_mt {o : OpM} {a : EX} {r : AX} (h : Pst (a ρ S) (fun d S => ∃ n, d = .loc n ∧ Pst (r ρ S) (fun ds S => Pst (o (.loc n) ds S) Q E) E) E) : Pst (cMt o a r ρ S) Q E := by
  rw [ap_mt, Pst_bind]
  refine h.mono (fun d S h => ?_) fun _ _ h => h
  obtain ⟨n, rfl, h⟩ := h
  simpa only [Pst_bind] using h
theorem r_and {a b : EX} (h : Pst (a ρ S) (fun x S => Bl x fun x => Cs x (Pst (b ρ S) Q E) (Q (.bl false) S)) E) : Pst (cAnd a b ρ S) Q E := by
  rw [ap_and]
  exact h
theorem r_or {a b : EX} (h : Pst (a ρ S) (fun x S => Bl x fun x => Cs x (Q (.bl true) S) (Pst (b ρ S) Q E)) E) : Pst (cOr a b ρ S) Q E := by
  rw [ap_or]
  refine h.mono (fun d S h => ?_) fun _ _ h => h
  cases d <;> first | exact h.elim | exact ⟨h.2, h.1⟩
theorem r_not {a : EX} (h : Pst (a ρ S) (fun x S => Bl x fun x => Q (.bl (!x)) S) E) : Pst (cNot a ρ S) Q E := by
  rw [ap_not]
  exact h
theorem r_ife {c : BX} {a b : EX} (h : Pst (c ρ S) (fun x S => Cs x (Pst (a ρ S) Q E) (Pst (b ρ S) Q E)) E) : Pst (cIfE c a b ρ S) Q E := by rw [ap_ife]; exact h
theorem r_chain {o o' : Op2} {a b c : EX} (h : Pst (a ρ S) (fun x S => Pst (b ρ S) (fun y S => Pst (o x y S) (fun z S => Bl z fun z => Cs z (Pst (c ρ S) (fun w S => Pst (o' y w S) Q E) E) (Q (.bl false) S)) E) E) E) : Pst (cChain o o' a b c ρ S) Q E := by
  rw [ap_chain]
  exact h
theorem r_alloc {c : EX} (h : Pst (c ρ S) (fun d S => ∃ ds, d = .lst ds ∧ D.pures ds = true ∧ ∀ m S', m = S.length → S' = S ++ [ds] → S'[m]? = some ds → Q (.loc m) S') E) : Pst (cAlloc c ρ S) Q E := by
  rw [ap_alloc, Pst_bind]
  refine h.mono (fun d S h => ?_) fun _ _ h => h
  obtain ⟨ds, rfl, hp, h⟩ := h
  simp only [hp, if_true, Pst_ok]
  exact h _ _ rfl rfl (by simp)
theorem r_sliceA {a : EX} {lo hi : OX} (h : Pst (a ρ S) (fun x S => Pst (lo ρ S) (fun l S => Pst (hi ρ S) (fun r S => Pst (slA x l r S) Q E) E) E) E) : Pst (cSliceA a lo hi ρ S) Q E := by
  have e : cSliceA a lo hi ρ S = bindO (a ρ S) fun x S => bindO (lo ρ S) fun l S => bindO (hi ρ S) fun r S => slA x l r S := rfl
  rw [e]
  simpa only [Pst_bind] using h
theorem r_sliceL {a : EX} {lo hi : OX} (h : Pst (a ρ S) (fun x S => Pst (lo ρ S) (fun l S => Pst (hi ρ S) (fun r S => Pst (slL x l r S) Q E) E) E) E) : Pst (cSliceL a lo hi ρ S) Q E := by
  have e : cSliceL a lo hi ρ S = bindO (a ρ S) fun x S => bindO (lo ρ S) fun l S => bindO (hi ρ S) fun r S => slL x l r S := rfl
  rw [e]
  simpa only [Pst_bind] using h
theorem r_no {Q : Option Int → Store → Prop} (h : Q none S) : Pst (cNo ρ S) Q E := h
theorem r_part {Q : Option Int → Store → Prop} {c : EX} (h : Pst (c ρ S) (fun d S => ∃ i, d = .int i ∧ Q (some i) S) E) : Pst (cPart c ρ S) Q E := by
  rw [ap_part, Pst_bind]
  refine h.mono (fun d S h => ?_) fun _ _ h => h
  obtain ⟨i, rfl, h⟩ := h
  exact h
theorem r_scope {c : EX} (h : Pst (c ρ S) (fun d S1 => d.pure = true ∧ Q d (S1.take S.length)) NoE) : Pst (cScope c ρ S) Q E := by
  unfold cScope
  match hc : c ρ S with
  | none => rw [hc] at h; exact h.elim
  | some (.error x, S1) => rw [hc] at h; exact h.elim
  | some (.ok d, S1) =>
    rw [hc] at h
    simp only [Pst_ok] at h
    simp only [h.1, if_true, Pst_ok]
    exact h.2
end
theorem cs_pick {b : Bool} {x y : D} {c1 c2 : EX} {ρ : PF.Env} {S : Store} {Q : D → Store → Prop} {E : XV → Store → Prop} (P : D → Prop) (e1 : c1 ρ S = some (.ok x, S)) (e2 : c2 ρ S = some (.ok y, S)) (hp : P (if b = true then x else y)) (k : ∀ z, P z → Q z S) : Cs b (Pst (c1 ρ S) Q E) (Pst (c2 ρ S) Q E) := by
  rw [e1, e2]
  cases b with
  | true => exact cs_t (k _ hp)
  | false => exact cs_f (k _ hp)
/-! ### statements -/
section
variable {Q : Fl → Store → Prop} {E : XV → Store → Prop} {S : Store} {ρ : PF.Env}
def Nx (fl : Fl) (S : Store) (Q : Fl → Store → Prop) (k : PF.Env → Prop) : Prop := match fl with
  | .nx ρ => k ρ
  | fl => Q fl S
theorem nx_nx {k : PF.Env → Prop} (h : k ρ) : Nx (.nx ρ) S Q k := h
theorem nx_ret {k : PF.Env → Prop} {d : D} (h : Q (.ret d) S) : Nx (.ret d) S Q k := h
theorem nx_exc {k : PF.Env → Prop} {x : XV} (h : Q (.exc x ρ) S) : Nx (.exc x ρ) S Q k := h
theorem nx_brk {k : PF.Env → Prop} (h : Q (.brk ρ) S) : Nx (.brk ρ) S Q k := h
theorem nx_ct {k : PF.Env → Prop} (h : Q (.ct ρ) S) : Nx (.ct ρ) S Q k := h
theorem s_nil (h : Q (.nx ρ) S) : Pst (sNil ρ S) Q E := h
theorem s_brk (h : Q (.brk ρ) S) : Pst (sBrk ρ S) Q E := h
theorem s_ct (h : Q (.ct ρ) S) : Pst (sCt ρ S) Q E := h
theorem s_seq {a b : SX} (h : Pst (a ρ S) (fun fl S => Nx fl S Q fun ρ' => Pst (b ρ' S) Q E) E) : Pst (sSeq a b ρ S) Q E := by rw [st_seq]; exact h
theorem s_if {c : BX} {a b : SX} (h : Pst (c ρ S) (fun x S => Cs x (Pst (a ρ S) Q E) (Pst (b ρ S) Q E)) (fun x S => Q (.exc x ρ) S)) : Pst (sIf c a b ρ S) Q E := by rw [st_if]; exact h
theorem s_ret {c : EX} (h : Pst (c ρ S) (fun d S => Q (.ret d) S) (fun x S => Q (.exc x ρ) S)) : Pst (sRet c ρ S) Q E := by rw [st_ret, Pst_stm]; exact h
theorem s_retL {c : EX} (h : Pst (c ρ S) (fun d S => ∃ n, d = .loc n ∧ Q (.ret (.loc n)) S) (fun x S => Q (.exc x ρ) S)) : Pst (sRetL c ρ S) Q E := by
  rw [st_retL, Pst_stm]
  refine h.mono (fun d S h => ?_) fun _ _ h => h
  obtain ⟨n, rfl, h⟩ := h
  exact h
theorem s_expr {c : EX} (h : Pst (c ρ S) (fun _ S => Q (.nx ρ) S) (fun x S => Q (.exc x ρ) S)) : Pst (sExpr c ρ S) Q E := by rw [st_expr, Pst_stm]; exact h
theorem s_set {i : Nat} {c : EX} (h : Pst (c ρ S) (fun d S => Q (.nx (ρ.set i (some d))) S) (fun x S => Q (.exc x ρ) S)) : Pst (sSet i c ρ S) Q E := by rw [st_set, Pst_stm]; exact h
theorem s_asg {t : TX} {c : EX} (h : Pst (c ρ S) (fun d S => Pst (t d ρ S) (fun ρ' S => Q (.nx ρ') S) NoE) (fun x S => Q (.exc x ρ) S)) : Pst (sAsg t c ρ S) Q E := by
  rw [st_asg, Pst_stm]
  simpa only [Pst_bind, Pst_noX, Pst_ok] using h
theorem s_par {i j : Nat} {r : AX} (h : Pst (r ρ S) (fun ds S => ∃ x y, ds = [x, y] ∧ Pst (tName i x ρ S) (fun ρ1 S => Pst (tName j y ρ1 S) (fun ρ2 S => Q (.nx ρ2) S) NoE) NoE) (fun x S => Q (.exc x ρ) S)) : Pst (sPar i j r ρ S) Q E := by
  rw [st_par, Pst_stm]
  refine h.mono (fun d S h => ?_) fun _ _ h => h
  obtain ⟨x, y, rfl, h⟩ := h
  exact h
theorem s_for {src : IX} {t : TX} {b : SX} (h : Pst (src ρ S) (fun src S => ∃ ds, srcAt src S = some ds ∧ Pst (forGo src t b ds.length 0 ρ S) Q E) (fun x S => Q (.exc x ρ) S)) : Pst (sFor src t b ρ S) Q E := by
  rw [st_for]
  refine h.mono (fun d S h => ?_) fun _ _ h => h
  obtain ⟨ds, e, h⟩ := h
  rw [e]
  exact h
theorem t_name {Q : PF.Env → Store → Prop} {i : Nat} {d : D} (h : Q (ρ.set i (some d)) S) : Pst (tName i d ρ S) Q E := h
theorem t_tup {Q : PF.Env → Store → Prop} {n : Nat} {c : TXs} {ds : List D} (e : ds.length = n) (h : Pst (c ds ρ S) Q E) : Pst (tTup n c (.tup ds) ρ S) Q E := by rw [tg_tup, if_pos e]; exact h
theorem t_nil {Q : PF.Env → Store → Prop} (h : Q ρ S) : Pst (tsNil [] ρ S) Q E := h
theorem t_cons {Q : PF.Env → Store → Prop} {t : TX} {r : TXs} {d : D} {ds : List D} (h : Pst (t d ρ S) (fun ρ1 S => Pst (r ds ρ1 S) Q E) E) : Pst (tsCons t r (d :: ds) ρ S) Q E := by rw [tg_cons, Pst_bind]; exact h
/-- a place of a list of the store is written -/
def Put (S : Store) (n : Nat) (k : Int) (d : D) (Q : Store → Prop) : Prop := ∃ ds j, S[n]? = some ds ∧ ixN ds.length k = some j ∧ d.pure = true ∧ Q (S.set n (ds.set j d))
theorem t_sub {Q : PF.Env → Store → Prop} {a b : EX} {d : D} (h : Pst (a ρ S) (fun o S => Pst (b ρ S) (fun i S => ∃ n k, o = .loc n ∧ i = .int k ∧ Put S n k d fun S' => Q ρ S') NoE) NoE) : Pst (tSub a b d ρ S) Q E := by
  rw [tg_sub, Pst_bind, Pst_noX]
  refine h.mono (fun o S h => ?_) fun _ _ h => h.elim
  rw [Pst_bind, Pst_noX]
  refine h.mono (fun i S h => ?_) fun _ _ h => h.elim
  obtain ⟨n, k, rfl, rfl, ds, j, e1, e2, e3, h⟩ := h
  simp only [e1, e2, e3, if_true, Pst_ok]
  exact h
theorem put0 {n : Nat} {d a b c : D} {Q : Store → Prop} (e : S[n]? = some [a, b, c]) (p : d.pure = true) (h : (S.set n [d, b, c])[n]? = some [d, b, c] → Q (S.set n [d, b, c])) : Put S n 0 d Q := ⟨_, 0, e, rfl, p, h (set_get _ e)⟩
theorem put1 {n : Nat} {d a b c : D} {Q : Store → Prop} (e : S[n]? = some [a, b, c]) (p : d.pure = true) (h : (S.set n [a, d, c])[n]? = some [a, d, c] → Q (S.set n [a, d, c])) : Put S n 1 d Q := ⟨_, 1, e, rfl, p, h (set_get _ e)⟩
theorem put2 {n : Nat} {d a b c : D} {Q : Store → Prop} (e : S[n]? = some [a, b, c]) (p : d.pure = true) (h : (S.set n [a, b, d])[n]? = some [a, b, d] → Q (S.set n [a, b, d])) : Put S n 2 d Q := ⟨_, 2, e, rfl, p, h (set_get _ e)⟩
theorem q_seq {Q : Src → Store → Prop} {c : EX} (h : Pst (c ρ S) (fun d S => ∃ src, srcOfA d = some src ∧ Q src S) E) : Pst (cSeqA c ρ S) Q E := by
  rw [sq_tup, Pst_bind]
  refine h.mono (fun d S h => ?_) fun _ _ h => h
  obtain ⟨src, e, h⟩ := h
  rw [e]
  exact h
theorem q_range {Q : Src → Store → Prop} {c : AX} (h : Pst (c ρ S) (fun ds S => ∃ n, ds = [.int n] ∧ (n < 1000000000 ∧ -1000000000 < n) ∧ Q (.items (ranged 0 n.toNat)) S) E) : Pst (cRange1 c ρ S) Q E := by
  rw [sq_range, Pst_bind]
  refine h.mono (fun d S h => ?_) fun _ _ h => h
  obtain ⟨n, rfl, e, h⟩ := h
  simp only [e, and_self, if_true, Pst_ok]
  exact h
theorem q_range2 {Q : Src → Store → Prop} {c : AX} (h : Pst (c ρ S) (fun ds S => ∃ m n, ds = [.int m, .int n] ∧ ((n < 1000000000 ∧ -1000000000 < n) ∧ (m < 1000000000 ∧ -1000000000 < m)) ∧ Q (.items (ranged m (n - m).toNat)) S) E) : Pst (cRange2 c ρ S) Q E := by
  rw [sq_range2, Pst_bind]
  refine h.mono (fun d S h => ?_) fun _ _ h => h
  obtain ⟨m, n, rfl, e, h⟩ := h
  simp only [e, and_self, if_true, Pst_ok]
  exact h
theorem q_rangeD {Q : Src → Store → Prop} {c : AX} (h : Pst (c ρ S) (fun ds S => ∃ i j, ds = [.int i, .int j, .int (-1)] ∧ ((i < 1000000000 ∧ -1000000000 < i) ∧ (j < 1000000000 ∧ -1000000000 < j)) ∧ Q (.items (stepped i (-1) (i - j).toNat)) S) E) : Pst (cRangeD c ρ S) Q E := by
  unfold cRangeD
  rw [Pst_bind]
  refine h.mono (fun d S h => ?_) fun _ _ h => h
  obtain ⟨m, n, rfl, e, h⟩ := h
  simp only [e, and_self, if_true, Pst_ok]
  exact h
theorem q_enumA {Q : Src → Store → Prop} {c : AX} (h : Pst (c ρ S) (fun ds S => ∃ d src, ds = [d] ∧ srcOf d = some src ∧ Q (.enum src) S) E) : Pst (cEnumA c ρ S) Q E := by
  unfold cEnumA
  rw [Pst_bind]
  refine h.mono (fun d S h => ?_) fun _ _ h => h
  obtain ⟨x, src, rfl, e, h⟩ := h
  simp only [e]
  exact h
end
/-! ### operators -/
section
variable {Q : D → Store → Prop} {E : XV → Store → Prop} {S : Store} {i j : Int}
theorem o1_sub (h : Q (.int (i - j)) S) : Pst (oSub (.int i) (.int j) S) Q E := h
theorem o1_add (h : Q (.int (i + j)) S) : Pst (oAddA (.int i) (.int j) S) Q E := h
theorem o1_mul (c : (-18446744073709551616 < i ∧ i < 18446744073709551616) ∨ (-18446744073709551616 < j ∧ j < 18446744073709551616)) (h : Q (.int (i * j)) S) : Pst (oMul (.int i) (.int j) S) Q E := by
  rw [o_mul, Pst_ite]
  exact ⟨by omega, h⟩
theorem o1_div (c : 0 < j ∧ j < 1073741824) (h : Q (.int (i / j)) S) : Pst (oDiv (.int i) (.int j) S) Q E := by
  rw [o_div, Pst_ite]
  exact ⟨by omega, by rw [Int.fdiv_eq_ediv_of_nonneg _ (by omega)]; exact h⟩
theorem o1_mod (c : 0 < j) (h : Q (.int (i % j)) S) : Pst (oMod (.int i) (.int j) S) Q E := by
  rw [o_mod, Pst_ite]
  exact ⟨by omega, by rw [Int.fmod_eq_emod_of_nonneg _ (by omega)]; exact h⟩
theorem o1_lt (h : Q (.bl (decide (i < j))) S) : Pst (oLtA (.int i) (.int j) S) Q E := h
theorem o1_le (h : Q (.bl (decide (i ≤ j))) S) : Pst (oLe (.int i) (.int j) S) Q E := h
theorem o1_gt (h : Q (.bl (decide (j < i))) S) : Pst (oGt (.int i) (.int j) S) Q E := h
theorem o1_ge (h : Q (.bl (decide (j ≤ i))) S) : Pst (oGe (.int i) (.int j) S) Q E := h
theorem o1_neg (h : Q (.int (-i)) S) : Pst (oNeg (.int i) S) Q E := h
theorem o1_eq (h : Q (.bl (i == j)) S) : Pst (oEq (.int i) (.int j) S) Q E := by rw [o_eq]; exact h
theorem o1_ne (h : Q (.bl (!(i == j))) S) : Pst (oNe (.int i) (.int j) S) Q E := by rw [o_ne]; exact h
def D.isN : D → Bool
  | .non => true
  | _ => false
theorem o1_eqA (h : Q (.bl (i == j)) S) : Pst (oEqA (.int i) (.int j) S) Q E := by unfold oEqA oEqS; rw [o_eq]; exact h
theorem o1_neA (h : Q (.bl (!(i == j))) S) : Pst (oNeA (.int i) (.int j) S) Q E := by unfold oNeA oNeS; rw [o_ne]; exact h
theorem o1_eqS {a b : Str} (h : Q (.bl (a == b)) S) : Pst (oEqA (.str a) (.str b) S) Q E := h
theorem o1_isN {x : D} (h : Q (.bl x.isN) S) : Pst (oIsN x .non S) Q E := by cases x <;> exact h
theorem o1_notN {x : D} (h : Q (.bl (!x.isN)) S) : Pst (oNotN x .non S) Q E := by cases x <;> exact h
theorem o1_addT {xs ys : List D} (h : xs.length + ys.length ≤ lim ∧ Q (.tup (xs ++ ys)) S) : Pst (oAddA (.tup xs) (.tup ys) S) Q E := by
  rw [o_addT, Pst_ite]
  exact h
theorem o1_addL {xs ys : List D} (h : xs.length + ys.length ≤ lim ∧ Q (.lst (xs ++ ys)) S) : Pst (oAddA (.lst xs) (.lst ys) S) Q E := by
  rw [o_addL, Pst_ite]
  exact h
theorem o1_ix {x : D} (h : ∃ ds d, asS x S = some ds ∧ atI ds i = some d ∧ Q d S) : Pst (oIx x (.int i) S) Q E := by
  obtain ⟨ds, d, e, e2, h⟩ := h
  unfold oIx
  cases x <;> first | (cases e; done) | skip
  all_goals simp only [e, e2]
  all_goals exact h
theorem b1_len {x : D} (h : ∃ ds, asS x S = some ds ∧ Q (.int ds.length) S) : Pst (bLen [x] S) Q E := by
  obtain ⟨ds, e, h⟩ := h
  unfold bLen
  cases x <;> first | (cases e; done) | skip
  all_goals simp only [e]
  all_goals exact h
theorem o1_cat {x y : D} (h : ∃ xs ys, asM x S = some xs ∧ asM y S = some ys ∧ xs.length + ys.length ≤ lim ∧ Q (.lst (xs ++ ys)) S) : Pst (oCat x y S) Q E := by
  obtain ⟨xs, ys, e1, e2, c, h⟩ := h
  simp only [oCat, e1, e2, c, if_true]; exact h
theorem b1_abs (h : Q (.int (if i < 0 then -i else i)) S) : Pst (bAbs [.int i] S) Q E := h
theorem b1_int (h : Q (.int i) S) : Pst (bInt [.int i] S) Q E := h
theorem b1_min2 (h : Q (.int (min i j)) S) : Pst (bMin2 [.int i, .int j] S) Q E := by
  rw [b_min2]
  have e : (if j < i then j else i) = min i j := by split <;> omega
  rw [e]; exact h
theorem b1_max2 (h : Q (.int (max i j)) S) : Pst (bMax2 [.int i, .int j] S) Q E := by
  rw [b_max2]
  have e : (if i < j then j else i) = max i j := by split <;> omega
  rw [e]; exact h
theorem b1_divmod (c : 0 < j ∧ j < 1073741824) (h : Q (.tup [.int (i / j), .int (i % j)]) S) : Pst (bDivmod [.int i, .int j] S) Q E := by
  rw [b_divmod, Pst_ite]
  exact ⟨c, h⟩
theorem b1_tuple {x : D} (h : ∃ ds, asS x S = some ds ∧ Q (.tup ds) S) : Pst (bTuple [x] S) Q E := by
  obtain ⟨ds, e, h⟩ := h
  simp only [bTuple, e]; exact h
theorem b1_list {x : D} (h : ∃ ds, asS x S = some ds ∧ Q (.lst ds) S) : Pst (bList [x] S) Q E := by
  obtain ⟨ds, e, h⟩ := h
  simp only [bList, e]; exact h
theorem b1_sorted {ns : List Int} (h : Q (.lst ((sortI ns).map D.int)) S) : Pst (bSorted [.lst (ns.map D.int)] S) Q E := by rw [b_sorted]; exact h
theorem b1_max1 {ns : List Int} {m : Int} (e : ns.max? = some m) (h : Q (.int m) S) : Pst (bMax [.lst (ns.map D.int)] S) Q E := by
  have e2 : bMax [.lst (ns.map D.int)] S = some (.ok (.int m), S) := by simp [bMax, bL1, asL, intsOf_map, e]
  rw [e2]; exact h
theorem b1_sum {ns : List Int} (h : Q (.int ns.sum) S) : Pst (bSum [.lst (ns.map D.int)] S) Q E := by rw [b_sum]; exact h
theorem m1_append {n : Nat} {x : D} (h : ∃ xs, S[n]? = some xs ∧ (x.pure = true ∧ xs.length < lim) ∧ ((S.set n (xs ++ [x]))[n]? = some (xs ++ [x]) → Q .non (S.set n (xs ++ [x])))) : Pst (mAppend (.loc n) [x] S) Q E := by
  obtain ⟨xs, e, c, h⟩ := h
  rw [m_append]
  simp only [e, c, and_self, if_true]; exact h (set_get _ e)
end
section
variable {Q : D → Store → Prop} {E : XV → Store → Prop} {S : Store} {ρ : PF.Env}
theorem x_bl {fr : Bool} {n : Nat} {b : Bool} (h : Q (.bl b) (S.take n)) : Pst (exitF fr n (some (.ok (.ret (.bl b)), S))) Q E := h
theorem x_int {fr : Bool} {n : Nat} {b : Int} (h : Q (.int b) (S.take n)) : Pst (exitF fr n (some (.ok (.ret (.int b)), S))) Q E := h
theorem x_str {fr : Bool} {n : Nat} {b : Str} (h : Q (.str b) (S.take n)) : Pst (exitF fr n (some (.ok (.ret (.str b)), S))) Q E := h
theorem x_non {fr : Bool} {n : Nat} (h : Q .non (S.take n)) : Pst (exitF fr n (some (.ok (.ret .non), S))) Q E := h
theorem x_nx {n : Nat} (h : Q .non (S.take n)) : Pst (exitF false n (some (.ok (.nx ρ), S))) Q E := h
theorem x_tup {fr : Bool} {n : Nat} {ds : List D} (h : D.pures ds = true ∧ Q (.tup ds) (S.take n)) : Pst (exitF fr n (some (.ok (.ret (.tup ds)), S))) Q E := by
  rw [exit_tup, Pst_ite]; exact h
theorem x_lst {fr : Bool} {n : Nat} {ds : List D} (h : D.pures ds = true ∧ Q (.lst ds) (S.take n)) : Pst (exitF fr n (some (.ok (.ret (.lst ds)), S))) Q E := by
  rw [exit_lst, Pst_ite]; exact h
theorem sl_tup {xs : List D} {l r : Option Int} (h : Q (.tup (cutL xs l r)) S) : Pst (slA (.tup xs) l r S) Q E := h
theorem sl_lst {xs : List D} {l r : Option Int} (h : Q (.lst (cutL xs l r)) S) : Pst (slA (.lst xs) l r S) Q E := h
theorem sl_fz {xs : List D} {l r : Option Int} (h : Q (.lst (cutL xs l r)) S) : Pst (slA (.fz xs) l r S) Q E := h
theorem sL_lst {xs : List D} {l r : Option Int} (h : Q (.lst (cutL xs l r)) S) : Pst (slL (.lst xs) l r S) Q E := h
theorem sL_fz {xs : List D} {l r : Option Int} (h : Q (.lst (cutL xs l r)) S) : Pst (slL (.fz xs) l r S) Q E := h

theorem o_pow10_1 (h : Q (.int 10) S) : Pst (oPow (.int 10) (.int 1) S) Q E := by rw [o_pow, Pst_ite]; exact ⟨by decide, h⟩
theorem o_pow10_2 (h : Q (.int 100) S) : Pst (oPow (.int 10) (.int 2) S) Q E := by rw [o_pow, Pst_ite]; exact ⟨by decide, h⟩
theorem o_pow10_3 (h : Q (.int 1000) S) : Pst (oPow (.int 10) (.int 3) S) Q E := by rw [o_pow, Pst_ite]; exact ⟨by decide, h⟩
theorem o_pow10_4 (h : Q (.int 10000) S) : Pst (oPow (.int 10) (.int 4) S) Q E := by rw [o_pow, Pst_ite]; exact ⟨by decide, h⟩
theorem o_pow10_5 (h : Q (.int 100000) S) : Pst (oPow (.int 10) (.int 5) S) Q E := by rw [o_pow, Pst_ite]; exact ⟨by decide, h⟩
theorem o_pow10_6 (h : Q (.int 1000000) S) : Pst (oPow (.int 10) (.int 6) S) Q E := by rw [o_pow, Pst_ite]; exact ⟨by decide, h⟩
theorem o_pow10_7 (h : Q (.int 10000000) S) : Pst (oPow (.int 10) (.int 7) S) Q E := by rw [o_pow, Pst_ite]; exact ⟨by decide, h⟩
theorem o_pow10_8 (h : Q (.int 100000000) S) : Pst (oPow (.int 10) (.int 8) S) Q E := by rw [o_pow, Pst_ite]; exact ⟨by decide, h⟩
theorem o_pow10_9 (h : Q (.int 1000000000) S) : Pst (oPow (.int 10) (.int 9) S) Q E := by rw [o_pow, Pst_ite]; exact ⟨by decide, h⟩
theorem o_pow10_10 (h : Q (.int 10000000000) S) : Pst (oPow (.int 10) (.int 10) S) Q E := by rw [o_pow, Pst_ite]; exact ⟨by decide, h⟩
theorem o_pow10_11 (h : Q (.int 100000000000) S) : Pst (oPow (.int 10) (.int 11) S) Q E := by rw [o_pow, Pst_ite]; exact ⟨by decide, h⟩
theorem o_pow10_12 (h : Q (.int 1000000000000) S) : Pst (oPow (.int 10) (.int 12) S) Q E := by rw [o_pow, Pst_ite]; exact ⟨by decide, h⟩
theorem o_pow10_13 (h : Q (.int 10000000000000) S) : Pst (oPow (.int 10) (.int 13) S) Q E := by rw [o_pow, Pst_ite]; exact ⟨by decide, h⟩
theorem o_pow10_14 (h : Q (.int 100000000000000) S) : Pst (oPow (.int 10) (.int 14) S) Q E := by rw [o_pow, Pst_ite]; exact ⟨by decide, h⟩
theorem o_pow10_15 (h : Q (.int 1000000000000000) S) : Pst (oPow (.int 10) (.int 15) S) Q E := by rw [o_pow, Pst_ite]; exact ⟨by decide, h⟩
theorem o_pow10_16 (h : Q (.int 10000000000000000) S) : Pst (oPow (.int 10) (.int 16) S) Q E := by rw [o_pow, Pst_ite]; exact ⟨by decide, h⟩
theorem o_pow10_17 (h : Q (.int 100000000000000000) S) : Pst (oPow (.int 10) (.int 17) S) Q E := by rw [o_pow, Pst_ite]; exact ⟨by decide, h⟩
theorem o_pow10_18 (h : Q (.int 1000000000000000000) S) : Pst (oPow (.int 10) (.int 18) S) Q E := by rw [o_pow, Pst_ite]; exact ⟨by decide, h⟩
theorem o_pow10_20 (h : Q (.int 100000000000000000000) S) : Pst (oPow (.int 10) (.int 20) S) Q E := by rw [o_pow, Pst_ite]; exact ⟨by decide, h⟩
theorem o_pow10_30 (h : Q (.int 1000000000000000000000000000000) S) : Pst (oPow (.int 10) (.int 30) S) Q E := by rw [o_pow, Pst_ite]; exact ⟨by decide, h⟩
theorem v0  {d : D} (h : Q d S) : Pst (cVar 0 (some d :: ρ) S) Q E := h
theorem v1 {x0 : Option D} {d : D} (h : Q d S) : Pst (cVar 1 (x0 :: some d :: ρ) S) Q E := h
theorem v2 {x0 : Option D} {x1 : Option D} {d : D} (h : Q d S) : Pst (cVar 2 (x0 :: x1 :: some d :: ρ) S) Q E := h
theorem v3 {x0 : Option D} {x1 : Option D} {x2 : Option D} {d : D} (h : Q d S) : Pst (cVar 3 (x0 :: x1 :: x2 :: some d :: ρ) S) Q E := h
theorem v4 {x0 : Option D} {x1 : Option D} {x2 : Option D} {x3 : Option D} {d : D} (h : Q d S) : Pst (cVar 4 (x0 :: x1 :: x2 :: x3 :: some d :: ρ) S) Q E := h
theorem v5 {x0 : Option D} {x1 : Option D} {x2 : Option D} {x3 : Option D} {x4 : Option D} {d : D} (h : Q d S) : Pst (cVar 5 (x0 :: x1 :: x2 :: x3 :: x4 :: some d :: ρ) S) Q E := h
theorem v6 {x0 : Option D} {x1 : Option D} {x2 : Option D} {x3 : Option D} {x4 : Option D} {x5 : Option D} {d : D} (h : Q d S) : Pst (cVar 6 (x0 :: x1 :: x2 :: x3 :: x4 :: x5 :: some d :: ρ) S) Q E := h
theorem v7 {x0 : Option D} {x1 : Option D} {x2 : Option D} {x3 : Option D} {x4 : Option D} {x5 : Option D} {x6 : Option D} {d : D} (h : Q d S) : Pst (cVar 7 (x0 :: x1 :: x2 :: x3 :: x4 :: x5 :: x6 :: some d :: ρ) S) Q E := h
theorem v8 {x0 : Option D} {x1 : Option D} {x2 : Option D} {x3 : Option D} {x4 : Option D} {x5 : Option D} {x6 : Option D} {x7 : Option D} {d : D} (h : Q d S) : Pst (cVar 8 (x0 :: x1 :: x2 :: x3 :: x4 :: x5 :: x6 :: x7 :: some d :: ρ) S) Q E := h
theorem v9 {x0 : Option D} {x1 : Option D} {x2 : Option D} {x3 : Option D} {x4 : Option D} {x5 : Option D} {x6 : Option D} {x7 : Option D} {x8 : Option D} {d : D} (h : Q d S) : Pst (cVar 9 (x0 :: x1 :: x2 :: x3 :: x4 :: x5 :: x6 :: x7 :: x8 :: some d :: ρ) S) Q E := h
theorem v10 {x0 : Option D} {x1 : Option D} {x2 : Option D} {x3 : Option D} {x4 : Option D} {x5 : Option D} {x6 : Option D} {x7 : Option D} {x8 : Option D} {x9 : Option D} {d : D} (h : Q d S) : Pst (cVar 10 (x0 :: x1 :: x2 :: x3 :: x4 :: x5 :: x6 :: x7 :: x8 :: x9 :: some d :: ρ) S) Q E := h
theorem v11 {x0 : Option D} {x1 : Option D} {x2 : Option D} {x3 : Option D} {x4 : Option D} {x5 : Option D} {x6 : Option D} {x7 : Option D} {x8 : Option D} {x9 : Option D} {x10 : Option D} {d : D} (h : Q d S) : Pst (cVar 11 (x0 :: x1 :: x2 :: x3 :: x4 :: x5 :: x6 :: x7 :: x8 :: x9 :: x10 :: some d :: ρ) S) Q E := h
theorem v12 {x0 : Option D} {x1 : Option D} {x2 : Option D} {x3 : Option D} {x4 : Option D} {x5 : Option D} {x6 : Option D} {x7 : Option D} {x8 : Option D} {x9 : Option D} {x10 : Option D} {x11 : Option D} {d : D} (h : Q d S) : Pst (cVar 12 (x0 :: x1 :: x2 :: x3 :: x4 :: x5 :: x6 :: x7 :: x8 :: x9 :: x10 :: x11 :: some d :: ρ) S) Q E := h
theorem v13 {x0 : Option D} {x1 : Option D} {x2 : Option D} {x3 : Option D} {x4 : Option D} {x5 : Option D} {x6 : Option D} {x7 : Option D} {x8 : Option D} {x9 : Option D} {x10 : Option D} {x11 : Option D} {x12 : Option D} {d : D} (h : Q d S) : Pst (cVar 13 (x0 :: x1 :: x2 :: x3 :: x4 :: x5 :: x6 :: x7 :: x8 :: x9 :: x10 :: x11 :: x12 :: some d :: ρ) S) Q E := h
theorem tn0 {Q : PF.Env → Store → Prop} {x0 : Option D} {d : D} (h : Q (some d :: ρ) S) : Pst (tName 0 d (x0 :: ρ) S) Q E := h
theorem ss0 {Q : Fl → Store → Prop} {x0 : Option D} {c : EX} (h : Pst (c (x0 :: ρ) S) (fun d S => Q (.nx (some d :: ρ)) S) (fun x S => Q (.exc x (x0 :: ρ)) S)) : Pst (sSet 0 c (x0 :: ρ) S) Q E := s_set h
theorem tn1 {Q : PF.Env → Store → Prop} {x0 : Option D} {x1 : Option D} {d : D} (h : Q (x0 :: some d :: ρ) S) : Pst (tName 1 d (x0 :: x1 :: ρ) S) Q E := h
theorem ss1 {Q : Fl → Store → Prop} {x0 : Option D} {x1 : Option D} {c : EX} (h : Pst (c (x0 :: x1 :: ρ) S) (fun d S => Q (.nx (x0 :: some d :: ρ)) S) (fun x S => Q (.exc x (x0 :: x1 :: ρ)) S)) : Pst (sSet 1 c (x0 :: x1 :: ρ) S) Q E := s_set h
theorem tn2 {Q : PF.Env → Store → Prop} {x0 : Option D} {x1 : Option D} {x2 : Option D} {d : D} (h : Q (x0 :: x1 :: some d :: ρ) S) : Pst (tName 2 d (x0 :: x1 :: x2 :: ρ) S) Q E := h
theorem ss2 {Q : Fl → Store → Prop} {x0 : Option D} {x1 : Option D} {x2 : Option D} {c : EX} (h : Pst (c (x0 :: x1 :: x2 :: ρ) S) (fun d S => Q (.nx (x0 :: x1 :: some d :: ρ)) S) (fun x S => Q (.exc x (x0 :: x1 :: x2 :: ρ)) S)) : Pst (sSet 2 c (x0 :: x1 :: x2 :: ρ) S) Q E := s_set h
theorem tn3 {Q : PF.Env → Store → Prop} {x0 : Option D} {x1 : Option D} {x2 : Option D} {x3 : Option D} {d : D} (h : Q (x0 :: x1 :: x2 :: some d :: ρ) S) : Pst (tName 3 d (x0 :: x1 :: x2 :: x3 :: ρ) S) Q E := h
theorem ss3 {Q : Fl → Store → Prop} {x0 : Option D} {x1 : Option D} {x2 : Option D} {x3 : Option D} {c : EX} (h : Pst (c (x0 :: x1 :: x2 :: x3 :: ρ) S) (fun d S => Q (.nx (x0 :: x1 :: x2 :: some d :: ρ)) S) (fun x S => Q (.exc x (x0 :: x1 :: x2 :: x3 :: ρ)) S)) : Pst (sSet 3 c (x0 :: x1 :: x2 :: x3 :: ρ) S) Q E := s_set h
theorem tn4 {Q : PF.Env → Store → Prop} {x0 : Option D} {x1 : Option D} {x2 : Option D} {x3 : Option D} {x4 : Option D} {d : D} (h : Q (x0 :: x1 :: x2 :: x3 :: some d :: ρ) S) : Pst (tName 4 d (x0 :: x1 :: x2 :: x3 :: x4 :: ρ) S) Q E := h
theorem ss4 {Q : Fl → Store → Prop} {x0 : Option D} {x1 : Option D} {x2 : Option D} {x3 : Option D} {x4 : Option D} {c : EX} (h : Pst (c (x0 :: x1 :: x2 :: x3 :: x4 :: ρ) S) (fun d S => Q (.nx (x0 :: x1 :: x2 :: x3 :: some d :: ρ)) S) (fun x S => Q (.exc x (x0 :: x1 :: x2 :: x3 :: x4 :: ρ)) S)) : Pst (sSet 4 c (x0 :: x1 :: x2 :: x3 :: x4 :: ρ) S) Q E := s_set h
theorem tn5 {Q : PF.Env → Store → Prop} {x0 : Option D} {x1 : Option D} {x2 : Option D} {x3 : Option D} {x4 : Option D} {x5 : Option D} {d : D} (h : Q (x0 :: x1 :: x2 :: x3 :: x4 :: some d :: ρ) S) : Pst (tName 5 d (x0 :: x1 :: x2 :: x3 :: x4 :: x5 :: ρ) S) Q E := h
theorem ss5 {Q : Fl → Store → Prop} {x0 : Option D} {x1 : Option D} {x2 : Option D} {x3 : Option D} {x4 : Option D} {x5 : Option D} {c : EX} (h : Pst (c (x0 :: x1 :: x2 :: x3 :: x4 :: x5 :: ρ) S) (fun d S => Q (.nx (x0 :: x1 :: x2 :: x3 :: x4 :: some d :: ρ)) S) (fun x S => Q (.exc x (x0 :: x1 :: x2 :: x3 :: x4 :: x5 :: ρ)) S)) : Pst (sSet 5 c (x0 :: x1 :: x2 :: x3 :: x4 :: x5 :: ρ) S) Q E := s_set h
theorem tn6 {Q : PF.Env → Store → Prop} {x0 : Option D} {x1 : Option D} {x2 : Option D} {x3 : Option D} {x4 : Option D} {x5 : Option D} {x6 : Option D} {d : D} (h : Q (x0 :: x1 :: x2 :: x3 :: x4 :: x5 :: some d :: ρ) S) : Pst (tName 6 d (x0 :: x1 :: x2 :: x3 :: x4 :: x5 :: x6 :: ρ) S) Q E := h
theorem ss6 {Q : Fl → Store → Prop} {x0 : Option D} {x1 : Option D} {x2 : Option D} {x3 : Option D} {x4 : Option D} {x5 : Option D} {x6 : Option D} {c : EX} (h : Pst (c (x0 :: x1 :: x2 :: x3 :: x4 :: x5 :: x6 :: ρ) S) (fun d S => Q (.nx (x0 :: x1 :: x2 :: x3 :: x4 :: x5 :: some d :: ρ)) S) (fun x S => Q (.exc x (x0 :: x1 :: x2 :: x3 :: x4 :: x5 :: x6 :: ρ)) S)) : Pst (sSet 6 c (x0 :: x1 :: x2 :: x3 :: x4 :: x5 :: x6 :: ρ) S) Q E := s_set h
theorem tn7 {Q : PF.Env → Store → Prop} {x0 : Option D} {x1 : Option D} {x2 : Option D} {x3 : Option D} {x4 : Option D} {x5 : Option D} {x6 : Option D} {x7 : Option D} {d : D} (h : Q (x0 :: x1 :: x2 :: x3 :: x4 :: x5 :: x6 :: some d :: ρ) S) : Pst (tName 7 d (x0 :: x1 :: x2 :: x3 :: x4 :: x5 :: x6 :: x7 :: ρ) S) Q E := h
theorem ss7 {Q : Fl → Store → Prop} {x0 : Option D} {x1 : Option D} {x2 : Option D} {x3 : Option D} {x4 : Option D} {x5 : Option D} {x6 : Option D} {x7 : Option D} {c : EX} (h : Pst (c (x0 :: x1 :: x2 :: x3 :: x4 :: x5 :: x6 :: x7 :: ρ) S) (fun d S => Q (.nx (x0 :: x1 :: x2 :: x3 :: x4 :: x5 :: x6 :: some d :: ρ)) S) (fun x S => Q (.exc x (x0 :: x1 :: x2 :: x3 :: x4 :: x5 :: x6 :: x7 :: ρ)) S)) : Pst (sSet 7 c (x0 :: x1 :: x2 :: x3 :: x4 :: x5 :: x6 :: x7 :: ρ) S) Q E := s_set h
theorem tn8 {Q : PF.Env → Store → Prop} {x0 : Option D} {x1 : Option D} {x2 : Option D} {x3 : Option D} {x4 : Option D} {x5 : Option D} {x6 : Option D} {x7 : Option D} {x8 : Option D} {d : D} (h : Q (x0 :: x1 :: x2 :: x3 :: x4 :: x5 :: x6 :: x7 :: some d :: ρ) S) : Pst (tName 8 d (x0 :: x1 :: x2 :: x3 :: x4 :: x5 :: x6 :: x7 :: x8 :: ρ) S) Q E := h
theorem ss8 {Q : Fl → Store → Prop} {x0 : Option D} {x1 : Option D} {x2 : Option D} {x3 : Option D} {x4 : Option D} {x5 : Option D} {x6 : Option D} {x7 : Option D} {x8 : Option D} {c : EX} (h : Pst (c (x0 :: x1 :: x2 :: x3 :: x4 :: x5 :: x6 :: x7 :: x8 :: ρ) S) (fun d S => Q (.nx (x0 :: x1 :: x2 :: x3 :: x4 :: x5 :: x6 :: x7 :: some d :: ρ)) S) (fun x S => Q (.exc x (x0 :: x1 :: x2 :: x3 :: x4 :: x5 :: x6 :: x7 :: x8 :: ρ)) S)) : Pst (sSet 8 c (x0 :: x1 :: x2 :: x3 :: x4 :: x5 :: x6 :: x7 :: x8 :: ρ) S) Q E := s_set h
theorem tn9 {Q : PF.Env → Store → Prop} {x0 : Option D} {x1 : Option D} {x2 : Option D} {x3 : Option D} {x4 : Option D} {x5 : Option D} {x6 : Option D} {x7 : Option D} {x8 : Option D} {x9 : Option D} {d : D} (h : Q (x0 :: x1 :: x2 :: x3 :: x4 :: x5 :: x6 :: x7 :: x8 :: some d :: ρ) S) : Pst (tName 9 d (x0 :: x1 :: x2 :: x3 :: x4 :: x5 :: x6 :: x7 :: x8 :: x9 :: ρ) S) Q E := h
theorem ss9 {Q : Fl → Store → Prop} {x0 : Option D} {x1 : Option D} {x2 : Option D} {x3 : Option D} {x4 : Option D} {x5 : Option D} {x6 : Option D} {x7 : Option D} {x8 : Option D} {x9 : Option D} {c : EX} (h : Pst (c (x0 :: x1 :: x2 :: x3 :: x4 :: x5 :: x6 :: x7 :: x8 :: x9 :: ρ) S) (fun d S => Q (.nx (x0 :: x1 :: x2 :: x3 :: x4 :: x5 :: x6 :: x7 :: x8 :: some d :: ρ)) S) (fun x S => Q (.exc x (x0 :: x1 :: x2 :: x3 :: x4 :: x5 :: x6 :: x7 :: x8 :: x9 :: ρ)) S)) : Pst (sSet 9 c (x0 :: x1 :: x2 :: x3 :: x4 :: x5 :: x6 :: x7 :: x8 :: x9 :: ρ) S) Q E := s_set h
theorem tn10 {Q : PF.Env → Store → Prop} {x0 : Option D} {x1 : Option D} {x2 : Option D} {x3 : Option D} {x4 : Option D} {x5 : Option D} {x6 : Option D} {x7 : Option D} {x8 : Option D} {x9 : Option D} {x10 : Option D} {d : D} (h : Q (x0 :: x1 :: x2 :: x3 :: x4 :: x5 :: x6 :: x7 :: x8 :: x9 :: some d :: ρ) S) : Pst (tName 10 d (x0 :: x1 :: x2 :: x3 :: x4 :: x5 :: x6 :: x7 :: x8 :: x9 :: x10 :: ρ) S) Q E := h
theorem ss10 {Q : Fl → Store → Prop} {x0 : Option D} {x1 : Option D} {x2 : Option D} {x3 : Option D} {x4 : Option D} {x5 : Option D} {x6 : Option D} {x7 : Option D} {x8 : Option D} {x9 : Option D} {x10 : Option D} {c : EX} (h : Pst (c (x0 :: x1 :: x2 :: x3 :: x4 :: x5 :: x6 :: x7 :: x8 :: x9 :: x10 :: ρ) S) (fun d S => Q (.nx (x0 :: x1 :: x2 :: x3 :: x4 :: x5 :: x6 :: x7 :: x8 :: x9 :: some d :: ρ)) S) (fun x S => Q (.exc x (x0 :: x1 :: x2 :: x3 :: x4 :: x5 :: x6 :: x7 :: x8 :: x9 :: x10 :: ρ)) S)) : Pst (sSet 10 c (x0 :: x1 :: x2 :: x3 :: x4 :: x5 :: x6 :: x7 :: x8 :: x9 :: x10 :: ρ) S) Q E := s_set h
theorem tn11 {Q : PF.Env → Store → Prop} {x0 : Option D} {x1 : Option D} {x2 : Option D} {x3 : Option D} {x4 : Option D} {x5 : Option D} {x6 : Option D} {x7 : Option D} {x8 : Option D} {x9 : Option D} {x10 : Option D} {x11 : Option D} {d : D} (h : Q (x0 :: x1 :: x2 :: x3 :: x4 :: x5 :: x6 :: x7 :: x8 :: x9 :: x10 :: some d :: ρ) S) : Pst (tName 11 d (x0 :: x1 :: x2 :: x3 :: x4 :: x5 :: x6 :: x7 :: x8 :: x9 :: x10 :: x11 :: ρ) S) Q E := h
theorem ss11 {Q : Fl → Store → Prop} {x0 : Option D} {x1 : Option D} {x2 : Option D} {x3 : Option D} {x4 : Option D} {x5 : Option D} {x6 : Option D} {x7 : Option D} {x8 : Option D} {x9 : Option D} {x10 : Option D} {x11 : Option D} {c : EX} (h : Pst (c (x0 :: x1 :: x2 :: x3 :: x4 :: x5 :: x6 :: x7 :: x8 :: x9 :: x10 :: x11 :: ρ) S) (fun d S => Q (.nx (x0 :: x1 :: x2 :: x3 :: x4 :: x5 :: x6 :: x7 :: x8 :: x9 :: x10 :: some d :: ρ)) S) (fun x S => Q (.exc x (x0 :: x1 :: x2 :: x3 :: x4 :: x5 :: x6 :: x7 :: x8 :: x9 :: x10 :: x11 :: ρ)) S)) : Pst (sSet 11 c (x0 :: x1 :: x2 :: x3 :: x4 :: x5 :: x6 :: x7 :: x8 :: x9 :: x10 :: x11 :: ρ) S) Q E := s_set h
theorem tn12 {Q : PF.Env → Store → Prop} {x0 : Option D} {x1 : Option D} {x2 : Option D} {x3 : Option D} {x4 : Option D} {x5 : Option D} {x6 : Option D} {x7 : Option D} {x8 : Option D} {x9 : Option D} {x10 : Option D} {x11 : Option D} {x12 : Option D} {d : D} (h : Q (x0 :: x1 :: x2 :: x3 :: x4 :: x5 :: x6 :: x7 :: x8 :: x9 :: x10 :: x11 :: some d :: ρ) S) : Pst (tName 12 d (x0 :: x1 :: x2 :: x3 :: x4 :: x5 :: x6 :: x7 :: x8 :: x9 :: x10 :: x11 :: x12 :: ρ) S) Q E := h
theorem ss12 {Q : Fl → Store → Prop} {x0 : Option D} {x1 : Option D} {x2 : Option D} {x3 : Option D} {x4 : Option D} {x5 : Option D} {x6 : Option D} {x7 : Option D} {x8 : Option D} {x9 : Option D} {x10 : Option D} {x11 : Option D} {x12 : Option D} {c : EX} (h : Pst (c (x0 :: x1 :: x2 :: x3 :: x4 :: x5 :: x6 :: x7 :: x8 :: x9 :: x10 :: x11 :: x12 :: ρ) S) (fun d S => Q (.nx (x0 :: x1 :: x2 :: x3 :: x4 :: x5 :: x6 :: x7 :: x8 :: x9 :: x10 :: x11 :: some d :: ρ)) S) (fun x S => Q (.exc x (x0 :: x1 :: x2 :: x3 :: x4 :: x5 :: x6 :: x7 :: x8 :: x9 :: x10 :: x11 :: x12 :: ρ)) S)) : Pst (sSet 12 c (x0 :: x1 :: x2 :: x3 :: x4 :: x5 :: x6 :: x7 :: x8 :: x9 :: x10 :: x11 :: x12 :: ρ) S) Q E := s_set h
theorem tn13 {Q : PF.Env → Store → Prop} {x0 : Option D} {x1 : Option D} {x2 : Option D} {x3 : Option D} {x4 : Option D} {x5 : Option D} {x6 : Option D} {x7 : Option D} {x8 : Option D} {x9 : Option D} {x10 : Option D} {x11 : Option D} {x12 : Option D} {x13 : Option D} {d : D} (h : Q (x0 :: x1 :: x2 :: x3 :: x4 :: x5 :: x6 :: x7 :: x8 :: x9 :: x10 :: x11 :: x12 :: some d :: ρ) S) : Pst (tName 13 d (x0 :: x1 :: x2 :: x3 :: x4 :: x5 :: x6 :: x7 :: x8 :: x9 :: x10 :: x11 :: x12 :: x13 :: ρ) S) Q E := h
theorem ss13 {Q : Fl → Store → Prop} {x0 : Option D} {x1 : Option D} {x2 : Option D} {x3 : Option D} {x4 : Option D} {x5 : Option D} {x6 : Option D} {x7 : Option D} {x8 : Option D} {x9 : Option D} {x10 : Option D} {x11 : Option D} {x12 : Option D} {x13 : Option D} {c : EX} (h : Pst (c (x0 :: x1 :: x2 :: x3 :: x4 :: x5 :: x6 :: x7 :: x8 :: x9 :: x10 :: x11 :: x12 :: x13 :: ρ) S) (fun d S => Q (.nx (x0 :: x1 :: x2 :: x3 :: x4 :: x5 :: x6 :: x7 :: x8 :: x9 :: x10 :: x11 :: x12 :: some d :: ρ)) S) (fun x S => Q (.exc x (x0 :: x1 :: x2 :: x3 :: x4 :: x5 :: x6 :: x7 :: x8 :: x9 :: x10 :: x11 :: x12 :: x13 :: ρ)) S)) : Pst (sSet 13 c (x0 :: x1 :: x2 :: x3 :: x4 :: x5 :: x6 :: x7 :: x8 :: x9 :: x10 :: x11 :: x12 :: x13 :: ρ) S) Q E := s_set h
end
theorem pst_id {α : Type} {r : Out α} {Q : α → Store → Prop} {E : XV → Store → Prop} (h : Pst r Q E) : Pst r Q E := h
theorem cut_from {α : Type} (xs : List α) {k : Int} (h : 0 ≤ k) : cutL xs (some k) none = xs.drop k.toNat := by
  obtain ⟨m, rfl⟩ := Int.eq_ofNat_of_zero_le h
  unfold cutL
  rw [HT.sIx_nat, HT.sIx_none, Int.toNat_natCast]
  rcases Nat.le_total m xs.length with h1 | h1
  · rw [Nat.min_eq_left h1, List.take_of_length_le (by simp)]
  · rw [Nat.min_eq_right h1, List.drop_of_length_le h1, List.drop_of_length_le (Nat.le_refl _)]
    simp
theorem cut_mem {α : Type} {xs : List α} {a b : Option Int} {x : α} (h : x ∈ cutL xs a b) : x ∈ xs := List.mem_of_mem_drop (List.mem_of_mem_take h)
theorem cut_len {α : Type} (xs : List α) (a b : Option Int) : (cutL xs a b).length ≤ xs.length := by
  unfold cutL; simp; omega
theorem cut_pure {xs : List D} {a b : Option Int} (h : D.pures xs = true) : D.pures (cutL xs a b) = true := D.pures_iff.mpr fun d hd => D.pures_iff.mp h d (cut_mem hd)
theorem cut_to {α : Type} (xs : List α) {k : Int} (h : 0 ≤ k) : cutL xs none (some k) = xs.take k.toNat := by
  obtain ⟨m, rfl⟩ := Int.eq_ofNat_of_zero_le h
  unfold cutL
  rw [HT.sIx_nat, HT.sIx_none, Int.toNat_natCast]
  rcases Nat.le_total m xs.length with h1 | h1
  · rw [Nat.min_eq_left h1]; simp
  · rw [Nat.min_eq_right h1, List.take_of_length_le h1]; simp
theorem atI_end {α : Type} (xs : List α) : atI xs (-1) = xs.getLast? := by
  unfold atI ixN
  rw [if_neg (by decide)]
  rcases xs with _ | ⟨x, xs⟩
  · rfl
  · rw [if_pos (by simp only [List.length_cons]; omega), List.getLast?_eq_getElem?]
    simp only [Option.bind_some, List.length_cons]
    congr 1
    omega
theorem atI_nat {α : Type} (xs : List α) {i : Int} (h : 0 ≤ i) : atI xs i = xs[i.toNat]? := by
  unfold atI ixN
  rw [if_pos h]
  by_cases h1 : i < xs.length
  · rw [if_pos h1]; rfl
  · rw [if_neg h1, List.getElem?_eq_none (by omega)]; rfl
theorem atI_zero {α : Type} {x : α} {xs : List α} : atI (x :: xs) 0 = some x := by rw [atI_nat _ (by decide)]; rfl
theorem call_go {fr : Bool} {n : Nat} {b : SX} {ds : List D} {S : Store} {Q : D → Store → Prop} {E : XV → Store → Prop} {ρ : PF.Env} (e : startE n ds = ρ) (h : Pst (b ρ S) (fun fl S1 => Pst (exitF fr S.length (some (.ok fl, S1))) Q E) NoE) : Pst (callF fr n b ds S) Q E := by
  rw [call_pst, e]; exact h
theorem call_eq {fr : Bool} {n : Nat} {b : SX} {ds : List D} {S : Store} {d : D} {ρ : PF.Env} (e : startE n ds = ρ) (h : Pst (b ρ S) (fun fl S1 => Pst (exitF fr S.length (some (.ok fl, S1))) (fun x S' => x = d ∧ S' = S) NoE) NoE) : callF fr n b ds S = some (.ok d, S) :=
  Pst.eq.mp (call_go e h)
@[simp] theorem take_same {S : Store} : S.take S.length = S := List.take_of_length_le (Nat.le_refl _)
def D.isI : D → Bool
  | .int _ => true
  | _ => false
theorem zipD_ints (ns ms : List Int) : zipD (ns.map D.int) (ms.map D.int) = (ns.zip ms).map fun p => D.tup [.int p.1, .int p.2] := by
  induction ns generalizing ms with
  | nil => simp [zipD]
  | cons n ns ih => cases ms with
    | nil => simp [zipD]
    | cons m ms => simp [zipD, ih]
theorem filterMap_map {α β γ : Type} (f : α → β) (g : β → Option γ) (h : α → γ) (l : List α) (e : ∀ a ∈ l, g (f a) = some (h a)) : (l.map f).filterMap g = l.map h := by
  induction l with
  | nil => rfl
  | cons a l ih =>
    rw [List.map_cons, List.filterMap_cons, e a (List.mem_cons_self ..), ih fun b hb => e b (List.mem_cons_of_mem _ hb)]
    rfl
theorem blsOf_mapM {α : Type} {l : List α} {p : α → Bool} : blsOf (l.map fun a => D.bl (p a)) = some (l.map p) := by
  induction l with
  | nil => rfl
  | cons n ns ih => simp [blsOf, ih]
theorem b_allM {α : Type} {l : List α} {p : α → Bool} {S : Store} : bAll [.lst (l.map fun a => D.bl (p a))] S = some (.ok (.bl (l.all p)), S) := by
  simp [bAll, bL1, asL, blsOf_mapM, List.all_map]
theorem b_anyM {α : Type} {l : List α} {p : α → Bool} {S : Store} : bAny [.lst (l.map fun a => D.bl (p a))] S = some (.ok (.bl (l.any p)), S) := by
  simp [bAny, bL1, asL, blsOf_mapM, List.any_map]
theorem r_comp {src : IX} {js : List Nat} {tgt : TX} {test : BX} {elt : EX} {ρ : PF.Env} {S : Store} {Q : D → Store → Prop} {E : XV → Store → Prop}
    (h : Pst (src ρ S) (fun so S0 => Pst (cComp (fun _ _ => some (.ok so, S0)) js tgt test elt ρ S) Q E) E) : Pst (cComp src js tgt test elt ρ S) Q E := by
  unfold cComp at h ⊢
  match hs : src ρ S with
  | none => rw [hs] at h; exact h.elim
  | some (.error x, S1) => rw [hs] at h; exact h
  | some (.ok so, S1) => rw [hs] at h; exact h
/-- a list of a function's values over what is walked -/
theorem comp_map {src : IX} {js : List Nat} {tgt : TX} {elt : EX} {so : Src} {ρ : PF.Env} {S : Store} {α : Type} (l : List α) (f g : α → D)
    (hsrc : src ρ S = some (.ok so, S)) (hs : srcAt so S = some (l.map f)) (hs1 : ∀ acc, srcAt so (S ++ [acc]) = some (l.map f)) (hl : l.length ≤ lim)
    (hg : ∀ a ∈ l, ∀ acc, (g a).pure = true ∧ Pst (tgt (f a) (wipeE ρ js) (S ++ [acc])) (fun ρ1 S2 => Pst (elt ρ1 S2) (fun y S2 => y = g a ∧ S2 = S ++ [acc]) NoE) NoE) :
    cComp src js tgt bYes elt ρ S = some (.ok (.lst (l.map g)), S) := by
  refine Pst.eq.mp (comp_inv (so := so) (ds := l.map f) (fun i acc S1 => S1 = S ∧ acc = (l.take i).map g) hsrc ?_ hs (by rw [List.length_map]; exact hl) ⟨rfl, rfl⟩ ?_ ?_)
  · rintro i acc S1 ⟨rfl, rfl⟩
    exact ⟨rfl, hs1 _⟩
  · rintro i d acc S1 hd ⟨rfl, ha⟩
    rw [List.getElem?_map] at hd
    obtain ⟨a, ha', rfl⟩ := Option.map_eq_some_iff.mp hd
    have hm : a ∈ l := List.mem_of_getElem? ha'
    have ht : l.take (i + 1) = l.take i ++ [a] := by
      have h1 : i < l.length := by
        rcases Nat.lt_or_ge i l.length with h | h
        · exact h
        · rw [List.getElem?_eq_none h] at ha'; cases ha'
      rw [List.getElem?_eq_getElem h1] at ha'
      cases ha'
      exact List.take_succ_eq_append_getElem h1
    refine (hg a hm acc).2.mono (fun ρ1 S2 h => bool_yes ⟨fun _ => h.mono (fun y S2 h => ?_) fun _ _ h => h, fun hb => by cases hb⟩) fun _ _ h => h
    exact ⟨S1, h.2, by rw [h.1]; exact (hg a hm acc).1, rfl, by rw [ht, List.map_append, ← ha, h.1]; rfl⟩
  · rintro acc S1 ⟨rfl, rfl⟩
    rw [List.length_map, List.take_length]
    exact ⟨rfl, rfl⟩
theorem pures_mapI {ns : List Int} : D.pures (ns.map D.int) = true := by
  refine D.pures_iff.mpr fun d hd => ?_
  obtain ⟨i, _, rfl⟩ := List.mem_map.mp hd
  rfl

end PF
set_option Elab.async false
set_option linter.all false
set_option maxRecDepth 100000
set_option maxHeartbeats 4000000
namespace LW
open PySem L2 Evl PySem.Spec PyProof.Rows PF
local macro_rules | `(tactic| trivial) => `(tactic| first
  | (with_reducible first | refine v0 ?_ | refine v1 ?_ | refine v2 ?_ | refine v3 ?_ | refine v4 ?_ | refine v5 ?_ | refine v6 ?_ | refine v7 ?_ | refine v8 ?_ | refine v9 ?_ | refine v10 ?_ | refine v11 ?_ | refine v12 ?_ | refine v13 ?_ | refine tn0 ?_ | refine tn1 ?_ | refine tn2 ?_ | refine tn3 ?_ | refine tn4 ?_ | refine tn5 ?_ | refine tn6 ?_ | refine tn7 ?_ | refine tn8 ?_ | refine tn9 ?_ | refine tn10 ?_ | refine tn11 ?_ | refine tn12 ?_ | refine tn13 ?_ | refine ss0 ?_ | refine ss1 ?_ | refine ss2 ?_ | refine ss3 ?_ | refine ss4 ?_ | refine ss5 ?_ | refine ss6 ?_ | refine ss7 ?_ | refine ss8 ?_ | refine ss9 ?_ | refine ss10 ?_ | refine ss11 ?_ | refine ss12 ?_ | refine ss13 ?_)
  | (with_reducible first | refine r_k ?_ | refine r_bin ?_ | refine r_cons ?_ | refine r_nil ?_ | refine r_call ?_ | refine r_blt ?_ | refine r_un ?_ | refine r_ok ?_ | refine s_seq ?_ | refine s_ret ?_ | refine s_if ?_ | refine s_expr ?_ | refine s_asg ?_ | refine s_par ?_ | refine s_nil ?_ | refine s_brk ?_ | refine s_ct ?_ | refine s_for ?_ | refine bool_t ?_ | refine bool_and ?_ | refine bool_or ?_ | refine bool_not ?_ | refine bool_yes ?_ | refine r_and ?_ | refine r_or ?_ | refine r_not ?_ | refine r_ife ?_ | refine r_chain ?_ | refine r_isi ?_ | refine r_lam ?_ | refine r_back ?_ | refine r_listR1 ?_ | refine r_callK ?_ | refine r_mt ?_ | refine r_alloc ?_ | refine r_sliceA ?_ | refine r_sliceL ?_ | refine r_no ?_ | refine r_part ?_ | refine r_scope ?_ | refine t_nil ?_ | refine t_cons ?_ | refine q_seq ?_ | refine q_range ?_ | refine q_range2 ?_ | refine q_rangeD ?_ | refine q_enumA ?_ | refine nx_nx ?_ | refine nx_ret ?_ | refine nx_exc ?_ | refine nx_brk ?_ | refine nx_ct ?_ | refine bl_bl ?_ | refine cs_not ?_ | refine cs_t ?_ | refine cs_f ?_ | refine r_bind ?_ | refine r_nox ?_ | refine t_sub ?_ | refine s_retL ?_ | refine o1_sub ?_ | refine o1_add ?_ | refine o1_lt ?_ | refine o1_le ?_ | refine o1_gt ?_ | refine o1_ge ?_ | refine o1_neg ?_ | refine o1_eq ?_ | refine o1_ne ?_ | refine b1_abs ?_ | refine b1_int ?_ | refine b1_min2 ?_ | refine b1_max2 ?_ | refine o1_eqA ?_ | refine o1_neA ?_ | refine o1_eqS ?_ | refine o1_isN ?_ | refine o1_notN ?_ | refine x_bl ?_ | refine x_int ?_ | refine x_str ?_ | refine x_non ?_ | refine x_nx ?_ | refine x_tup ?_ | refine x_lst ?_ | refine sl_tup ?_ | refine sl_lst ?_ | refine sl_fz ?_ | refine sL_lst ?_ | refine sL_fz ?_)
  | (with_reducible first | refine r_tup ?_ | refine r_lst ?_ | refine o1_addT ?_ | refine o1_addL ?_ | refine b1_len ?_ | refine b1_tuple ?_ | refine b1_list ?_ | refine o1_cat ?_ | refine m1_append ?_ | refine o_pow10_1 ?_ | refine o_pow10_2 ?_ | refine o_pow10_3 ?_ | refine o_pow10_4 ?_ | refine o_pow10_5 ?_ | refine o_pow10_6 ?_ | refine o_pow10_7 ?_ | refine o_pow10_8 ?_ | refine o_pow10_9 ?_ | refine o_pow10_10 ?_ | refine o_pow10_11 ?_ | refine o_pow10_12 ?_ | refine o_pow10_13 ?_ | refine o_pow10_14 ?_ | refine o_pow10_15 ?_ | refine o_pow10_16 ?_ | refine o_pow10_17 ?_ | refine o_pow10_18 ?_ | refine o_pow10_20 ?_ | refine o_pow10_30 ?_)
  | ((with_reducible refine o1_ix ?_); refine ⟨_, _, by first | rfl | assumption, by first | rfl | exact atI_zero, ?_⟩)
  | ((with_reducible refine o1_mul ?_ ?_); first | omega | decide | fail)
  | ((with_reducible refine o1_div ?_ ?_); first | omega | decide | fail)
  | ((with_reducible refine o1_mod ?_ ?_); first | omega | decide | fail)
  | ((with_reducible refine b1_divmod ?_ ?_); first | omega | decide | fail)
  | ((with_reducible refine t_tup ?_ ?_); rfl)
  | ((with_reducible refine r_callV ?_ ?_); rfl)
  | (with_reducible refine cs_dec (fun _ => ?_) (fun _ => ?_))
  | (with_reducible refine cs_beq (fun _ => ?_) (fun _ => ?_))
  | ((with_reducible refine cs_te ?_ ?_); rfl)
  | ((with_reducible refine cs_fe ?_ ?_); rfl)
  | ((with_reducible refine put0 (by assumption) ?_ fun _ => ?_); first | rfl | fail)
  | ((with_reducible refine put1 (by assumption) ?_ fun _ => ?_); first | rfl | fail)
  | ((with_reducible refine put2 (by assumption) ?_ fun _ => ?_); first | rfl | fail)
  | ((fail_if_success (with_reducible refine pst_id ?_)); first
    | exact take_same
    | (with_reducible refine fun (_ : Nat) (_ : Store) (_ : _ = _) (_ : _ = _) (_ : _ = _) => ?_)
    | ((fail_if_success (with_reducible refine And.intro ?_ ?_)); refine ⟨_, by first | rfl | assumption, ?_⟩)
    | ((fail_if_success (with_reducible refine And.intro ?_ ?_)); refine ⟨_, _, rfl, ?_⟩)
    | ((fail_if_success (with_reducible refine And.intro ?_ ?_)); refine ⟨_, _, by first | rfl | assumption, rfl, ?_⟩)
    | ((with_reducible refine And.intro ?_ ?_); first | exact rfl | omega | (simp only [List.length_map]; omega) | exact ⟨rfl, rfl⟩ | exact Nat.le_of_ble_eq_true rfl | fail)))
local macro_rules | `(tactic| done) => `(tactic| first
  | (with_reducible first | refine v0 ?_ | refine v1 ?_ | refine v2 ?_ | refine v3 ?_ | refine v4 ?_ | refine v5 ?_ | refine v6 ?_ | refine v7 ?_ | refine v8 ?_ | refine v9 ?_ | refine v10 ?_ | refine v11 ?_ | refine v12 ?_ | refine v13 ?_ | refine tn0 ?_ | refine tn1 ?_ | refine tn2 ?_ | refine tn3 ?_ | refine tn4 ?_ | refine tn5 ?_ | refine tn6 ?_ | refine tn7 ?_ | refine tn8 ?_ | refine tn9 ?_ | refine tn10 ?_ | refine tn11 ?_ | refine tn12 ?_ | refine tn13 ?_ | refine ss0 ?_ | refine ss1 ?_ | refine ss2 ?_ | refine ss3 ?_ | refine ss4 ?_ | refine ss5 ?_ | refine ss6 ?_ | refine ss7 ?_ | refine ss8 ?_ | refine ss9 ?_ | refine ss10 ?_ | refine ss11 ?_ | refine ss12 ?_ | refine ss13 ?_)
  | (with_reducible first | refine r_k ?_ | refine r_bin ?_ | refine r_cons ?_ | refine r_nil ?_ | refine r_call ?_ | refine r_blt ?_ | refine r_un ?_ | refine r_ok ?_ | refine s_seq ?_ | refine s_ret ?_ | refine s_if ?_ | refine s_expr ?_ | refine s_asg ?_ | refine s_par ?_ | refine s_nil ?_ | refine s_brk ?_ | refine s_ct ?_ | refine s_for ?_ | refine bool_t ?_ | refine bool_and ?_ | refine bool_or ?_ | refine bool_not ?_ | refine bool_yes ?_ | refine r_and ?_ | refine r_or ?_ | refine r_not ?_ | refine r_ife ?_ | refine r_chain ?_ | refine r_isi ?_ | refine r_lam ?_ | refine r_back ?_ | refine r_listR1 ?_ | refine r_callK ?_ | refine r_mt ?_ | refine r_alloc ?_ | refine r_sliceA ?_ | refine r_sliceL ?_ | refine r_no ?_ | refine r_part ?_ | refine r_scope ?_ | refine t_nil ?_ | refine t_cons ?_ | refine q_seq ?_ | refine q_range ?_ | refine q_range2 ?_ | refine q_rangeD ?_ | refine q_enumA ?_ | refine nx_nx ?_ | refine nx_ret ?_ | refine nx_exc ?_ | refine nx_brk ?_ | refine nx_ct ?_ | refine bl_bl ?_ | refine cs_not ?_ | refine cs_t ?_ | refine cs_f ?_ | refine r_bind ?_ | refine r_nox ?_ | refine t_sub ?_ | refine s_retL ?_ | refine o1_sub ?_ | refine o1_add ?_ | refine o1_lt ?_ | refine o1_le ?_ | refine o1_gt ?_ | refine o1_ge ?_ | refine o1_neg ?_ | refine o1_eq ?_ | refine o1_ne ?_ | refine b1_abs ?_ | refine b1_int ?_ | refine b1_min2 ?_ | refine b1_max2 ?_ | refine o1_eqA ?_ | refine o1_neA ?_ | refine o1_eqS ?_ | refine o1_isN ?_ | refine o1_notN ?_ | refine x_bl ?_ | refine x_int ?_ | refine x_str ?_ | refine x_non ?_ | refine x_nx ?_ | refine x_tup ?_ | refine x_lst ?_ | refine sl_tup ?_ | refine sl_lst ?_ | refine sl_fz ?_ | refine sL_lst ?_ | refine sL_fz ?_)
  | (with_reducible first | refine r_tup ?_ | refine r_lst ?_ | refine o1_addT ?_ | refine o1_addL ?_ | refine b1_len ?_ | refine b1_tuple ?_ | refine b1_list ?_ | refine o1_cat ?_ | refine m1_append ?_ | refine o_pow10_1 ?_ | refine o_pow10_2 ?_ | refine o_pow10_3 ?_ | refine o_pow10_4 ?_ | refine o_pow10_5 ?_ | refine o_pow10_6 ?_ | refine o_pow10_7 ?_ | refine o_pow10_8 ?_ | refine o_pow10_9 ?_ | refine o_pow10_10 ?_ | refine o_pow10_11 ?_ | refine o_pow10_12 ?_ | refine o_pow10_13 ?_ | refine o_pow10_14 ?_ | refine o_pow10_15 ?_ | refine o_pow10_16 ?_ | refine o_pow10_17 ?_ | refine o_pow10_18 ?_ | refine o_pow10_20 ?_ | refine o_pow10_30 ?_)
  | ((with_reducible refine o1_ix ?_); refine ⟨_, _, by first | rfl | assumption, by first | rfl | exact atI_zero, ?_⟩)
  | ((with_reducible refine o1_mul ?_ ?_); first | omega | decide | fail)
  | ((with_reducible refine o1_div ?_ ?_); first | omega | decide | fail)
  | ((with_reducible refine o1_mod ?_ ?_); first | omega | decide | fail)
  | ((with_reducible refine b1_divmod ?_ ?_); first | omega | decide | fail)
  | ((with_reducible refine t_tup ?_ ?_); rfl)
  | ((with_reducible refine r_callV ?_ ?_); rfl)
  | (with_reducible refine cs_dec (fun _ => ?_) (fun _ => ?_))
  | (with_reducible refine cs_beq (fun _ => ?_) (fun _ => ?_))
  | ((with_reducible refine cs_te ?_ ?_); rfl)
  | ((with_reducible refine cs_fe ?_ ?_); rfl)
  | ((with_reducible refine put0 (by assumption) ?_ fun _ => ?_); first | rfl | fail)
  | ((with_reducible refine put1 (by assumption) ?_ fun _ => ?_); first | rfl | fail)
  | ((with_reducible refine put2 (by assumption) ?_ fun _ => ?_); first | rfl | fail)
  | ((fail_if_success (with_reducible refine pst_id ?_)); first
    | exact take_same
    | (with_reducible refine fun (_ : Nat) (_ : Store) (_ : _ = _) (_ : _ = _) (_ : _ = _) => ?_)
    | ((fail_if_success (with_reducible refine And.intro ?_ ?_)); refine ⟨_, by first | rfl | assumption, ?_⟩)
    | ((fail_if_success (with_reducible refine And.intro ?_ ?_)); refine ⟨_, _, rfl, ?_⟩)
    | ((fail_if_success (with_reducible refine And.intro ?_ ?_)); refine ⟨_, _, by first | rfl | assumption, rfl, ?_⟩)
    | ((with_reducible refine And.intro ?_ ?_); first | exact rfl | omega | (simp only [List.length_map]; omega) | exact ⟨rfl, rfl⟩ | exact Nat.le_of_ble_eq_true rfl | fail))
  | ((fail_if_success (with_reducible refine pst_id ?_)); first | (with_reducible rfl) | assumption | contradiction))
mutual
/-- plain: no lists of the store, no plain-made tuples *-/
def D.pl : D → Bool
  | .tup xs => D.pls xs
  | .lst xs => D.pls xs
  | .non => true
  | .bl _ => true
  | .int _ => true
  | .str _ => true
  | _ => false
def D.pls : List D → Bool
  | [] => true
  | d :: ds => D.pl d && D.pls ds
end
mutual
theorem pl_pure : ∀ {d : D}, D.pl d = true → d.pure = true
  | .tup xs, h => by rw [D.pure]; exact pls_pures (by simpa only [D.pl] using h)
  | .lst xs, h => by rw [D.pure]; exact pls_pures (by simpa only [D.pl] using h)
  | .non, _ => rfl
  | .bl _, _ => rfl
  | .int _, _ => rfl
  | .str _, _ => rfl
  | .loc _, h => by simp [D.pl] at h
  | .fz _, h => by simp [D.pl] at h
  | .fn _, h => by simp [D.pl] at h
  | .tpn _, h => by simp [D.pl] at h
  | .dct _, h => by simp [D.pl] at h
  | .ins _ _ _, h => by simp [D.pl] at h
  | .dks _ _, h => by simp [D.pl] at h
  | .obj _ _, h => by simp [D.pl] at h
  | .dkc _, h => by simp [D.pl] at h
  | .gfn _, h => by simp [D.pl] at h
theorem pls_pures : ∀ {ds : List D}, D.pls ds = true → D.pures ds = true
  | [], _ => rfl
  | d :: ds, h => by
    simp only [D.pls, Bool.and_eq_true] at h
    simp only [D.pures, pl_pure h.1, pls_pures h.2, Bool.and_self]
end
theorem pls_iff : ∀ {ds : List D}, D.pls ds = true ↔ ∀ d ∈ ds, D.pl d = true
  | [] => by simp [D.pls]
  | d :: ds => by simp [D.pls, pls_iff (ds := ds)]
theorem whole_eq (v : D) (hp : v.pure = true) {S : Store} : F_is_whole [v] S = some (.ok (.bl v.isI), S) := by
  unfold F_is_whole b_is_whole
  refine call_eq rfl ?_
  dsimp only [startE, List.map, List.replicate, List.length, List.cons_append, List.nil_append, Nat.reduceAdd, Nat.reduceSub]
  cases v <;> first | (cases hp; done) | skip
  all_goals repeat' trivial
def numD (lo hi : Int) : D → Bool
  | .int i => decide (lo ≤ i ∧ i ≤ hi)
  | _ => false
theorem num_eq (v : D) (hp : v.pure = true) {a b : Int} {S : Store} : F_is_number [v, .int a, .int b] S = some (.ok (.bl (numD a b v)), S) := by
  unfold F_is_number b_is_number
  refine call_eq rfl ?_
  dsimp only [startE, List.map, List.replicate, List.length, List.cons_append, List.nil_append, Nat.reduceAdd, Nat.reduceSub]
  repeat' trivial
  refine r_eq (whole_eq v hp) ?_
  cases v <;> first | (cases hp; done) | skip
  all_goals repeat' trivial
  all_goals refine ⟨?_, take_same⟩
  all_goals simp only [numD, D.bl.injEq, eq_comm (a := false), decide_eq_false_iff_not, decide_eq_decide]
  all_goals omega
theorem check_num_eq {v a b : Int} (h : a ≤ v ∧ v ≤ b) {S : Store} : F_check_number [.int v, .int a, .int b] S = some (.ok .non, S) := by
  unfold F_check_number b_check_number
  refine call_eq rfl ?_
  dsimp only [startE, List.map, List.replicate, List.length, List.cons_append, List.nil_append, Nat.reduceAdd, Nat.reduceSub]
  repeat' trivial
  refine r_eq (num_eq _ rfl) ?_
  have e : numD a b (.int v) = true := decide_eq_true h
  rw [e]
  repeat' trivial
theorem upper_eq {a b : Int} (h : 0 < b ∧ b < 1073741824) {S : Store} : F_upper [.int a, .int b] S = some (.ok (.int (-((-a) / b))), S) := by
  unfold F_upper b_upper
  refine call_eq rfl ?_
  dsimp only [startE, List.map, List.replicate, List.length, List.cons_append, List.nil_append, Nat.reduceAdd, Nat.reduceSub]
  repeat' trivial
def tupN (n : Int) : D → Bool
  | .tup xs => (xs.length : Int) == n
  | _ => false
theorem tuple_of_eq (v : D) (hp : D.pl v = true) {n : Int} {S : Store} : F_is_tuple_of [v, .int n] S = some (.ok (.bl (tupN n v)), S) := by
  unfold F_is_tuple_of b_is_tuple_of
  refine call_eq rfl ?_
  dsimp only [startE, List.map, List.replicate, List.length, List.cons_append, List.nil_append, Nat.reduceAdd, Nat.reduceSub]
  cases v <;> first | (simp [D.pl] at hp; done) | skip
  all_goals repeat' trivial


def ascB (ns : List Int) : Bool := (ns.zip ns.tail).all fun p => decide (p.1 < p.2)
theorem asc_eq (ns : List Int) (hl : ns.length ≤ 1000) {S : Store} : F_is_ascending [.lst (ns.map D.int)] S = some (.ok (.bl (ascB ns)), S) := by
  unfold F_is_ascending b_is_ascending
  refine call_eq rfl ?_
  dsimp only [startE, List.map, List.replicate, List.length, List.cons_append, List.nil_append, Nat.reduceAdd, Nat.reduceSub]
  repeat' trivial
  refine r_eq (comp_map (so := .zip (.items (ns.map D.int)) (.items (ns.tail.map D.int))) (ns.zip ns.tail) (fun p => D.tup [.int p.1, .int p.2]) (fun p => .bl (decide (p.1 < p.2))) ?_ ?_ ?_ ?_ ?_) ?_
  · have e : cutL (ns.map D.int) (some 1) none = ns.tail.map D.int := by
      rw [cut_from _ (by decide)]; cases ns <;> simp
    rw [← e]
    rfl
  · simp only [srcAt, zipD_ints]
  · intro acc; simp only [srcAt, zipD_ints]
  · simp only [List.length_zip]
    have := ns.length_tail
    show _ ≤ 1000000
    omega
  · intro q hq acc
    refine ⟨rfl, ?_⟩
    dsimp only [wipeE, List.set]
    repeat' trivial
  · refine r_nil ?_
    refine r_eq b_allM ?_
    repeat' trivial
def isStepD : D → Bool
  | .tup [a, b, c] => numD 0 1000 c && (numD 0 1000000 a && numD 0 1000000 b)
  | _ => false
theorem step_eq (v : D) (hp : D.pl v = true) {S : Store} : F_is_step [v] S = some (.ok (.bl (isStepD v)), S) := by
  by_cases hv : tupN 3 v = true
  · obtain ⟨a, b, c, rfl⟩ : ∃ a b c, v = .tup [a, b, c] := by
      cases v <;> first | (simp [tupN] at hv; done) | skip
      rename_i xs
      match xs, hv with
      | [a, b, c], _ => exact ⟨a, b, c, rfl⟩
      | [], h => simp [tupN] at h
      | [_], h => simp [tupN] at h
      | [_, _], h => simp [tupN] at h
      | _ :: _ :: _ :: _ :: l, h => simp [tupN] at h; omega
    have hp3 : a.pure = true ∧ b.pure = true ∧ c.pure = true := by
      simp only [D.pl, D.pls, Bool.and_eq_true, Bool.and_true] at hp
      exact ⟨pl_pure hp.1, pl_pure hp.2.1, pl_pure hp.2.2⟩
    unfold F_is_step b_is_step
    refine call_eq rfl ?_
    dsimp only [startE, List.map, List.replicate, List.length, List.cons_append, List.nil_append, Nat.reduceAdd, Nat.reduceSub]
    repeat' trivial
    refine r_eq (tuple_of_eq _ hp) ?_
    rw [hv]
    repeat' trivial
    refine r_eq (num_eq _ hp3.2.2) ?_
    simp only [isStepD]
    cases numD 0 1000 c
    · repeat' trivial
    · repeat' trivial
      refine r_eq (num_eq _ hp3.1) ?_
      cases numD 0 1000000 a
      · repeat' trivial
      · repeat' trivial
        refine r_eq (num_eq _ hp3.2.1) ?_
        repeat' trivial
  · have e : isStepD v = false := by
      cases v <;> first | rfl | skip
      rename_i xs
      match xs, hv with
      | [a, b, c], h => exact absurd rfl h
      | [], h => rfl
      | [_], h => rfl
      | [_, _], h => rfl
      | _ :: _ :: _ :: _ :: l, h => rfl
    rw [e]
    unfold F_is_step b_is_step
    refine call_eq rfl ?_
    dsimp only [startE, List.map, List.replicate, List.length, List.cons_append, List.nil_append, Nat.reduceAdd, Nat.reduceSub]
    repeat' trivial
    refine r_eq (tuple_of_eq _ hp) ?_
    rw [Bool.not_eq_true] at hv
    rw [hv]
    repeat' trivial
def startI : D → Int
  | .tup (.int a :: _) => a
  | _ => 0
theorem isStepD_form {v : D} (h : isStepD v = true) : ∃ a b c, v = .tup [.int a, .int b, .int c] ∧ (0 ≤ a ∧ a ≤ 1000000) ∧ (0 ≤ b ∧ b ≤ 1000000) ∧ (0 ≤ c ∧ c ≤ 1000) := by
  unfold isStepD at h
  split at h
  · rename_i a b c
    simp only [Bool.and_eq_true] at h
    obtain ⟨hc, ha, hb⟩ := h
    cases a <;> first | (cases ha; done) | skip
    cases b <;> first | (cases hb; done) | skip
    cases c <;> first | (cases hc; done) | skip
    exact ⟨_, _, _, rfl, of_decide_eq_true ha, of_decide_eq_true hb, of_decide_eq_true hc⟩
  · cases h
def isRuleD : D → Bool
  | .tup xs => decide (1 ≤ xs.length ∧ xs.length ≤ 6) && (xs.all isStepD && ((startI (xs.getD 0 .non) == 0) && ascB (xs.map startI)))
  | _ => false
theorem rule_eq (v : D) (hp : D.pl v = true) {S : Store} : F_is_rule [v] S = some (.ok (.bl (isRuleD v)), S) := by
  unfold F_is_rule b_is_rule
  refine call_eq rfl ?_
  dsimp only [startE, List.map, List.replicate, List.length, List.cons_append, List.nil_append, Nat.reduceAdd, Nat.reduceSub]
  cases v <;> first | (simp [D.pl] at hp; done) | skip
  all_goals repeat' trivial
  · rename_i xs h1 h2
    have hl : decide (1 ≤ xs.length ∧ xs.length ≤ 6) = true := decide_eq_true (by omega)
    refine r_eq (comp_map (so := .items xs) xs id (fun d => .bl (isStepD d)) rfl ?_ ?_ ?_ ?_) ?_
    · simp
    · simp
    · show _ ≤ 1000000; omega
    · intro d hd acc
      refine ⟨rfl, ?_⟩
      dsimp only [wipeE, List.set, id]
      repeat' trivial
      refine r_eq (step_eq d (pls_iff.mp (by simpa only [D.pl] using hp) d hd)) ?_
      repeat' trivial
    refine r_nil ?_
    refine r_eq b_allM ?_
    refine bl_bl ?_
    by_cases hs : xs.all isStepD = true
    · rw [hs]
      have hs' := List.all_eq_true.mp hs
      refine cs_not (cs_t ?_)
      match xs, h1 with
      | x :: xs, _ =>
      obtain ⟨a, b, c, e, _⟩ := isStepD_form (hs' x (List.mem_cons_self ..))
      have e1 : startI x = a := by rw [e]; rfl
      have e2 : isRuleD (.tup (x :: xs)) = ((a == 0) && ascB ((x :: xs).map startI)) := by
        simp only [isRuleD, hl, hs, Bool.true_and, List.getD_cons_zero, e1]
      rw [e2]
      repeat' trivial
      rw [e]
      repeat' trivial
      · rename_i h0
        subst h0
        refine r_eq (comp_map (so := .items (D.tup [.int 0, .int b, .int c] :: xs)) (D.tup [.int 0, .int b, .int c] :: xs) id (fun d => .int (startI d)) rfl ?_ ?_ ?_ ?_) ?_
        · simp
        · simp
        · show _ ≤ 1000000; simp at h2 ⊢; omega
        · intro d hd acc
          refine ⟨rfl, ?_⟩
          dsimp only [wipeE, List.set, id]
          rw [← e] at hd
          obtain ⟨a, b, c, rfl, _⟩ := isStepD_form (hs' d hd)
          repeat' trivial
        refine r_nil ?_
        repeat' trivial
        have e3 : ∀ l : List D, l.map (fun d => D.int (startI d)) = (l.map startI).map D.int := fun l => by simp
        rw [e3]
        refine r_eq (asc_eq _ (by simp at h2 ⊢; omega)) ?_
        repeat' trivial
      · rename_i h0
        have e4 : (a == 0) = false := by simpa using h0
        rw [e4]
        exact ⟨rfl, take_same⟩
    · rw [Bool.not_eq_true] at hs
      have e : isRuleD (.tup xs) = false := by simp [isRuleD, hs]
      rw [hs, e]
      repeat' trivial
  · rename_i xs h1 h2
    have hl : decide (1 ≤ xs.length ∧ xs.length ≤ 6) = false := decide_eq_false (by omega)
    simp [isRuleD, hl]
  · rename_i xs h1
    have hl : decide (1 ≤ xs.length ∧ xs.length ≤ 6) = false := decide_eq_false (by omega)
    simp [isRuleD, hl]
theorem check_rule_eq (v : D) (hp : D.pl v = true) (h : isRuleD v = true) {S : Store} : F_check_rule [v] S = some (.ok .non, S) := by
  unfold F_check_rule b_check_rule
  refine call_eq rfl ?_
  dsimp only [startE, List.map, List.replicate, List.length, List.cons_append, List.nil_append, Nat.reduceAdd, Nat.reduceSub]
  repeat' trivial
  refine r_eq (rule_eq v hp) ?_
  rw [h]
  repeat' trivial

/-! rules of steps -/
abbrev St := Int × Int × Int
def stepD (s : St) : D := .tup [.int s.1, .int s.2.1, .int s.2.2]
def ruleD (rs : List St) : D := .tup (rs.map stepD)
structure Rule (rs : List St) : Prop where
  l1 : 1 ≤ rs.length
  l6 : rs.length ≤ 6
  ok : ∀ s ∈ rs, (0 ≤ s.1 ∧ s.1 ≤ 1000000) ∧ (0 ≤ s.2.1 ∧ s.2.1 ≤ 1000000) ∧ (0 ≤ s.2.2 ∧ s.2.2 ≤ 1000)
  h0 : (rs.getD 0 (0, 0, 0)).1 = 0
  asc : ascB (rs.map (·.1)) = true
theorem rule_is {rs : List St} (h : Rule rs) : isRuleD (ruleD rs) = true := by
  have e1 : (rs.map stepD).all isStepD = true := by
    rw [List.all_eq_true]
    intro d hd
    obtain ⟨s, hs, rfl⟩ := List.mem_map.mp hd
    obtain ⟨h1, h2, h3⟩ := h.ok s hs
    simp [stepD, isStepD, numD, h1, h2, h3]
  have e2 : (rs.map stepD).map startI = rs.map (·.1) := by
    rw [List.map_map]; rfl
  have e3 : startI ((rs.map stepD).getD 0 .non) = 0 := by
    have h0 := h.h0
    have l1 := h.l1
    clear e1 e2 h
    match rs, l1, h0 with
    | s :: rs, _, h0 => exact h0
  have e4 : decide (1 ≤ (rs.map stepD).length ∧ (rs.map stepD).length ≤ 6) = true := by
    rw [List.length_map]; exact decide_eq_true ⟨h.l1, h.l6⟩
  unfold isRuleD ruleD
  simp only [e1, e2, e3, h.asc, e4]
  rfl
theorem rule_pl (rs : List St) : D.pl (ruleD rs) = true := by
  unfold ruleD
  rw [D.pl]
  refine pls_iff.mpr fun d hd => ?_
  obtain ⟨s, _, rfl⟩ := List.mem_map.mp hd
  simp only [stepD, D.pl, D.pls, Bool.and_self]
def lastS (rs : List St) (t : Int) : St := ((rs.filter fun s => decide (s.1 ≤ t)).getLast?).getD (0, 0, 0)
def feeN (rs : List St) (t : Int) : Int := (lastS rs t).2.1 + ((lastS rs t).2.2 * t + 999) / 1000
theorem last_some {rs : List St} (h : Rule rs) {t : Int} (ht : 0 ≤ t) : (rs.filter fun s => decide (s.1 ≤ t)).getLast? = some (lastS rs t) := by
  unfold lastS
  have l1 := h.l1
  have h0 := h.h0
  match rs, l1 with
  | s :: rs, _ =>
    have e : (s.1 ≤ t) := by
      have h0 : s.1 = 0 := h0
      omega
    rw [List.filter_cons_of_pos (by simpa using e), List.getLast?_cons]
    rfl
theorem last_mem {rs : List St} (h : Rule rs) {t : Int} (ht : 0 ≤ t) : lastS rs t ∈ rs := by
  have e := last_some h ht
  exact (List.mem_filter.mp (List.mem_of_getLast? e)).1
theorem filt (rs : List St) (t : Int) : (rs.map stepD).filterMap (fun d => match d with | .tup [.int a, b, c] => if a ≤ t then some (.tup [.int a, b, c]) else none | _ => none) = (rs.filter fun s => decide (s.1 ≤ t)).map stepD := by
  induction rs with
  | nil => rfl
  | cons s rs ih =>
    rw [List.map_cons, List.filterMap_cons]
    by_cases h : s.1 ≤ t
    · rw [List.filter_cons_of_pos (by simpa using h), List.map_cons, ← ih]
      simp only [stepD, h, if_true]
    · rw [List.filter_cons_of_neg (by simpa using h), ← ih]
      simp only [stepD, h, if_false]
theorem step_at_eq {rs : List St} (h : Rule rs) {t : Int} (ht : 0 ≤ t) {S : Store} : F_step_at [ruleD rs, .int t] S = some (.ok (stepD (lastS rs t)), S) := by
  have l6 := h.l6
  unfold F_step_at b_step_at
  refine call_eq rfl ?_
  dsimp only [startE, List.map, List.replicate, List.length, List.cons_append, List.nil_append, Nat.reduceAdd, Nat.reduceSub]
  repeat' trivial
  refine r_eq (comp_pure (so := .items (rs.map stepD)) (ds := rs.map stepD) (fun d => match d with | .tup [.int a, b, c] => if a ≤ t then some (.tup [.int a, b, c]) else none | _ => none) rfl rfl (fun _ => rfl) ?_ ?_) ?_
  · rw [List.length_map]; show _ ≤ 1000000; omega
  · intro d hd acc
    obtain ⟨s, _, rfl⟩ := List.mem_map.mp hd
    dsimp only [wipeE, List.set, ruleD, stepD]
    repeat' trivial
    refine ⟨fun hb => ?_, fun hb => ?_⟩
    · have hb := of_decide_eq_true hb
      repeat' trivial
      rw [if_pos hb]
    · have hb := of_decide_eq_false hb
      simp [if_neg hb]
  rw [filt]
  repeat' trivial
  refine o1_ix ⟨_, _, rfl, by rw [atI_end, List.getLast?_map, last_some h ht]; rfl, ?_⟩
  dsimp only [stepD]
  repeat' trivial
theorem fee_of_eq {rs : List St} (h : Rule rs) {t : Int} (ht : 0 ≤ t) {S : Store} : F_fee_of [ruleD rs, .int t] S = some (.ok (.int (feeN rs t)), S) := by
  have hm := h.ok _ (last_mem h ht)
  unfold F_fee_of b_fee_of
  refine call_eq rfl ?_
  dsimp only [startE, List.map, List.replicate, List.length, List.cons_append, List.nil_append, Nat.reduceAdd, Nat.reduceSub]
  repeat' trivial
  refine r_eq (step_at_eq h ht) ?_
  dsimp only [stepD]
  repeat' trivial
  refine r_eq (upper_eq (by omega)) ?_
  repeat' trivial
  refine ⟨?_, take_same⟩
  unfold feeN
  congr 1
  omega
theorem net_of_eq {rs : List St} (h : Rule rs) {t : Int} (ht : 0 ≤ t) {S : Store} : F_net_of [ruleD rs, .int t] S = some (.ok (.int (t - feeN rs t)), S) := by
  unfold F_net_of b_net_of
  refine call_eq rfl ?_
  dsimp only [startE, List.map, List.replicate, List.length, List.cons_append, List.nil_append, Nat.reduceAdd, Nat.reduceSub]
  repeat' trivial
  refine r_eq (fee_of_eq h ht) ?_
  repeat' trivial
theorem fee_eq {rs : List St} (h : Rule rs) {t : Int} (ht : 0 ≤ t ∧ t ≤ 1000000000) {S : Store} : F_fee [ruleD rs, .int t] S = some (.ok (.int (feeN rs t)), S) := by
  unfold F_fee b_fee
  refine call_eq rfl ?_
  dsimp only [startE, List.map, List.replicate, List.length, List.cons_append, List.nil_append, Nat.reduceAdd, Nat.reduceSub]
  repeat' trivial
  refine r_eq (check_rule_eq _ (rule_pl rs) (rule_is h)) ?_
  repeat' trivial
  refine r_eq (check_num_eq ht) ?_
  repeat' trivial
  refine r_eq (fee_of_eq h ht.1) ?_
  repeat' trivial
theorem net_eq {rs : List St} (h : Rule rs) {t : Int} (ht : 0 ≤ t ∧ t ≤ 1000000000) {S : Store} : F_net [ruleD rs, .int t] S = some (.ok (.int (t - feeN rs t)), S) := by
  unfold F_net b_net
  refine call_eq rfl ?_
  dsimp only [startE, List.map, List.replicate, List.length, List.cons_append, List.nil_append, Nat.reduceAdd, Nat.reduceSub]
  repeat' trivial
  refine r_eq (check_rule_eq _ (rule_pl rs) (rule_is h)) ?_
  repeat' trivial
  refine r_eq (check_num_eq ht) ?_
  repeat' trivial
  refine r_eq (net_of_eq h ht.1) ?_
  repeat' trivial
theorem law_fee_eq {rs : List St} (h : Rule rs) {t : Int} (ht : 0 ≤ t) {S : Store} : F__law_fee [ruleD rs, .int t] S = some (.ok (.int (feeN rs t)), S) := by
  have l6 := h.l6
  have hm := h.ok _ (last_mem h ht)
  unfold F__law_fee b__law_fee
  refine call_eq rfl ?_
  dsimp only [startE, List.map, List.replicate, List.length, List.cons_append, List.nil_append, Nat.reduceAdd, Nat.reduceSub]
  repeat' trivial
  refine r_eq (comp_pure (so := .items (rs.map stepD)) (ds := rs.map stepD) (fun d => match d with | .tup [.int a, b, c] => if a ≤ t then some (.tup [.int a, b, c]) else none | _ => none) rfl rfl (fun _ => rfl) ?_ ?_) ?_
  · rw [List.length_map]; show _ ≤ 1000000; omega
  · intro d hd acc
    obtain ⟨s, _, rfl⟩ := List.mem_map.mp hd
    dsimp only [wipeE, List.set, ruleD, stepD]
    repeat' trivial
    refine ⟨fun hb => ?_, fun hb => ?_⟩
    · have hb := of_decide_eq_true hb
      repeat' trivial
      rw [if_pos hb]
    · have hb := of_decide_eq_false hb
      simp [if_neg hb]
  rw [filt]
  repeat' trivial
  refine o1_ix ⟨_, _, rfl, by rw [atI_end, List.getLast?_map, last_some h ht]; rfl, ?_⟩
  dsimp only [stepD]
  repeat' trivial
/-- a well stands at n -/
def Well (n : Nat) (S : Store) : Prop := ∃ g a b, S[n]? = some [.int g, .int a, .int b]
/-- nothing but the well has changed -/
def Fr (n : Nat) (S S' : Store) : Prop := Well n S' ∧ S'.length = S.length ∧ ∀ m, m ≠ n → S'[m]? = S[m]?
theorem Fr.refl {n : Nat} {S : Store} (h : Well n S) : Fr n S S := ⟨h, rfl, fun _ _ => rfl⟩
theorem Fr.trans {n : Nat} {S S' S'' : Store} (h : Fr n S S') (h' : Fr n S' S'') : Fr n S S'' := ⟨h'.1, h'.2.1.trans h.2.1, fun m hm => (h'.2.2 m hm).trans (h.2.2 m hm)⟩
theorem Well.put {n : Nat} {S : Store} {x : List D} {g a b : Int} (h : S[n]? = some x) : Fr n S (S.set n [.int g, .int a, .int b]) :=
  ⟨⟨g, a, b, set_get _ h⟩, by simp, fun m hm => by rw [List.getElem?_set_ne (fun e => hm e.symm)]⟩
theorem draw_ok {n : Nat} {S : Store} (h : Well n S) {l : Int} (hl : 0 < l ∧ l < 1073741824) : Pst (F__law_draw [.loc n, .int l] S) (fun d S' => ∃ r, d = .int r ∧ 0 ≤ r ∧ r < l ∧ Fr n S S') NoE := by
  obtain ⟨g, a, b, hS⟩ := h
  unfold F__law_draw b__law_draw
  refine call_go rfl ?_
  dsimp only [startE, List.map, List.replicate, List.length, List.cons_append, List.nil_append, Nat.reduceAdd, Nat.reduceSub]
  repeat' trivial
  all_goals refine ⟨?_, ?_, ?_⟩
  · exact Int.emod_nonneg _ (by omega)
  · exact Int.emod_lt_of_pos _ hl.1
  · rw [List.take_of_length_le (by simp)]
    exact Well.put hS
  · exact Int.emod_nonneg _ (by omega)
  · exact Int.emod_lt_of_pos _ hl.1
  · rw [List.take_of_length_le (by simp), List.set_set]
    exact Well.put hS
theorem len_of {n : Nat} {S : Store} (h : Well n S) : n < S.length := by
  obtain ⟨g, a, b, h⟩ := h
  rcases Nat.lt_or_ge n S.length with h1 | h1
  · exact h1
  · rw [List.getElem?_eq_none h1] at h; cases h
theorem Fr.take {n : Nat} {S S' : Store} (h : Fr n S S') : S'.take S.length = S' := List.take_of_length_le (by rw [h.2.1]; exact Nat.le_refl _)
theorem atI_ok {α : Type} {xs : List α} {i : Int} (h : 0 ≤ i ∧ i < xs.length) : ∃ d, atI xs i = some d ∧ d ∈ xs ∧ xs[i.toNat]? = some d := by
  have h1 : i.toNat < xs.length := by omega
  refine ⟨xs[i.toNat], ?_, List.getElem_mem _, List.getElem?_eq_getElem h1⟩
  simp only [atI, ixN, if_pos h.1, if_pos h.2, Option.bind_some, List.getElem?_eq_getElem h1]
theorem of_ok {n : Nat} {S : Store} (h : Well n S) {ds : List D} (h0 : 0 < ds.length ∧ ds.length < 1000000) (hp : D.pures ds = true) : Pst (F__law_of [.loc n, .tup ds] S) (fun d S' => d ∈ ds ∧ d.pure = true ∧ Fr n S S') NoE := by
  unfold F__law_of b__law_of
  refine call_go rfl ?_
  dsimp only [startE, List.map, List.replicate, List.length, List.cons_append, List.nil_append, Nat.reduceAdd, Nat.reduceSub]
  repeat' trivial
  refine Pst.imp (draw_ok h (by omega)) ?_
  rintro _ S1 ⟨r, rfl, r0, r1, hf⟩
  obtain ⟨d, hd, hm, _⟩ := atI_ok (xs := ds) ⟨r0, r1⟩
  refine o1_ix ⟨_, _, rfl, hd, ?_⟩
  have hq := D.pures_iff.mp hp d hm
  rw [exit_pure hq, hf.take]
  exact ⟨hm, hq, hf⟩
def Bnd (lo hi : Int) (ds : List D) : Prop := ∀ d ∈ ds, ∃ i, d = D.int i ∧ lo ≤ i ∧ i ≤ hi
theorem bnd_nil {lo hi : Int} : Bnd lo hi [] := fun _ h => by cases h
theorem bnd_cons {lo hi i : Int} {ds : List D} (h : lo ≤ i ∧ i ≤ hi) (hb : Bnd lo hi ds) : Bnd lo hi (.int i :: ds) := by
  intro d hd
  rcases List.mem_cons.mp hd with rfl | hd
  · exact ⟨i, rfl, h⟩
  · exact hb d hd
theorem of_int (lo hi : Int) {n : Nat} {S : Store} (h : Well n S) {ds : List D} (h0 : 0 < ds.length ∧ ds.length < 1000000) (hb : Bnd lo hi ds) : Pst (F__law_of [.loc n, .tup ds] S) (fun d S' => ∃ r, d = .int r ∧ lo ≤ r ∧ r ≤ hi ∧ Fr n S S') NoE := by
  refine (of_ok h h0 (D.pures_iff.mpr fun d hd => ?_)).mono (fun d S1 h => ?_) fun _ _ h => h
  · obtain ⟨i, rfl, _⟩ := hb d hd
    rfl
  · obtain ⟨i, rfl, h1, h2⟩ := hb d h.1
    exact ⟨i, rfl, h1, h2, h.2.2⟩

theorem draw_go {n : Nat} {S : Store} {l : Int} {Q : D → Store → Prop} {E : XV → Store → Prop} (h : Well n S) (hl : 0 < l ∧ l < 1073741824) (k : ∀ r S', 0 ≤ r → r < l → Fr n S S' → Well n S' → Q (.int r) S') : Pst (F__law_draw [.loc n, .int l] S) Q E := by
  refine Pst.imp (draw_ok h hl) ?_
  rintro _ S1 ⟨r, rfl, r0, r1, hf⟩
  exact k r S1 r0 r1 hf hf.1
theorem of_go (lo hi : Int) {n : Nat} {S : Store} {ds : List D} {Q : D → Store → Prop} {E : XV → Store → Prop} (h : Well n S) (h0 : 0 < ds.length ∧ ds.length < 1000000) (hb : Bnd lo hi ds) (k : ∀ r S', lo ≤ r → r ≤ hi → Fr n S S' → Well n S' → Q (.int r) S') : Pst (F__law_of [.loc n, .tup ds] S) Q E := by
  refine Pst.imp (of_int lo hi h h0 hb) ?_
  rintro _ S1 ⟨r, rfl, r0, r1, hf⟩
  exact k r S1 r0 r1 hf hf.1
end LW
set_option Elab.async false
set_option linter.all false
set_option maxRecDepth 100000
set_option maxHeartbeats 4000000
namespace LW
open PySem L2 Evl PySem.Spec PyProof.Rows PF
local macro_rules | `(tactic| trivial) => `(tactic| first
  | (with_reducible first | refine v0 ?_ | refine v1 ?_ | refine v2 ?_ | refine v3 ?_ | refine v4 ?_ | refine v5 ?_ | refine v6 ?_ | refine v7 ?_ | refine v8 ?_ | refine v9 ?_ | refine v10 ?_ | refine v11 ?_ | refine v12 ?_ | refine v13 ?_ | refine tn0 ?_ | refine tn1 ?_ | refine tn2 ?_ | refine tn3 ?_ | refine tn4 ?_ | refine tn5 ?_ | refine tn6 ?_ | refine tn7 ?_ | refine tn8 ?_ | refine tn9 ?_ | refine tn10 ?_ | refine tn11 ?_ | refine tn12 ?_ | refine tn13 ?_ | refine ss0 ?_ | refine ss1 ?_ | refine ss2 ?_ | refine ss3 ?_ | refine ss4 ?_ | refine ss5 ?_ | refine ss6 ?_ | refine ss7 ?_ | refine ss8 ?_ | refine ss9 ?_ | refine ss10 ?_ | refine ss11 ?_ | refine ss12 ?_ | refine ss13 ?_)
  | (with_reducible first | refine r_k ?_ | refine r_bin ?_ | refine r_cons ?_ | refine r_nil ?_ | refine r_call ?_ | refine r_blt ?_ | refine r_un ?_ | refine r_ok ?_ | refine s_seq ?_ | refine s_ret ?_ | refine s_if ?_ | refine s_expr ?_ | refine s_asg ?_ | refine s_par ?_ | refine s_nil ?_ | refine s_brk ?_ | refine s_ct ?_ | refine s_for ?_ | refine bool_t ?_ | refine bool_and ?_ | refine bool_or ?_ | refine bool_not ?_ | refine bool_yes ?_ | refine r_and ?_ | refine r_or ?_ | refine r_not ?_ | refine r_ife ?_ | refine r_chain ?_ | refine r_isi ?_ | refine r_lam ?_ | refine r_back ?_ | refine r_listR1 ?_ | refine r_callK ?_ | refine r_mt ?_ | refine r_alloc ?_ | refine r_sliceA ?_ | refine r_sliceL ?_ | refine r_no ?_ | refine r_part ?_ | refine r_scope ?_ | refine t_nil ?_ | refine t_cons ?_ | refine q_seq ?_ | refine q_range ?_ | refine q_range2 ?_ | refine q_rangeD ?_ | refine q_enumA ?_ | refine nx_nx ?_ | refine nx_ret ?_ | refine nx_exc ?_ | refine nx_brk ?_ | refine nx_ct ?_ | refine bl_bl ?_ | refine cs_not ?_ | refine cs_t ?_ | refine cs_f ?_ | refine r_bind ?_ | refine r_nox ?_ | refine t_sub ?_ | refine s_retL ?_ | refine o1_sub ?_ | refine o1_add ?_ | refine o1_lt ?_ | refine o1_le ?_ | refine o1_gt ?_ | refine o1_ge ?_ | refine o1_neg ?_ | refine o1_eq ?_ | refine o1_ne ?_ | refine b1_abs ?_ | refine b1_int ?_ | refine b1_min2 ?_ | refine b1_max2 ?_ | refine o1_eqA ?_ | refine o1_neA ?_ | refine o1_eqS ?_ | refine o1_isN ?_ | refine o1_notN ?_ | refine x_bl ?_ | refine x_int ?_ | refine x_str ?_ | refine x_non ?_ | refine x_nx ?_ | refine x_tup ?_ | refine x_lst ?_ | refine sl_tup ?_ | refine sl_lst ?_ | refine sl_fz ?_ | refine sL_lst ?_ | refine sL_fz ?_)
  | (with_reducible first | refine r_tup ?_ | refine r_lst ?_ | refine o1_addT ?_ | refine o1_addL ?_ | refine b1_len ?_ | refine b1_tuple ?_ | refine b1_list ?_ | refine o1_cat ?_ | refine m1_append ?_ | refine o_pow10_1 ?_ | refine o_pow10_2 ?_ | refine o_pow10_3 ?_ | refine o_pow10_4 ?_ | refine o_pow10_5 ?_ | refine o_pow10_6 ?_ | refine o_pow10_7 ?_ | refine o_pow10_8 ?_ | refine o_pow10_9 ?_ | refine o_pow10_10 ?_ | refine o_pow10_11 ?_ | refine o_pow10_12 ?_ | refine o_pow10_13 ?_ | refine o_pow10_14 ?_ | refine o_pow10_15 ?_ | refine o_pow10_16 ?_ | refine o_pow10_17 ?_ | refine o_pow10_18 ?_ | refine o_pow10_20 ?_ | refine o_pow10_30 ?_)
  | ((with_reducible refine o1_ix ?_); refine ⟨_, _, by first | rfl | assumption, by first | rfl | exact atI_zero, ?_⟩)
  | ((with_reducible refine o1_mul ?_ ?_); first | omega | decide | fail)
  | ((with_reducible refine o1_div ?_ ?_); first | omega | decide | fail)
  | ((with_reducible refine o1_mod ?_ ?_); first | omega | decide | fail)
  | ((with_reducible refine b1_divmod ?_ ?_); first | omega | decide | fail)
  | ((with_reducible refine t_tup ?_ ?_); rfl)
  | ((with_reducible refine r_callV ?_ ?_); rfl)
  | (with_reducible refine cs_dec (fun _ => ?_) (fun _ => ?_))
  | (with_reducible refine cs_beq (fun _ => ?_) (fun _ => ?_))
  | ((with_reducible refine cs_te ?_ ?_); rfl)
  | ((with_reducible refine cs_fe ?_ ?_); rfl)
  | ((with_reducible refine put0 (by assumption) ?_ fun _ => ?_); first | rfl | fail)
  | ((with_reducible refine put1 (by assumption) ?_ fun _ => ?_); first | rfl | fail)
  | ((with_reducible refine put2 (by assumption) ?_ fun _ => ?_); first | rfl | fail)
  | ((fail_if_success (with_reducible refine pst_id ?_)); first
    | exact take_same
    | (with_reducible refine fun (_ : Nat) (_ : Store) (_ : _ = _) (_ : _ = _) (_ : _ = _) => ?_)
    | ((fail_if_success (with_reducible refine And.intro ?_ ?_)); refine ⟨_, by first | rfl | assumption, ?_⟩)
    | ((fail_if_success (with_reducible refine And.intro ?_ ?_)); refine ⟨_, _, rfl, ?_⟩)
    | ((fail_if_success (with_reducible refine And.intro ?_ ?_)); refine ⟨_, _, by first | rfl | assumption, rfl, ?_⟩)
    | ((with_reducible refine And.intro ?_ ?_); first | exact rfl | omega | (simp only [List.length_map]; omega) | exact ⟨rfl, rfl⟩ | exact Nat.le_of_ble_eq_true rfl | fail))
  | ((with_reducible refine draw_go (by assumption) ?_ ?_); (first | omega | (simp only [List.length_map]; omega) | fail); intro _ _ _ _ _ _)
  | ((with_reducible refine of_go (0) (1000) (by assumption) ?_ ?_ ?_); (exact ⟨Nat.zero_lt_succ _, Nat.le_of_ble_eq_true rfl⟩); (focus ((repeat (first | exact bnd_nil | refine bnd_cons (by omega) ?_)); (all_goals fail))); intro _ _ _ _ _ _)
  | ((with_reducible refine of_go (1) (100000) (by assumption) ?_ ?_ ?_); (exact ⟨Nat.zero_lt_succ _, Nat.le_of_ble_eq_true rfl⟩); (focus ((repeat (first | exact bnd_nil | refine bnd_cons (by omega) ?_)); (all_goals fail))); intro _ _ _ _ _ _)
  | ((with_reducible refine of_go (1) (1000000) (by assumption) ?_ ?_ ?_); (exact ⟨Nat.zero_lt_succ _, Nat.le_of_ble_eq_true rfl⟩); (focus ((repeat (first | exact bnd_nil | refine bnd_cons (by omega) ?_)); (all_goals fail))); intro _ _ _ _ _ _)
  | ((with_reducible refine of_go (0) (1000000) (by assumption) ?_ ?_ ?_); (exact ⟨Nat.zero_lt_succ _, Nat.le_of_ble_eq_true rfl⟩); (focus ((repeat (first | exact bnd_nil | refine bnd_cons (by omega) ?_)); (all_goals fail))); intro _ _ _ _ _ _)
  | ((with_reducible refine of_go (1) (1000001) (by assumption) ?_ ?_ ?_); (exact ⟨Nat.zero_lt_succ _, Nat.le_of_ble_eq_true rfl⟩); (focus ((repeat (first | exact bnd_nil | refine bnd_cons (by omega) ?_)); (all_goals fail))); intro _ _ _ _ _ _))
local macro_rules | `(tactic| done) => `(tactic| first
  | (with_reducible first | refine v0 ?_ | refine v1 ?_ | refine v2 ?_ | refine v3 ?_ | refine v4 ?_ | refine v5 ?_ | refine v6 ?_ | refine v7 ?_ | refine v8 ?_ | refine v9 ?_ | refine v10 ?_ | refine v11 ?_ | refine v12 ?_ | refine v13 ?_ | refine tn0 ?_ | refine tn1 ?_ | refine tn2 ?_ | refine tn3 ?_ | refine tn4 ?_ | refine tn5 ?_ | refine tn6 ?_ | refine tn7 ?_ | refine tn8 ?_ | refine tn9 ?_ | refine tn10 ?_ | refine tn11 ?_ | refine tn12 ?_ | refine tn13 ?_ | refine ss0 ?_ | refine ss1 ?_ | refine ss2 ?_ | refine ss3 ?_ | refine ss4 ?_ | refine ss5 ?_ | refine ss6 ?_ | refine ss7 ?_ | refine ss8 ?_ | refine ss9 ?_ | refine ss10 ?_ | refine ss11 ?_ | refine ss12 ?_ | refine ss13 ?_)
  | (with_reducible first | refine r_k ?_ | refine r_bin ?_ | refine r_cons ?_ | refine r_nil ?_ | refine r_call ?_ | refine r_blt ?_ | refine r_un ?_ | refine r_ok ?_ | refine s_seq ?_ | refine s_ret ?_ | refine s_if ?_ | refine s_expr ?_ | refine s_asg ?_ | refine s_par ?_ | refine s_nil ?_ | refine s_brk ?_ | refine s_ct ?_ | refine s_for ?_ | refine bool_t ?_ | refine bool_and ?_ | refine bool_or ?_ | refine bool_not ?_ | refine bool_yes ?_ | refine r_and ?_ | refine r_or ?_ | refine r_not ?_ | refine r_ife ?_ | refine r_chain ?_ | refine r_isi ?_ | refine r_lam ?_ | refine r_back ?_ | refine r_listR1 ?_ | refine r_callK ?_ | refine r_mt ?_ | refine r_alloc ?_ | refine r_sliceA ?_ | refine r_sliceL ?_ | refine r_no ?_ | refine r_part ?_ | refine r_scope ?_ | refine t_nil ?_ | refine t_cons ?_ | refine q_seq ?_ | refine q_range ?_ | refine q_range2 ?_ | refine q_rangeD ?_ | refine q_enumA ?_ | refine nx_nx ?_ | refine nx_ret ?_ | refine nx_exc ?_ | refine nx_brk ?_ | refine nx_ct ?_ | refine bl_bl ?_ | refine cs_not ?_ | refine cs_t ?_ | refine cs_f ?_ | refine r_bind ?_ | refine r_nox ?_ | refine t_sub ?_ | refine s_retL ?_ | refine o1_sub ?_ | refine o1_add ?_ | refine o1_lt ?_ | refine o1_le ?_ | refine o1_gt ?_ | refine o1_ge ?_ | refine o1_neg ?_ | refine o1_eq ?_ | refine o1_ne ?_ | refine b1_abs ?_ | refine b1_int ?_ | refine b1_min2 ?_ | refine b1_max2 ?_ | refine o1_eqA ?_ | refine o1_neA ?_ | refine o1_eqS ?_ | refine o1_isN ?_ | refine o1_notN ?_ | refine x_bl ?_ | refine x_int ?_ | refine x_str ?_ | refine x_non ?_ | refine x_nx ?_ | refine x_tup ?_ | refine x_lst ?_ | refine sl_tup ?_ | refine sl_lst ?_ | refine sl_fz ?_ | refine sL_lst ?_ | refine sL_fz ?_)
  | (with_reducible first | refine r_tup ?_ | refine r_lst ?_ | refine o1_addT ?_ | refine o1_addL ?_ | refine b1_len ?_ | refine b1_tuple ?_ | refine b1_list ?_ | refine o1_cat ?_ | refine m1_append ?_ | refine o_pow10_1 ?_ | refine o_pow10_2 ?_ | refine o_pow10_3 ?_ | refine o_pow10_4 ?_ | refine o_pow10_5 ?_ | refine o_pow10_6 ?_ | refine o_pow10_7 ?_ | refine o_pow10_8 ?_ | refine o_pow10_9 ?_ | refine o_pow10_10 ?_ | refine o_pow10_11 ?_ | refine o_pow10_12 ?_ | refine o_pow10_13 ?_ | refine o_pow10_14 ?_ | refine o_pow10_15 ?_ | refine o_pow10_16 ?_ | refine o_pow10_17 ?_ | refine o_pow10_18 ?_ | refine o_pow10_20 ?_ | refine o_pow10_30 ?_)
  | ((with_reducible refine o1_ix ?_); refine ⟨_, _, by first | rfl | assumption, by first | rfl | exact atI_zero, ?_⟩)
  | ((with_reducible refine o1_mul ?_ ?_); first | omega | decide | fail)
  | ((with_reducible refine o1_div ?_ ?_); first | omega | decide | fail)
  | ((with_reducible refine o1_mod ?_ ?_); first | omega | decide | fail)
  | ((with_reducible refine b1_divmod ?_ ?_); first | omega | decide | fail)
  | ((with_reducible refine t_tup ?_ ?_); rfl)
  | ((with_reducible refine r_callV ?_ ?_); rfl)
  | (with_reducible refine cs_dec (fun _ => ?_) (fun _ => ?_))
  | (with_reducible refine cs_beq (fun _ => ?_) (fun _ => ?_))
  | ((with_reducible refine cs_te ?_ ?_); rfl)
  | ((with_reducible refine cs_fe ?_ ?_); rfl)
  | ((with_reducible refine put0 (by assumption) ?_ fun _ => ?_); first | rfl | fail)
  | ((with_reducible refine put1 (by assumption) ?_ fun _ => ?_); first | rfl | fail)
  | ((with_reducible refine put2 (by assumption) ?_ fun _ => ?_); first | rfl | fail)
  | ((fail_if_success (with_reducible refine pst_id ?_)); first
    | exact take_same
    | (with_reducible refine fun (_ : Nat) (_ : Store) (_ : _ = _) (_ : _ = _) (_ : _ = _) => ?_)
    | ((fail_if_success (with_reducible refine And.intro ?_ ?_)); refine ⟨_, by first | rfl | assumption, ?_⟩)
    | ((fail_if_success (with_reducible refine And.intro ?_ ?_)); refine ⟨_, _, rfl, ?_⟩)
    | ((fail_if_success (with_reducible refine And.intro ?_ ?_)); refine ⟨_, _, by first | rfl | assumption, rfl, ?_⟩)
    | ((with_reducible refine And.intro ?_ ?_); first | exact rfl | omega | (simp only [List.length_map]; omega) | exact ⟨rfl, rfl⟩ | exact Nat.le_of_ble_eq_true rfl | fail))
  | ((with_reducible refine draw_go (by assumption) ?_ ?_); (first | omega | (simp only [List.length_map]; omega) | fail); intro _ _ _ _ _ _)
  | ((with_reducible refine of_go (0) (1000) (by assumption) ?_ ?_ ?_); (exact ⟨Nat.zero_lt_succ _, Nat.le_of_ble_eq_true rfl⟩); (focus ((repeat (first | exact bnd_nil | refine bnd_cons (by omega) ?_)); (all_goals fail))); intro _ _ _ _ _ _)
  | ((with_reducible refine of_go (1) (100000) (by assumption) ?_ ?_ ?_); (exact ⟨Nat.zero_lt_succ _, Nat.le_of_ble_eq_true rfl⟩); (focus ((repeat (first | exact bnd_nil | refine bnd_cons (by omega) ?_)); (all_goals fail))); intro _ _ _ _ _ _)
  | ((with_reducible refine of_go (1) (1000000) (by assumption) ?_ ?_ ?_); (exact ⟨Nat.zero_lt_succ _, Nat.le_of_ble_eq_true rfl⟩); (focus ((repeat (first | exact bnd_nil | refine bnd_cons (by omega) ?_)); (all_goals fail))); intro _ _ _ _ _ _)
  | ((with_reducible refine of_go (0) (1000000) (by assumption) ?_ ?_ ?_); (exact ⟨Nat.zero_lt_succ _, Nat.le_of_ble_eq_true rfl⟩); (focus ((repeat (first | exact bnd_nil | refine bnd_cons (by omega) ?_)); (all_goals fail))); intro _ _ _ _ _ _)
  | ((with_reducible refine of_go (1) (1000001) (by assumption) ?_ ?_ ?_); (exact ⟨Nat.zero_lt_succ _, Nat.le_of_ble_eq_true rfl⟩); (focus ((repeat (first | exact bnd_nil | refine bnd_cons (by omega) ?_)); (all_goals fail))); intro _ _ _ _ _ _)
  | ((fail_if_success (with_reducible refine pst_id ?_)); first | (with_reducible rfl) | assumption | contradiction))
theorem asc_iff : ∀ ns : List Int, ascB ns = true ↔ ns.Pairwise (· < ·)
  | [] => by simp [ascB]
  | [a] => by simp [ascB]
  | a :: b :: l => by
    have ih := asc_iff (b :: l)
    have e : ascB (a :: b :: l) = (decide (a < b) && ascB (b :: l)) := by simp [ascB]
    rw [e, Bool.and_eq_true, ih, decide_eq_true_eq, List.pairwise_cons (a := a)]
    constructor
    · rintro ⟨h1, h2⟩
      refine ⟨fun x hx => ?_, h2⟩
      rcases List.mem_cons.mp hx with rfl | hx
      · exact h1
      · exact Int.lt_trans h1 ((List.pairwise_cons.mp h2).1 x hx)
    · rintro ⟨h1, h2⟩
      exact ⟨h1 b (List.mem_cons_self ..), h2⟩
/-- more may have been laid behind -/
def FrX (n : Nat) (S S' : Store) : Prop := Well n S' ∧ S.length ≤ S'.length ∧ ∀ m, m < S.length → m ≠ n → S'[m]? = S[m]?
theorem Fr.x {n : Nat} {S S' : Store} (h : Fr n S S') : FrX n S S' := ⟨h.1, by rw [h.2.1]; exact Nat.le_refl _, fun m _ hn => h.2.2 m hn⟩
theorem FrX.trans {n : Nat} {S S' S'' : Store} (h : FrX n S S') (h' : FrX n S' S'') : FrX n S S'' := ⟨h'.1, Nat.le_trans h.2.1 h'.2.1, fun m hm hn => (h'.2.2 m (Nat.lt_of_lt_of_le hm h.2.1) hn).trans (h.2.2 m hm hn)⟩
theorem FrX.cut {n : Nat} {S S' : Store} (h : FrX n S S') (hn : n < S.length) : Fr n S (S'.take S.length) := by
  obtain ⟨⟨g, a, b, hw⟩, hl, hm⟩ := h
  refine ⟨⟨g, a, b, by rw [List.getElem?_take_of_lt hn]; exact hw⟩, by simp; omega, fun m hne => ?_⟩
  by_cases h1 : m < S.length
  · rw [List.getElem?_take_of_lt h1]; exact hm m h1 hne
  · rw [List.getElem?_eq_none (by simp; omega), List.getElem?_eq_none (by omega)]
theorem Well.more {n : Nat} {S : Store} (h : Well n S) (x : List D) : Well n (S ++ [x]) := by
  have := len_of h
  obtain ⟨g, a, b, h⟩ := h
  exact ⟨g, a, b, by rw [List.getElem?_append_left this]; exact h⟩
theorem FrX.lay {n : Nat} {S : Store} (h : Well n S) (x : List D) : FrX n S (S ++ [x]) := ⟨h.more x, by simp, fun m hm _ => List.getElem?_append_left hm⟩
theorem Well.other {n m : Nat} {S : Store} (h : Well n S) (hm : m ≠ n) (x : List D) : Well n (S.set m x) := by
  obtain ⟨g, a, b, h⟩ := h
  exact ⟨g, a, b, by rw [List.getElem?_set_ne hm]; exact h⟩
theorem Fr.back {n : Nat} {S S2 : Store} {x : List D} (hw : Well n S) (h : Fr n (S ++ [x]) S2) : ∃ S3, S2 = S3 ++ [x] ∧ Fr n S S3 := by
  have hn := len_of hw
  have hl : S2.length = S.length + 1 := by rw [h.2.1]; simp
  have e : S2[S.length]? = some x := by rw [h.2.2 _ (by omega)]; simp
  refine ⟨S2.take S.length, ?_, ?_⟩
  · have h2 : S.length < S2.length := by omega
    rw [List.getElem?_eq_getElem h2] at e
    cases e
    have := List.take_succ_eq_append_getElem h2
    rw [← this, List.take_of_length_le (by omega)]
  · obtain ⟨g, a, b, hg⟩ := h.1
    refine ⟨⟨g, a, b, by rw [List.getElem?_take_of_lt hn]; exact hg⟩, by simp; omega, fun m hm => ?_⟩
    by_cases h1 : m < S.length
    · rw [List.getElem?_take_of_lt h1, h.2.2 m hm, List.getElem?_append_left h1]
    · rw [List.getElem?_eq_none (by simp; omega), List.getElem?_eq_none (by omega)]
def okS (s : St) : Prop := (0 ≤ s.1 ∧ s.1 ≤ 1000000) ∧ (0 ≤ s.2.1 ∧ s.2.1 ≤ 1000000) ∧ (0 ≤ s.2.2 ∧ s.2.2 ≤ 1000)
/-- a rule that grows, with no start behind top -/
structure Grow (k : Nat) (rs : List St) (top : Int) : Prop where
  l1 : 1 ≤ rs.length
  lk : rs.length ≤ k
  ok : ∀ s ∈ rs, okS s
  h0 : (rs.getD 0 (0, 0, 0)).1 = 0
  asc : (rs.map (·.1)).Pairwise (· < ·)
  top : ∀ s ∈ rs, s.1 ≤ top
theorem Grow.rule {k : Nat} {rs : List St} {top : Int} (h : Grow k rs top) (hk : k ≤ 6) : Rule rs := ⟨h.l1, Nat.le_trans h.lk hk, h.ok, h.h0, (asc_iff _).mpr h.asc⟩
theorem Grow.one {b r : Int} (hb : 0 ≤ b ∧ b ≤ 1000000) (hr : 0 ≤ r ∧ r ≤ 1000) : Grow 1 [(0, b, r)] 0 := by
  refine ⟨by simp, by simp, ?_, rfl, by simp, ?_⟩
  · intro s hs
    rw [List.mem_singleton] at hs
    subst hs
    exact ⟨⟨Int.le_refl _, (by decide : (0 : Int) ≤ 1000000)⟩, hb, hr⟩
  · intro s hs
    rw [List.mem_singleton] at hs
    subst hs
    exact Int.le_refl _
theorem Grow.up {k m : Nat} {rs : List St} {a b : Int} (h : Grow k rs a) (hk : k ≤ m) (hb : a ≤ b) : Grow m rs b := ⟨h.l1, Nat.le_trans h.lk hk, h.ok, h.h0, h.asc, fun s hs => Int.le_trans (h.top s hs) hb⟩
theorem Grow.add {k : Nat} {rs : List St} {top : Int} (h : Grow k rs top) {s : St} (hs : okS s) (ht : top < s.1) : Grow (k + 1) (rs ++ [s]) s.1 := by
  refine ⟨by simp, by simp; exact h.lk, ?_, ?_, ?_, ?_⟩
  · intro x hx
    rcases List.mem_append.mp hx with hx | hx
    · exact h.ok x hx
    · rw [List.mem_singleton] at hx; subst hx; exact hs
  · have := h.h0
    have l1 := h.l1
    match rs, l1, this with
    | x :: rs, _, h0 => exact h0
  · rw [List.map_append, List.pairwise_append]
    refine ⟨h.asc, by simp, fun x hx y hy => ?_⟩
    obtain ⟨z, hz, rfl⟩ := List.mem_map.mp hx
    simp only [List.map_cons, List.map_nil, List.mem_singleton] at hy
    subst hy
    exact Int.lt_of_le_of_lt (h.top z hz) ht
  · intro x hx
    rcases List.mem_append.mp hx with hx | hx
    · exact Int.le_of_lt (Int.lt_of_le_of_lt (h.top x hx) ht)
    · rw [List.mem_singleton] at hx; subst hx; exact Int.le_refl _
theorem insI_mem (x : Int) : ∀ (l : List Int) (y : Int), y ∈ insI x l ↔ y = x ∨ y ∈ l
  | [], y => by simp [insI]
  | a :: l, y => by
    unfold insI
    split
    · simp
    · simp only [List.mem_cons, insI_mem x l y]
      constructor
      · rintro (h | h | h) <;> simp [h]
      · rintro (h | h | h) <;> simp [h]
theorem insI_len (x : Int) : ∀ l : List Int, (insI x l).length = l.length + 1
  | [] => rfl
  | a :: l => by
    unfold insI
    split
    · simp
    · simp [insI_len x l]
theorem insI_pw (x : Int) : ∀ l : List Int, l.Pairwise (· ≤ ·) → (insI x l).Pairwise (· ≤ ·)
  | [], _ => by simp [insI]
  | a :: l, h => by
    unfold insI
    have h1 := List.pairwise_cons.mp h
    split
    · rename_i hx
      refine List.pairwise_cons.mpr ⟨fun y hy => ?_, h⟩
      rcases List.mem_cons.mp hy with rfl | hy
      · exact hx
      · exact Int.le_trans hx (h1.1 y hy)
    · rename_i hx
      refine List.pairwise_cons.mpr ⟨fun y hy => ?_, insI_pw x l h1.2⟩
      rcases (insI_mem x l y).mp hy with rfl | hy
      · omega
      · exact h1.1 y hy
theorem sortI_len : ∀ l : List Int, (sortI l).length = l.length
  | [] => rfl
  | a :: l => by simp [sortI, insI_len, sortI_len l]
theorem sortI_mem : ∀ (l : List Int) (y : Int), y ∈ sortI l ↔ y ∈ l
  | [], y => by simp [sortI]
  | a :: l, y => by simp [sortI, insI_mem, sortI_mem l y]
theorem sortI_pw : ∀ l : List Int, (sortI l).Pairwise (· ≤ ·)
  | [] => by simp [sortI]
  | a :: l => insI_pw a _ (sortI_pw l)
theorem last_of {rs : List St} (h : 1 ≤ rs.length) : ∃ z, rs.getLast? = some z ∧ z ∈ rs := by
  match hz : rs.getLast?, h with
  | some z, _ => exact ⟨z, rfl, List.mem_of_getLast? hz⟩
  | none, h =>
    rw [List.getLast?_eq_none_iff] at hz
    subst hz
    cases h
theorem feeN_b {rs : List St} (h : Rule rs) {t : Int} (ht : 0 ≤ t) : 0 ≤ feeN rs t := by
  have hm := h.ok _ (last_mem h ht)
  unfold feeN
  have := Int.mul_nonneg hm.2.2.1 ht
  omega
theorem rate_ok {l r s : Int} (hs : 1 ≤ s) (h : r ≤ l * 1000 / s) : (r * s + 999) / 1000 ≤ l := by
  have h1 : r * s ≤ l * 1000 := (Int.le_ediv_iff_mul_le (by omega)).mp h
  omega
theorem level_ok {n : Nat} {S : Store} (h : Well n S) {many wide : Int} (hm : 1 ≤ many ∧ many ≤ 6) (hw : 1 ≤ wide ∧ wide ≤ 100000) :
    Pst (F__law_level_rule [.loc n, .int many, .int wide] S) (fun d S' => ∃ rs, d = ruleD rs ∧ Rule rs ∧ Fr n S S') NoE := by
  unfold F__law_level_rule b__law_level_rule
  refine call_go rfl ?_
  dsimp only [startE, List.map, List.replicate, List.length, List.cons_append, List.nil_append, Nat.reduceAdd, Nat.reduceSub]
  repeat' trivial
  rename_i b S1 b0 b1 f1 w1 r S2 r0 r1 f2 w2
  refine for_of (fun i ρ S' => ∃ rs st x5 x6 x7, ρ = [some (.loc n), some (.int many), some (.int wide), some (.tup (rs.map stepD)), some (.int st), x5, x6, x7] ∧ Grow (i + 1) rs st ∧ 0 ≤ st ∧ Fr n S S') ?_ (fun _ _ _ _ => rfl) ?_ ?_
  · exact ⟨[(0, b, r)], 0, none, none, none, rfl, Grow.one (by omega) (by omega), Int.le_refl _, by repeat (first | assumption | refine Fr.trans ?_ (by assumption))⟩
  · rintro i d ρ S3 hd ⟨rs, st, x5, x6, x7, rfl, hg, hst, hf⟩
    have hi : i + 1 ≤ 5 := by
      have h1 : i < (ranged 0 (many - 1).toNat).length := by
        rcases Nat.lt_or_ge i (ranged 0 (many - 1).toNat).length with h | h
        · exact h
        · rw [List.getElem?_eq_none h] at hd; cases hd
      rw [ranged_len] at h1
      omega
    have w3 := hf.1
    have hr := hg.rule (by omega)
    repeat' trivial
    · rename_i v S4 v0 v1 f4 w4 hle
      refine r_eq (law_fee_eq hr (by omega)) ?_
      have hfee := feeN_b hr (t := st + 1 + v - 1) (by omega)
      repeat' trivial
      obtain ⟨z, hz, hzm⟩ := last_of hg.l1
      obtain ⟨⟨z1, z2⟩, ⟨z3, z4⟩, z5, z6⟩ := hg.ok z hzm
      refine o1_ix ⟨_, _, rfl, (by rw [atI_end, List.getLast?_map, hz]; rfl), ?_⟩
      rw [show stepD z = .tup [.int z.1, .int z.2.1, .int z.2.2] from rfl]
      repeat' trivial
      rename_i q S5 q0 q1 f5 w5 u S6 u0 u1 f6 w6
      have hs1 : 1 ≤ st + 1 + v := by omega
      have key := rate_ok (l := 1 + feeN rs (st + 1 + v - 1)) hs1 (Int.min_le_right u ((1 + feeN rs (st + 1 + v - 1)) * 1000 / (st + 1 + v)))
      have k0 : 0 ≤ (1 + feeN rs (st + 1 + v - 1)) * 1000 / (st + 1 + v) := Int.ediv_nonneg (by omega) (by omega)
      repeat' trivial
      rename_i e S7 e0 e1 f7 w7 c S8 c0 c1 f8 w8
      have hlk := hg.lk
      refine ⟨by rw [List.length_map]; show _ + 1 ≤ 1000000; omega, ?_⟩
      have hok : okS (st + 1 + v, c, min u ((1 + feeN rs (st + 1 + v - 1)) * 1000 / (st + 1 + v))) := ⟨⟨by show 0 ≤ st + 1 + v; omega, hle⟩, ⟨c0, c1⟩, ⟨by show 0 ≤ min _ _; omega, by show min _ _ ≤ 1000; omega⟩⟩
      refine ⟨rs ++ [(st + 1 + v, c, min u ((1 + feeN rs (st + 1 + v - 1)) * 1000 / (st + 1 + v)))], st + 1 + v, _, _, _, (by rw [List.map_append]; rfl), (hg.add hok (by show st < st + 1 + v; omega)), by omega, by repeat (first | assumption | refine Fr.trans ?_ (by assumption))⟩
    · exact ⟨rs, _, _, _, _, rfl, hg.up (by omega) (by omega), by omega, by repeat (first | assumption | refine Fr.trans ?_ (by assumption))⟩
  · rintro ρ S3 ⟨rs, st, x5, x6, x7, rfl, hg, hst, hf⟩
    rw [ranged_len] at hg
    repeat' trivial
    refine ⟨D.pures_iff.mpr fun d hd => ?_, rs, rfl, hg.rule (by omega), ?_⟩
    · obtain ⟨s, _, rfl⟩ := List.mem_map.mp hd
      rfl
    · rw [hf.take]; exact hf

theorem lrule_ok {n : Nat} {S : Store} (h : Well n S) : Pst (F__law_rule [.loc n] S) (fun d S' => ∃ rs, d = ruleD rs ∧ Rule rs ∧ Fr n S S') NoE := by
  unfold F__law_rule b__law_rule
  refine call_go rfl ?_
  dsimp only [startE, List.map, List.replicate, List.length, List.cons_append, List.nil_append, Nat.reduceAdd, Nat.reduceSub]
  repeat' trivial
  · rename_i r S1 r0 r1 f1 w1 e q S2 q0 q1 f2 w2 u S3 u0 u1 f3 w3
    refine Pst.imp (level_ok w3 (by omega) (by omega)) ?_
    rintro _ S4 ⟨rs, rfl, hr, f4⟩
    repeat' trivial
    have hp : (ruleD rs).pure = true := D.pures_iff.mpr fun d hd => by
      obtain ⟨s, _, rfl⟩ := List.mem_map.mp hd
      rfl
    rw [exit_pure hp]
    have ff : Fr n S S4 := by repeat (first | assumption | refine Fr.trans ?_ (by assumption))
    exact ⟨rs, rfl, hr, by rw [ff.take]; exact ff⟩
  · refine r_comp ?_
    repeat' trivial
    rename_i r S1 r0 r1 f1 w1 e q S2 q0 q1 f2 w2
    refine comp_inv (ds := ranged 0 q.toNat) (fun i acc S' => Fr n S2 S' ∧ ∃ ns : List Int, acc = ns.map D.int ∧ ns.length = i ∧ ∀ x ∈ ns, 1 ≤ x ∧ x ≤ 1000000) rfl ?_ rfl ?_ ?_ ?_ ?_
    · rintro i acc S3 ⟨f3, _⟩
      exact ⟨f3.2.1, rfl⟩
    · rw [ranged_len]; show _ ≤ 1000000; omega
    · exact ⟨Fr.refl w2, [], rfl, rfl, fun x hx => by cases hx⟩
    · rintro i d acc S3 hd ⟨f3, ns, rfl, hl, hb⟩
      have w3 := f3.1.more (ns.map D.int)
      dsimp only [wipeE, List.set]
      repeat' trivial
      refine ⟨fun _ => ?_, fun hb => by cases hb⟩
      repeat' trivial
      rename_i u S4 u0 u1 f4 w4 v S5 v0 v1 f5 w5
      obtain ⟨S6, rfl, f6⟩ := Fr.back f3.1 (f4.trans f5)
      refine ⟨S6, rfl, rfl, f3.trans f6, ns ++ [1 + v], by simp, by simp [hl], fun x hx => ?_⟩
      rcases List.mem_append.mp hx with hx | hx
      · exact hb x hx
      · rw [List.mem_singleton] at hx; omega
    rintro acc S3 ⟨f3, ns, rfl, hl, hb⟩
    rw [ranged_len] at hl
    have w3 := f3.1
    repeat' trivial
    refine b1_sorted ?_
    repeat' trivial
    rename_i b S4 b0 b1 f4 w4 c S5 c0 c1 f5 w5 z S6 z0 z1 f6 w6 m0 S60 em eS6 hS6
    subst em
    subst eS6
    have hn6 := len_of w6
    have hL : (sortI ns).length ≤ 5 := by rw [sortI_len]; omega
    refine for_of (fun i ρ S' => ∃ x2 x4 x5 rs top, ρ = [some (.loc n), some (.lst ((sortI ns).map D.int)), x2, some (.loc S6.length), x4, x5] ∧ S'[S6.length]? = some (rs.map stepD) ∧ Grow (i + 1) rs top ∧ (i = 0 → top = 0) ∧ (0 < i → (sortI ns)[i - 1]? = some top) ∧ FrX n S6 S') ?_ (fun _ _ _ _ => rfl) ?_ ?_
    · exact ⟨_, _, _, [(0, c, z)], 0, rfl, (by simp [stepD]), Grow.one (by omega) (by omega), fun _ => rfl, (fun h => by cases h), FrX.lay w6 _⟩
    · rintro i d ρ S7 hd ⟨x2, x4, x5, rs, top, rfl, hm, hg, ht0, ht1, hf⟩
      have w7 := hf.1
      rw [numb_get, List.getElem?_map, Option.map_map] at hd
      obtain ⟨st, hst, rfl⟩ := Option.map_eq_some_iff.mp hd
      have hmem := (sortI_mem ns st).mp (List.mem_of_getElem? hst)
      have hsb := hb st hmem
      have hi5 : i < (sortI ns).length := by
        rcases Nat.lt_or_ge i (sortI ns).length with h | h
        · exact h
        · rw [List.getElem?_eq_none h] at hst; cases hst
      have htop : 0 < i → top ≤ st := fun h0 => by
        have h1 := ht1 h0
        have hp := List.pairwise_iff_getElem.mp (sortI_pw ns) (i - 1) i (by omega) hi5 (by omega)
        rw [List.getElem?_eq_getElem hi5] at hst
        rw [List.getElem?_eq_getElem (by omega)] at h1
        cases hst; cases h1
        exact hp
      dsimp only [Function.comp]
      repeat' trivial
      · rename_i h0 _ _ _ _ _ _ _ _ _ _ _ _ _ _ _ _ _ _
        have htop0 := ht0 (by omega)
        rename_i b' S8 b0' b1' f8 w8 c' S9 c0' c1' f9 w9 z' S10 z0' z1' f10 w10
        have ff : Fr n S7 S10 := f8.trans (f9.trans f10)
        have hm10 : S10[S6.length]? = some (rs.map stepD) := by rw [ff.2.2 _ (by omega)]; exact hm
        have hlk := hg.lk
        have fx := hf.trans ff.x
        refine ⟨_, hm10, ⟨rfl, by rw [List.length_map]; show _ < 1000000; omega⟩, fun hset => ?_⟩
        refine ⟨_, _, _, rs ++ [(st, c', z')], st, rfl, ?_, hg.add ⟨⟨by show 0 ≤ st; omega, hsb.2⟩, ⟨c0', by show c' ≤ 1000000; omega⟩, ⟨z0', by show z' ≤ 1000; omega⟩⟩ (by show top < st; omega), (fun h => by omega), (fun _ => hst), w10.other (by omega) _, (by simp; exact fx.2.1), fun k hk hne => by rw [List.getElem?_set_ne (by omega)]; exact fx.2.2 k hk hne⟩
        rw [hset, List.map_append]
        rfl
      · rename_i h0
        refine o1_ix ⟨_, _, rfl, (by rw [atI_nat _ (by omega), List.getElem?_map, show (((0 + i : Nat) : Int) - 1).toNat = i - 1 by omega, ht1 (by omega)]; rfl), ?_⟩
        repeat' trivial
        · rename_i b' S8 b0' b1' f8 w8 c' S9 c0' c1' f9 w9 z' S10 z0' z1' f10 w10
          have ff : Fr n S7 S10 := f8.trans (f9.trans f10)
          have hm10 : S10[S6.length]? = some (rs.map stepD) := by rw [ff.2.2 _ (by omega)]; exact hm
          have hlk := hg.lk
          have fx := hf.trans ff.x
          refine ⟨_, hm10, ⟨rfl, by rw [List.length_map]; show _ < 1000000; omega⟩, fun hset => ?_⟩
          refine ⟨_, _, _, rs ++ [(st, c', z')], st, rfl, ?_, hg.add ⟨⟨by show 0 ≤ st; omega, hsb.2⟩, ⟨c0', by show c' ≤ 1000000; omega⟩, ⟨z0', by show z' ≤ 1000; omega⟩⟩ (by show top < st; omega), (fun h => by omega), (fun _ => hst), w10.other (by omega) _, (by simp; exact fx.2.1), fun k hk hne => by rw [List.getElem?_set_ne (by omega)]; exact fx.2.2 k hk hne⟩
          rw [hset, List.map_append]
          rfl
        · exact ⟨_, _, _, rs, st, rfl, hm, hg.up (by omega) (htop (by omega)), (fun h => by omega), (fun _ => hst), hf⟩
    · rintro ρ S7 ⟨x2, x4, x5, rs, top, rfl, hm, hg, ht0, ht1, hf⟩
      have hlen : (numb 0 (List.map D.int (sortI ns))).length ≤ 5 := by rw [numb_len, List.length_map]; exact hL
      repeat' trivial
      refine ⟨D.pures_iff.mpr fun d hd => ?_, rs, rfl, hg.rule (by omega), ?_⟩
      · obtain ⟨s, _, rfl⟩ := List.mem_map.mp hd
        rfl
      · have ff : Fr n S S6 := by repeat (first | assumption | refine Fr.trans ?_ (by assumption))
        exact (ff.x.trans hf).cut (len_of h)
end LW
set_option Elab.async false
set_option linter.all false
set_option maxRecDepth 100000
set_option maxHeartbeats 4000000
/-! PFR: what repr asks of small data; numbers as data. -/
namespace PF
open PySem L2 Evl PySem.Spec PyProof.Rows
structure RP (k m : Nat) (d : D) : Prop where
  pure : d.pure = true
  show_ : d.py.showable = true
  leaf : PyData.leavesShort 13 d.py = true
  weight : d.py.weight ≤ m
  depth : d.py.depth ≤ k
theorem RP.mono {k m k' m' : Nat} {d : D} (h : RP k m d) (hk : k ≤ k') (hm : m ≤ m') : RP k' m' d := ⟨h.pure, h.show_, h.leaf, Nat.le_trans h.weight hm, Nat.le_trans h.depth hk⟩
theorem ro_int {i : Int} (h : -1000000000000 < i ∧ i < 1000000000000) : RP 0 41 (.int i) := by
  have h1 : i.natAbs < 10 ^ 12 := by
    have e : (10 : Nat) ^ 12 = 1000000000000 := by decide
    rw [e]; omega
  refine ⟨rfl, ?_, ?_, ?_, Nat.le_refl _⟩
  · show decide (i.natAbs.log2 < 1920) = true
    refine decide_eq_true ?_
    by_cases h0 : i.natAbs = 0
    · rw [h0]; decide
    · exact (Nat.log2_lt h0).mpr (Nat.lt_of_lt_of_le h1 (by decide +kernel))
  · show decide ((PyData.shown (.int i)).length ≤ 13) = true
    refine decide_eq_true ?_
    show (Str.ofString (toString i)).length ≤ 13
    rw [PySem.ofString_length]
    exact int_text_length_le10 (k := 12) (by decide) h1
  · show (if i == 0 then 0 else i.natAbs.log2 + 1) ≤ 41
    split
    · omega
    · rename_i hx
      have h0 : i.natAbs ≠ 0 := by simpa using hx
      have := (Nat.log2_lt h0 (k := 40)).mpr (Nat.lt_of_lt_of_le h1 (by decide +kernel))
      omega
theorem ro_non : RP 0 0 .non := ⟨rfl, rfl, rfl, Nat.le_refl _, Nat.le_refl _⟩
theorem ro_bl {b : Bool} : RP 0 0 (.bl b) := ⟨rfl, rfl, rfl, Nat.le_refl _, Nat.le_refl _⟩
theorem ros_pure {k m : Nat} {ds : List D} (h : ∀ d ∈ ds, RP k m d) : D.pures ds = true := D.pures_iff.mpr fun d hd => (h d hd).pure
theorem ros_show {k m : Nat} : ∀ {ds : List D}, (∀ d ∈ ds, RP k m d) → PyData.showableAll (D.pys ds) = true
  | [], _ => rfl
  | d :: ds, h => by
    simp only [D.pys, PyData.showableAll, (h d (List.mem_cons_self ..)).show_, ros_show fun x hx => h x (List.mem_cons_of_mem _ hx), Bool.and_self]
theorem ros_leaf {k m : Nat} : ∀ {ds : List D}, (∀ d ∈ ds, RP k m d) → PyData.leavesShortAll 13 (D.pys ds) = true
  | [], _ => rfl
  | d :: ds, h => by
    simp only [D.pys, PyData.leavesShortAll, (h d (List.mem_cons_self ..)).leaf, ros_leaf fun x hx => h x (List.mem_cons_of_mem _ hx), Bool.and_self]
theorem ros_weight {k m : Nat} : ∀ {ds : List D}, (∀ d ∈ ds, RP k m d) → PyData.weightAll (D.pys ds) ≤ (m + 1) * ds.length
  | [], _ => Nat.zero_le _
  | d :: ds, h => by
    have h1 := (h d (List.mem_cons_self ..)).weight
    have h2 := ros_weight fun x hx => h x (List.mem_cons_of_mem _ hx)
    simp only [D.pys, PyData.weightAll, List.length_cons, Nat.mul_add, Nat.mul_one]
    omega
theorem ros_depth {k m : Nat} : ∀ {ds : List D}, (∀ d ∈ ds, RP k m d) → PyData.depthAll (D.pys ds) ≤ k
  | [], _ => Nat.zero_le _
  | d :: ds, h => by
    have h1 := (h d (List.mem_cons_self ..)).depth
    have h2 := ros_depth fun x hx => h x (List.mem_cons_of_mem _ hx)
    simp only [D.pys, PyData.depthAll]
    omega
theorem ro_tup {k m : Nat} {ds : List D} (h : ∀ d ∈ ds, RP k m d) : RP (k + 1) ((m + 1) * ds.length) (.tup ds) := by
  refine ⟨by rw [D.pure]; exact ros_pure h, by rw [D.py, PyData.showable]; exact ros_show h, by rw [D.py, PyData.leavesShort]; exact ros_leaf h, by rw [D.py, PyData.weight]; exact ros_weight h, ?_⟩
  rw [D.py, PyData.depth]
  have := ros_depth h
  omega
theorem ro_lst {k m : Nat} {ds : List D} (h : ∀ d ∈ ds, RP k m d) : RP (k + 1) ((m + 1) * ds.length) (.lst ds) := by
  refine ⟨by rw [D.pure]; exact ros_pure h, by rw [D.py, PyData.showable]; exact ros_show h, by rw [D.py, PyData.leavesShort]; exact ros_leaf h, by rw [D.py, PyData.weight]; exact ros_weight h, ?_⟩
  rw [D.py, PyData.depth]
  have := ros_depth h
  omega
theorem ros_nil {k m : Nat} : ∀ d ∈ ([] : List D), RP k m d := fun _ h => by cases h
theorem ros_cons {k m : Nat} {d : D} {ds : List D} (h : RP k m d) (hs : ∀ x ∈ ds, RP k m x) : ∀ x ∈ d :: ds, RP k m x := fun x hx => by
  rcases List.mem_cons.mp hx with rfl | hx
  · exact h
  · exact hs x hx
theorem ro_ok {k m : Nat} {d : D} (h : RP k m d) (hk : k ≤ 60) (hm : m ≤ 700000) : reprOk d = true := by
  have h1 := PyData.shown_le 13 (by decide) d.py h.leaf
  have h2 := h.weight
  have h3 := h.depth
  have e : sizeLine = 16777216 := rfl
  unfold reprOk
  simp only [Bool.and_eq_true, decide_eq_true_eq]
  refine ⟨⟨⟨h.pure, h.show_⟩, by omega⟩, ?_⟩
  rw [e]; omega
theorem repr_eq {d : D} (h : reprOk d = true) {S : Store} : bRepr [d] S = some (.ok (.str d.py.shown), S) := by
  have e : told S d = d := by
    cases d <;> first | rfl | skip
    unfold reprOk at h
    simp [D.pure] at h
  unfold bRepr
  simp only [e, h, if_true]
/-! ### numbers -/
def nD (k : Nat) : D := .int (k : Int)
theorem ranged_nD (n : Nat) : ranged 0 n = (List.range n).map nD := by
  refine List.ext_getElem? fun i => ?_
  by_cases hi : i < n
  · rw [ranged_get _ _ _ hi, List.getElem?_map, List.getElem?_range hi, Int.zero_add]; rfl
  · rw [List.getElem?_eq_none (by rw [ranged_len]; omega), List.getElem?_eq_none (by simp; omega)]
abbrev tI (ns : List Int) : D := .tup (ns.map D.int)
theorem pures_nD {ks : List Nat} : D.pures (ks.map nD) = true := by
  refine D.pures_iff.mpr fun d hd => ?_
  obtain ⟨i, _, rfl⟩ := List.mem_map.mp hd
  rfl
/-- an item of a tuple of numbers -/
theorem ix_int {ns : List Int} {k : Int} {S : Store} {Q : D → Store → Prop} {E : XV → Store → Prop} {x : D} (hx : asS x S = some (ns.map D.int)) (h0 : 0 ≤ k ∧ k < ns.length) (h : Q (.int (ns.getD k.toNat 0)) S) : Pst (oIx x (.int k) S) Q E := by
  refine o1_ix ⟨_, _, hx, ?_, h⟩
  rw [atI_nat _ h0.1, List.getElem?_map]
  have : k.toNat < ns.length := by omega
  rw [List.getD_eq_getElem?_getD, List.getElem?_eq_getElem this]
  rfl
end PF
set_option Elab.async false
set_option linter.all false
set_option maxRecDepth 100000
set_option maxHeartbeats 4000000
/-! PFRQ: what repr asks, with longer numbers (up to 33 digits). -/
namespace PF
open PySem L2 Evl PySem.Spec PyProof.Rows
structure RQ (k m : Nat) (d : D) : Prop where
  pure : d.pure = true
  show_ : d.py.showable = true
  leaf : PyData.leavesShort 40 d.py = true
  weight : d.py.weight ≤ m
  depth : d.py.depth ≤ k
theorem RQ.mono {k m k' m' : Nat} {d : D} (h : RQ k m d) (hk : k ≤ k') (hm : m ≤ m') : RQ k' m' d := ⟨h.pure, h.show_, h.leaf, Nat.le_trans h.weight hm, Nat.le_trans h.depth hk⟩
theorem rq_int {i : Int} (h : -1000000000000000000000000000000000 < i ∧ i < 1000000000000000000000000000000000) : RQ 0 120 (.int i) := by
  have h1 : i.natAbs < 10 ^ 33 := by
    have e : (10 : Nat) ^ 33 = 1000000000000000000000000000000000 := by decide
    rw [e]; omega
  refine ⟨rfl, ?_, ?_, ?_, Nat.le_refl _⟩
  · show decide (i.natAbs.log2 < 1920) = true
    refine decide_eq_true ?_
    by_cases h0 : i.natAbs = 0
    · rw [h0]; decide
    · exact (Nat.log2_lt h0).mpr (Nat.lt_of_lt_of_le h1 (by decide +kernel))
  · show decide ((PyData.shown (.int i)).length ≤ 40) = true
    refine decide_eq_true ?_
    show (Str.ofString (toString i)).length ≤ 40
    rw [PySem.ofString_length]
    exact Nat.le_trans (int_text_length_le10 (k := 33) (by decide) h1) (by decide)
  · show (if i == 0 then 0 else i.natAbs.log2 + 1) ≤ 120
    split
    · omega
    · rename_i hx
      have h0 : i.natAbs ≠ 0 := by simpa using hx
      have := (Nat.log2_lt h0 (k := 119)).mpr (Nat.lt_of_lt_of_le h1 (by decide +kernel))
      omega
theorem rq_non : RQ 0 0 .non := ⟨rfl, rfl, rfl, Nat.le_refl _, Nat.le_refl _⟩
theorem rq_bl {b : Bool} : RQ 0 0 (.bl b) := ⟨rfl, rfl, rfl, Nat.le_refl _, Nat.le_refl _⟩
theorem rqs_pure {k m : Nat} {ds : List D} (h : ∀ d ∈ ds, RQ k m d) : D.pures ds = true := D.pures_iff.mpr fun d hd => (h d hd).pure
theorem rqs_show {k m : Nat} : ∀ {ds : List D}, (∀ d ∈ ds, RQ k m d) → PyData.showableAll (D.pys ds) = true
  | [], _ => rfl
  | d :: ds, h => by
    simp only [D.pys, PyData.showableAll, (h d (List.mem_cons_self ..)).show_, rqs_show fun x hx => h x (List.mem_cons_of_mem _ hx), Bool.and_self]
theorem rqs_leaf {k m : Nat} : ∀ {ds : List D}, (∀ d ∈ ds, RQ k m d) → PyData.leavesShortAll 40 (D.pys ds) = true
  | [], _ => rfl
  | d :: ds, h => by
    simp only [D.pys, PyData.leavesShortAll, (h d (List.mem_cons_self ..)).leaf, rqs_leaf fun x hx => h x (List.mem_cons_of_mem _ hx), Bool.and_self]
theorem rqs_weight {k m : Nat} : ∀ {ds : List D}, (∀ d ∈ ds, RQ k m d) → PyData.weightAll (D.pys ds) ≤ (m + 1) * ds.length
  | [], _ => Nat.zero_le _
  | d :: ds, h => by
    have h1 := (h d (List.mem_cons_self ..)).weight
    have h2 := rqs_weight fun x hx => h x (List.mem_cons_of_mem _ hx)
    simp only [D.pys, PyData.weightAll, List.length_cons, Nat.mul_add, Nat.mul_one]
    omega
theorem rqs_depth {k m : Nat} : ∀ {ds : List D}, (∀ d ∈ ds, RQ k m d) → PyData.depthAll (D.pys ds) ≤ k
  | [], _ => Nat.zero_le _
  | d :: ds, h => by
    have h1 := (h d (List.mem_cons_self ..)).depth
    have h2 := rqs_depth fun x hx => h x (List.mem_cons_of_mem _ hx)
    simp only [D.pys, PyData.depthAll]
    omega
theorem rq_tup {k m : Nat} {ds : List D} (h : ∀ d ∈ ds, RQ k m d) : RQ (k + 1) ((m + 1) * ds.length) (.tup ds) := by
  refine ⟨by rw [D.pure]; exact rqs_pure h, by rw [D.py, PyData.showable]; exact rqs_show h, by rw [D.py, PyData.leavesShort]; exact rqs_leaf h, by rw [D.py, PyData.weight]; exact rqs_weight h, ?_⟩
  rw [D.py, PyData.depth]
  have := rqs_depth h
  omega
theorem rq_lst {k m : Nat} {ds : List D} (h : ∀ d ∈ ds, RQ k m d) : RQ (k + 1) ((m + 1) * ds.length) (.lst ds) := by
  refine ⟨by rw [D.pure]; exact rqs_pure h, by rw [D.py, PyData.showable]; exact rqs_show h, by rw [D.py, PyData.leavesShort]; exact rqs_leaf h, by rw [D.py, PyData.weight]; exact rqs_weight h, ?_⟩
  rw [D.py, PyData.depth]
  have := rqs_depth h
  omega
theorem rqs_nil {k m : Nat} : ∀ d ∈ ([] : List D), RQ k m d := fun _ h => by cases h
theorem rqs_cons {k m : Nat} {d : D} {ds : List D} (h : RQ k m d) (hs : ∀ x ∈ ds, RQ k m x) : ∀ x ∈ d :: ds, RQ k m x := fun x hx => by
  rcases List.mem_cons.mp hx with rfl | hx
  · exact h
  · exact hs x hx
theorem rq_ok {k m : Nat} {d : D} (h : RQ k m d) (hk : k ≤ 60) (hm : m ≤ 300000) : reprOk d = true := by
  have h1 := PyData.shown_le 40 (by decide) d.py h.leaf
  have h2 := h.weight
  have h3 := h.depth
  have e : sizeLine = 16777216 := rfl
  unfold reprOk
  simp only [Bool.and_eq_true, decide_eq_true_eq]
  refine ⟨⟨⟨h.pure, h.show_⟩, by omega⟩, ?_⟩
  rw [e]; omega
end PF
set_option Elab.async false
set_option linter.all false
set_option maxRecDepth 100000
set_option maxHeartbeats 4000000
namespace LW
open PySem L2 Evl PySem.Spec PyProof.Rows PF
local macro_rules | `(tactic| trivial) => `(tactic| first
  | (with_reducible first | refine v0 ?_ | refine v1 ?_ | refine v2 ?_ | refine v3 ?_ | refine v4 ?_ | refine v5 ?_ | refine v6 ?_ | refine v7 ?_ | refine v8 ?_ | refine v9 ?_ | refine v10 ?_ | refine v11 ?_ | refine v12 ?_ | refine v13 ?_ | refine tn0 ?_ | refine tn1 ?_ | refine tn2 ?_ | refine tn3 ?_ | refine tn4 ?_ | refine tn5 ?_ | refine tn6 ?_ | refine tn7 ?_ | refine tn8 ?_ | refine tn9 ?_ | refine tn10 ?_ | refine tn11 ?_ | refine tn12 ?_ | refine tn13 ?_ | refine ss0 ?_ | refine ss1 ?_ | refine ss2 ?_ | refine ss3 ?_ | refine ss4 ?_ | refine ss5 ?_ | refine ss6 ?_ | refine ss7 ?_ | refine ss8 ?_ | refine ss9 ?_ | refine ss10 ?_ | refine ss11 ?_ | refine ss12 ?_ | refine ss13 ?_)
  | (with_reducible first | refine r_k ?_ | refine r_bin ?_ | refine r_cons ?_ | refine r_nil ?_ | refine r_call ?_ | refine r_blt ?_ | refine r_un ?_ | refine r_ok ?_ | refine s_seq ?_ | refine s_ret ?_ | refine s_if ?_ | refine s_expr ?_ | refine s_asg ?_ | refine s_par ?_ | refine s_nil ?_ | refine s_brk ?_ | refine s_ct ?_ | refine s_for ?_ | refine bool_t ?_ | refine bool_and ?_ | refine bool_or ?_ | refine bool_not ?_ | refine bool_yes ?_ | refine r_and ?_ | refine r_or ?_ | refine r_not ?_ | refine r_ife ?_ | refine r_chain ?_ | refine r_isi ?_ | refine r_lam ?_ | refine r_back ?_ | refine r_listR1 ?_ | refine r_callK ?_ | refine r_mt ?_ | refine r_alloc ?_ | refine r_sliceA ?_ | refine r_sliceL ?_ | refine r_no ?_ | refine r_part ?_ | refine r_scope ?_ | refine t_nil ?_ | refine t_cons ?_ | refine q_seq ?_ | refine q_range ?_ | refine q_range2 ?_ | refine q_rangeD ?_ | refine q_enumA ?_ | refine nx_nx ?_ | refine nx_ret ?_ | refine nx_exc ?_ | refine nx_brk ?_ | refine nx_ct ?_ | refine bl_bl ?_ | refine cs_not ?_ | refine cs_t ?_ | refine cs_f ?_ | refine r_bind ?_ | refine r_nox ?_ | refine t_sub ?_ | refine s_retL ?_ | refine o1_sub ?_ | refine o1_add ?_ | refine o1_lt ?_ | refine o1_le ?_ | refine o1_gt ?_ | refine o1_ge ?_ | refine o1_neg ?_ | refine o1_eq ?_ | refine o1_ne ?_ | refine b1_abs ?_ | refine b1_int ?_ | refine b1_min2 ?_ | refine b1_max2 ?_ | refine o1_eqA ?_ | refine o1_neA ?_ | refine o1_eqS ?_ | refine o1_isN ?_ | refine o1_notN ?_ | refine x_bl ?_ | refine x_int ?_ | refine x_str ?_ | refine x_non ?_ | refine x_nx ?_ | refine x_tup ?_ | refine x_lst ?_ | refine sl_tup ?_ | refine sl_lst ?_ | refine sl_fz ?_ | refine sL_lst ?_ | refine sL_fz ?_)
  | (with_reducible first | refine r_tup ?_ | refine r_lst ?_ | refine o1_addT ?_ | refine o1_addL ?_ | refine b1_len ?_ | refine b1_tuple ?_ | refine b1_list ?_ | refine o1_cat ?_ | refine m1_append ?_ | refine o_pow10_1 ?_ | refine o_pow10_2 ?_ | refine o_pow10_3 ?_ | refine o_pow10_4 ?_ | refine o_pow10_5 ?_ | refine o_pow10_6 ?_ | refine o_pow10_7 ?_ | refine o_pow10_8 ?_ | refine o_pow10_9 ?_ | refine o_pow10_10 ?_ | refine o_pow10_11 ?_ | refine o_pow10_12 ?_ | refine o_pow10_13 ?_ | refine o_pow10_14 ?_ | refine o_pow10_15 ?_ | refine o_pow10_16 ?_ | refine o_pow10_17 ?_ | refine o_pow10_18 ?_ | refine o_pow10_20 ?_ | refine o_pow10_30 ?_)
  | ((with_reducible refine o1_ix ?_); refine ⟨_, _, by first | rfl | assumption, by first | rfl | exact atI_zero, ?_⟩)
  | ((with_reducible refine o1_mul ?_ ?_); first | omega | decide | fail)
  | ((with_reducible refine o1_div ?_ ?_); first | omega | decide | fail)
  | ((with_reducible refine o1_mod ?_ ?_); first | omega | decide | fail)
  | ((with_reducible refine b1_divmod ?_ ?_); first | omega | decide | fail)
  | ((with_reducible refine t_tup ?_ ?_); rfl)
  | ((with_reducible refine r_callV ?_ ?_); rfl)
  | (with_reducible refine cs_dec (fun _ => ?_) (fun _ => ?_))
  | (with_reducible refine cs_beq (fun _ => ?_) (fun _ => ?_))
  | ((with_reducible refine cs_te ?_ ?_); rfl)
  | ((with_reducible refine cs_fe ?_ ?_); rfl)
  | ((with_reducible refine put0 (by assumption) ?_ fun _ => ?_); first | rfl | fail)
  | ((with_reducible refine put1 (by assumption) ?_ fun _ => ?_); first | rfl | fail)
  | ((with_reducible refine put2 (by assumption) ?_ fun _ => ?_); first | rfl | fail)
  | ((fail_if_success (with_reducible refine pst_id ?_)); first
    | exact take_same
    | (with_reducible refine fun (_ : Nat) (_ : Store) (_ : _ = _) (_ : _ = _) (_ : _ = _) => ?_)
    | ((fail_if_success (with_reducible refine And.intro ?_ ?_)); refine ⟨_, by first | rfl | assumption, ?_⟩)
    | ((fail_if_success (with_reducible refine And.intro ?_ ?_)); refine ⟨_, _, rfl, ?_⟩)
    | ((fail_if_success (with_reducible refine And.intro ?_ ?_)); refine ⟨_, _, by first | rfl | assumption, rfl, ?_⟩)
    | ((with_reducible refine And.intro ?_ ?_); first | exact rfl | omega | (simp only [List.length_map]; omega) | exact ⟨rfl, rfl⟩ | exact Nat.le_of_ble_eq_true rfl | fail))
  | ((with_reducible refine draw_go (by assumption) ?_ ?_); (first | omega | (simp only [List.length_map]; omega) | fail); intro _ _ _ _ _ _)
  | ((with_reducible refine of_go (0) (1000) (by assumption) ?_ ?_ ?_); (exact ⟨Nat.zero_lt_succ _, Nat.le_of_ble_eq_true rfl⟩); (focus ((repeat (first | exact bnd_nil | refine bnd_cons (by omega) ?_)); (all_goals fail))); intro _ _ _ _ _ _)
  | ((with_reducible refine of_go (1) (100000) (by assumption) ?_ ?_ ?_); (exact ⟨Nat.zero_lt_succ _, Nat.le_of_ble_eq_true rfl⟩); (focus ((repeat (first | exact bnd_nil | refine bnd_cons (by omega) ?_)); (all_goals fail))); intro _ _ _ _ _ _)
  | ((with_reducible refine of_go (1) (1000000) (by assumption) ?_ ?_ ?_); (exact ⟨Nat.zero_lt_succ _, Nat.le_of_ble_eq_true rfl⟩); (focus ((repeat (first | exact bnd_nil | refine bnd_cons (by omega) ?_)); (all_goals fail))); intro _ _ _ _ _ _)
  | ((with_reducible refine of_go (0) (1000000) (by assumption) ?_ ?_ ?_); (exact ⟨Nat.zero_lt_succ _, Nat.le_of_ble_eq_true rfl⟩); (focus ((repeat (first | exact bnd_nil | refine bnd_cons (by omega) ?_)); (all_goals fail))); intro _ _ _ _ _ _)
  | ((with_reducible refine of_go (1) (1000001) (by assumption) ?_ ?_ ?_); (exact ⟨Nat.zero_lt_succ _, Nat.le_of_ble_eq_true rfl⟩); (focus ((repeat (first | exact bnd_nil | refine bnd_cons (by omega) ?_)); (all_goals fail))); intro _ _ _ _ _ _))
local macro_rules | `(tactic| done) => `(tactic| first
  | (with_reducible first | refine v0 ?_ | refine v1 ?_ | refine v2 ?_ | refine v3 ?_ | refine v4 ?_ | refine v5 ?_ | refine v6 ?_ | refine v7 ?_ | refine v8 ?_ | refine v9 ?_ | refine v10 ?_ | refine v11 ?_ | refine v12 ?_ | refine v13 ?_ | refine tn0 ?_ | refine tn1 ?_ | refine tn2 ?_ | refine tn3 ?_ | refine tn4 ?_ | refine tn5 ?_ | refine tn6 ?_ | refine tn7 ?_ | refine tn8 ?_ | refine tn9 ?_ | refine tn10 ?_ | refine tn11 ?_ | refine tn12 ?_ | refine tn13 ?_ | refine ss0 ?_ | refine ss1 ?_ | refine ss2 ?_ | refine ss3 ?_ | refine ss4 ?_ | refine ss5 ?_ | refine ss6 ?_ | refine ss7 ?_ | refine ss8 ?_ | refine ss9 ?_ | refine ss10 ?_ | refine ss11 ?_ | refine ss12 ?_ | refine ss13 ?_)
  | (with_reducible first | refine r_k ?_ | refine r_bin ?_ | refine r_cons ?_ | refine r_nil ?_ | refine r_call ?_ | refine r_blt ?_ | refine r_un ?_ | refine r_ok ?_ | refine s_seq ?_ | refine s_ret ?_ | refine s_if ?_ | refine s_expr ?_ | refine s_asg ?_ | refine s_par ?_ | refine s_nil ?_ | refine s_brk ?_ | refine s_ct ?_ | refine s_for ?_ | refine bool_t ?_ | refine bool_and ?_ | refine bool_or ?_ | refine bool_not ?_ | refine bool_yes ?_ | refine r_and ?_ | refine r_or ?_ | refine r_not ?_ | refine r_ife ?_ | refine r_chain ?_ | refine r_isi ?_ | refine r_lam ?_ | refine r_back ?_ | refine r_listR1 ?_ | refine r_callK ?_ | refine r_mt ?_ | refine r_alloc ?_ | refine r_sliceA ?_ | refine r_sliceL ?_ | refine r_no ?_ | refine r_part ?_ | refine r_scope ?_ | refine t_nil ?_ | refine t_cons ?_ | refine q_seq ?_ | refine q_range ?_ | refine q_range2 ?_ | refine q_rangeD ?_ | refine q_enumA ?_ | refine nx_nx ?_ | refine nx_ret ?_ | refine nx_exc ?_ | refine nx_brk ?_ | refine nx_ct ?_ | refine bl_bl ?_ | refine cs_not ?_ | refine cs_t ?_ | refine cs_f ?_ | refine r_bind ?_ | refine r_nox ?_ | refine t_sub ?_ | refine s_retL ?_ | refine o1_sub ?_ | refine o1_add ?_ | refine o1_lt ?_ | refine o1_le ?_ | refine o1_gt ?_ | refine o1_ge ?_ | refine o1_neg ?_ | refine o1_eq ?_ | refine o1_ne ?_ | refine b1_abs ?_ | refine b1_int ?_ | refine b1_min2 ?_ | refine b1_max2 ?_ | refine o1_eqA ?_ | refine o1_neA ?_ | refine o1_eqS ?_ | refine o1_isN ?_ | refine o1_notN ?_ | refine x_bl ?_ | refine x_int ?_ | refine x_str ?_ | refine x_non ?_ | refine x_nx ?_ | refine x_tup ?_ | refine x_lst ?_ | refine sl_tup ?_ | refine sl_lst ?_ | refine sl_fz ?_ | refine sL_lst ?_ | refine sL_fz ?_)
  | (with_reducible first | refine r_tup ?_ | refine r_lst ?_ | refine o1_addT ?_ | refine o1_addL ?_ | refine b1_len ?_ | refine b1_tuple ?_ | refine b1_list ?_ | refine o1_cat ?_ | refine m1_append ?_ | refine o_pow10_1 ?_ | refine o_pow10_2 ?_ | refine o_pow10_3 ?_ | refine o_pow10_4 ?_ | refine o_pow10_5 ?_ | refine o_pow10_6 ?_ | refine o_pow10_7 ?_ | refine o_pow10_8 ?_ | refine o_pow10_9 ?_ | refine o_pow10_10 ?_ | refine o_pow10_11 ?_ | refine o_pow10_12 ?_ | refine o_pow10_13 ?_ | refine o_pow10_14 ?_ | refine o_pow10_15 ?_ | refine o_pow10_16 ?_ | refine o_pow10_17 ?_ | refine o_pow10_18 ?_ | refine o_pow10_20 ?_ | refine o_pow10_30 ?_)
  | ((with_reducible refine o1_ix ?_); refine ⟨_, _, by first | rfl | assumption, by first | rfl | exact atI_zero, ?_⟩)
  | ((with_reducible refine o1_mul ?_ ?_); first | omega | decide | fail)
  | ((with_reducible refine o1_div ?_ ?_); first | omega | decide | fail)
  | ((with_reducible refine o1_mod ?_ ?_); first | omega | decide | fail)
  | ((with_reducible refine b1_divmod ?_ ?_); first | omega | decide | fail)
  | ((with_reducible refine t_tup ?_ ?_); rfl)
  | ((with_reducible refine r_callV ?_ ?_); rfl)
  | (with_reducible refine cs_dec (fun _ => ?_) (fun _ => ?_))
  | (with_reducible refine cs_beq (fun _ => ?_) (fun _ => ?_))
  | ((with_reducible refine cs_te ?_ ?_); rfl)
  | ((with_reducible refine cs_fe ?_ ?_); rfl)
  | ((with_reducible refine put0 (by assumption) ?_ fun _ => ?_); first | rfl | fail)
  | ((with_reducible refine put1 (by assumption) ?_ fun _ => ?_); first | rfl | fail)
  | ((with_reducible refine put2 (by assumption) ?_ fun _ => ?_); first | rfl | fail)
  | ((fail_if_success (with_reducible refine pst_id ?_)); first
    | exact take_same
    | (with_reducible refine fun (_ : Nat) (_ : Store) (_ : _ = _) (_ : _ = _) (_ : _ = _) => ?_)
    | ((fail_if_success (with_reducible refine And.intro ?_ ?_)); refine ⟨_, by first | rfl | assumption, ?_⟩)
    | ((fail_if_success (with_reducible refine And.intro ?_ ?_)); refine ⟨_, _, rfl, ?_⟩)
    | ((fail_if_success (with_reducible refine And.intro ?_ ?_)); refine ⟨_, _, by first | rfl | assumption, rfl, ?_⟩)
    | ((with_reducible refine And.intro ?_ ?_); first | exact rfl | omega | (simp only [List.length_map]; omega) | exact ⟨rfl, rfl⟩ | exact Nat.le_of_ble_eq_true rfl | fail))
  | ((with_reducible refine draw_go (by assumption) ?_ ?_); (first | omega | (simp only [List.length_map]; omega) | fail); intro _ _ _ _ _ _)
  | ((with_reducible refine of_go (0) (1000) (by assumption) ?_ ?_ ?_); (exact ⟨Nat.zero_lt_succ _, Nat.le_of_ble_eq_true rfl⟩); (focus ((repeat (first | exact bnd_nil | refine bnd_cons (by omega) ?_)); (all_goals fail))); intro _ _ _ _ _ _)
  | ((with_reducible refine of_go (1) (100000) (by assumption) ?_ ?_ ?_); (exact ⟨Nat.zero_lt_succ _, Nat.le_of_ble_eq_true rfl⟩); (focus ((repeat (first | exact bnd_nil | refine bnd_cons (by omega) ?_)); (all_goals fail))); intro _ _ _ _ _ _)
  | ((with_reducible refine of_go (1) (1000000) (by assumption) ?_ ?_ ?_); (exact ⟨Nat.zero_lt_succ _, Nat.le_of_ble_eq_true rfl⟩); (focus ((repeat (first | exact bnd_nil | refine bnd_cons (by omega) ?_)); (all_goals fail))); intro _ _ _ _ _ _)
  | ((with_reducible refine of_go (0) (1000000) (by assumption) ?_ ?_ ?_); (exact ⟨Nat.zero_lt_succ _, Nat.le_of_ble_eq_true rfl⟩); (focus ((repeat (first | exact bnd_nil | refine bnd_cons (by omega) ?_)); (all_goals fail))); intro _ _ _ _ _ _)
  | ((with_reducible refine of_go (1) (1000001) (by assumption) ?_ ?_ ?_); (exact ⟨Nat.zero_lt_succ _, Nat.le_of_ble_eq_true rfl⟩); (focus ((repeat (first | exact bnd_nil | refine bnd_cons (by omega) ?_)); (all_goals fail))); intro _ _ _ _ _ _)
  | ((fail_if_success (with_reducible refine pst_id ?_)); first | (with_reducible rfl) | assumption | contradiction))
theorem of_any {n : Nat} {S : Store} (h : Well n S) {x : D} {ds : List D} (hx : x = .lst ds ∨ x = .tup ds) (h0 : 0 < ds.length ∧ ds.length < 1000000) (hp : D.pures ds = true) : Pst (F__law_of [.loc n, x] S) (fun d S' => d ∈ ds ∧ d.pure = true ∧ Fr n S S') NoE := by
  rcases hx with rfl | rfl
  · skip
    unfold F__law_of b__law_of
    refine call_go rfl ?_
    dsimp only [startE, List.map, List.replicate, List.length, List.cons_append, List.nil_append, Nat.reduceAdd, Nat.reduceSub]
    repeat' trivial
    rename_i r S1 r0 r1 hf w1
    obtain ⟨d, hd, hm, _⟩ := atI_ok (xs := ds) ⟨r0, r1⟩
    refine o1_ix ⟨_, _, rfl, hd, ?_⟩
    have hq := D.pures_iff.mp hp d hm
    rw [exit_pure hq, hf.take]
    exact ⟨hm, hq, hf⟩
  · exact of_ok h h0 hp
/-- no rule, and plain -/
def Bad (d : D) : Prop := D.pl d = true ∧ isRuleD d = false
theorem bad_mid {xs : List D} (hp : D.pls xs = true) {x : D} (hx : x ∈ xs) (h : isStepD x = false) : Bad (.tup xs) := by
  refine ⟨by rw [D.pl]; exact hp, ?_⟩
  have e : xs.all isStepD = false := by
    cases h1 : xs.all isStepD with
    | false => rfl
    | true => rw [List.all_eq_true.mp h1 x hx] at h; cases h
  simp [isRuleD, e]
theorem bad_dup {xs ys : List D} (hp : D.pls (xs ++ ys) = true) {x y : D} (hx : x ∈ xs) (hy : y ∈ ys) (h : startI x = startI y) : Bad (.tup (xs ++ ys)) := by
  refine ⟨by rw [D.pl]; exact hp, ?_⟩
  have e : ascB ((xs ++ ys).map startI) = false := by
    cases h1 : ascB ((xs ++ ys).map startI) with
    | false => rfl
    | true =>
      have h2 := (asc_iff _).mp h1
      rw [List.map_append, List.pairwise_append] at h2
      have := h2.2.2 _ (List.mem_map_of_mem hx) _ (List.mem_map_of_mem hy)
      omega
  simp only [isRuleD, e, Bool.and_false]
theorem stepD_pure (s : St) : (stepD s).pure = true := rfl
theorem steps_pure (rs : List St) : D.pures (rs.map stepD) = true := D.pures_iff.mpr fun d hd => by
  obtain ⟨s, _, rfl⟩ := List.mem_map.mp hd
  rfl
theorem atI_at {rs : List St} {i : Int} (h : 0 ≤ i ∧ i < rs.length) : ∃ s, atI (rs.map stepD) i = some (stepD s) ∧ s ∈ rs ∧ rs[i.toNat]? = some s := by
  obtain ⟨s, h1, h2, h3⟩ := atI_ok (xs := rs) h
  refine ⟨s, ?_, h2, h3⟩
  rw [atI_nat _ h.1, List.getElem?_map, h3]
  rfl
theorem step_rq {s : St} (h : okS s) : RQ 1 363 (stepD s) := by
  have e : (121 : Nat) * 3 = 363 := rfl
  exact rq_tup (ds := [.int s.1, .int s.2.1, .int s.2.2]) (k := 0) (m := 120) (rqs_cons (rq_int (by have := h.1; omega)) (rqs_cons (rq_int (by have := h.2.1; omega)) (rqs_cons (rq_int (by have := h.2.2; omega)) rqs_nil)))
theorem steps_rq {rs : List St} (h : Rule rs) : ∀ d ∈ rs.map stepD, RQ 1 363 d := fun d hd => by
  obtain ⟨s, hs, rfl⟩ := List.mem_map.mp hd
  exact step_rq (h.ok s hs)
theorem rule_rq {rs : List St} (h : Rule rs) : RQ 2 2184 (ruleD rs) := by
  have l6 := h.l6
  refine (rq_tup (steps_rq h)).mono (Nat.le_refl _) ?_
  rw [List.length_map]
  omega
theorem none_ok {n : Nat} {S : Store} (h : Well n S) {rs : List St} (hr : Rule rs) : Pst (F__law_none [.loc n, ruleD rs] S) (fun d S' => Bad d ∧ RQ 4 8000 d ∧ Fr n S S') NoE := by
  have l1 := hr.l1
  have l6 := hr.l6
  have hp := steps_pure rs
  have hlen : ∀ a b, (cutL (rs.map stepD) a b).length ≤ 6 := fun a b => Nat.le_trans (cut_len _ a b) (by rw [List.length_map]; exact l6)
  have hlm : (rs.map stepD).length = rs.length := List.length_map ..
  obtain ⟨s0, hs0, hsm, _⟩ := atI_at (rs := rs) (i := 0) ⟨Int.le_refl _, by omega⟩
  have p0 : ∀ a b, D.pures (cutL (rs.map stepD) a b) = true := fun a b => cut_pure hp
  have g3 := hlen none (some 1)
  unfold ruleD
  unfold F__law_none b__law_none
  refine call_go rfl ?_
  dsimp only [startE, List.map, List.replicate, List.length, List.cons_append, List.nil_append, Nat.reduceAdd, Nat.reduceSub]
  repeat' first
    | trivial
    | (refine And.intro (by first | (simp only [List.length_append, List.length_cons, List.length_nil, hlm]; show _ ≤ 1000000; omega) | (show _ ≤ 1000000; omega)) ?_)
    | (refine And.intro (by simp only [D.pures, D.pure, D.pures_append, p0, hp, Bool.and_self, Bool.and_true]; done) ?_)
    | fail
  refine o1_ix ⟨_, _, rfl, hs0, ?_⟩
  rw [show stepD s0 = .tup [.int s0.1, .int s0.2.1, .int s0.2.2] from rfl]
  repeat' first
    | trivial
    | (refine And.intro (⟨rfl, by show _ < 1000000; (first | decide | (simp only [List.length_append, List.length_cons, List.length_nil]; omega))⟩) ?_)
    | (refine And.intro (by first | (simp only [List.length_append, List.length_cons, List.length_nil, hlm]; show _ ≤ 1000000; omega) | (show _ ≤ 1000000; omega)) ?_)
    | (refine And.intro (by simp only [D.pures, D.pure, D.pures_append, List.cons_append, List.nil_append, p0, hp, Bool.and_self, Bool.and_true]; done) ?_)
    | fail
  rename_i m3 S3 em3 eS3 h3 m4 S4 em4 eS4 h4
  subst em3 em4
  have w3 : FrX n S S3 := by rw [eS3]; exact FrX.lay h _
  have w4 : FrX n S3 S4 := by rw [eS4]; exact FrX.lay w3.1 _
  have w34 := w3.trans w4
  have hn : n < S3.length := len_of w3.1
  clear eS3 eS4 h3
  generalize hL : ([D.non, D.tup [], D.str "rule", D.int 0, D.lst (List.map stepD rs), D.tup [D.int s0.1, D.int s0.2.1, D.int s0.2.2], D.tup (List.map stepD rs ++ cutL (List.map stepD rs) none (some 1)),
    D.tup [D.tup [D.int 1, D.int 0, D.int 0]], D.tup [D.tup [D.int 0, D.int 0, D.int 1001]], D.tup [D.tup [D.int 0, D.int (-1), D.int 0]]] ++
    [D.tup [D.tup [D.int 0, D.int 0, D.int 0], D.tup [D.int 5, D.int 0, D.int 0], D.tup [D.int 5, D.int 0, D.int 0]], D.tup [D.tup [D.int 0, D.int (1000000 + 1), D.int 0]], D.tup [D.tup [D.bl true, D.int 0, D.int 0]], D.tup [D.tup [D.int 0, D.int 0]]] ++
    [D.tup [D.tup [D.int 0, D.int 0, D.non]]] : List D) = L
  intro h5
  have w5 : FrX n S (S4.set S3.length L) := ⟨w34.1.other (by omega) _, by rw [List.length_set]; exact w34.2.1, fun m hm hne => by
    rw [List.getElem?_set_ne (by have := w3.2.1; omega)]; exact w34.2.2 m hm hne⟩
  generalize (S4.set S3.length L) = S5 at *
  repeat' first
    | trivial
    | (refine And.intro (by first | (simp only [List.length_append, List.length_cons, List.length_nil, hlm]; show _ ≤ 1000000; omega) | (show _ ≤ 1000000; omega)) ?_)
    | (refine And.intro (by simp only [D.pures, D.pure, D.pures_append, List.cons_append, List.nil_append, p0, hp, Bool.and_self, Bool.and_true]; done) ?_)
    | fail
  have hLL : L.length = 15 := by rw [← hL]; rfl
  refine ⟨by rw [hLL]; exact Nat.le_of_ble_eq_true rfl, ?_⟩
  repeat' trivial
  have hpl : D.pls (rs.map stepD) = true := pls_iff.mpr fun d hd => by
    obtain ⟨s, _, rfl⟩ := List.mem_map.mp hd
    simp only [stepD, D.pl, D.pls, Bool.and_self]
  have hpc : D.pls (cutL (rs.map stepD) none (some 1)) = true := pls_iff.mpr fun d hd => pls_iff.mp hpl d (cut_mem hd)
  have hdup : Bad (.tup (rs.map stepD ++ cutL (rs.map stepD) none (some 1))) := by
    have hc : ∃ x, x ∈ cutL (rs.map stepD) none (some 1) ∧ x ∈ rs.map stepD := by
      rw [cut_to _ (by decide)]
      match rs, l1 with
      | r0 :: rs, _ => exact ⟨stepD r0, by simp, by simp⟩
    obtain ⟨x, hx1, hx2⟩ := hc
    refine bad_dup (pls_iff.mpr fun d hd => ?_) hx2 hx1 rfl
    rcases List.mem_append.mp hd with hd | hd
    · exact pls_iff.mp hpl d hd
    · exact pls_iff.mp hpc d hd
  have hall : ∀ d ∈ L ++ [D.tup [D.tup [D.int 0, D.int 0, D.int 0], D.tup [D.int (1000000 + 1), D.int 0, D.int 0]],
      D.tup [D.tup [D.int 0, D.int 0, D.int 0], D.tup [D.int 9, D.int 0, D.int 0], D.tup [D.int 8, D.int 0, D.int 0]], D.tup [D.tup (List.map stepD rs)]], Bad d ∧ RQ 4 8000 d := by
    intro d hd
    rw [← hL] at hd
    simp only [List.cons_append, List.nil_append, List.mem_cons, List.not_mem_nil, or_false] at hd
    rcases hd with rfl | rfl | rfl | rfl | rfl | rfl | rfl | rfl | rfl | rfl | rfl | rfl | rfl | rfl | rfl | rfl | rfl | rfl
    · exact ⟨⟨by simp [D.pl, D.pls], rfl⟩, ⟨rfl, by decide +kernel, by decide +kernel, by decide +kernel, by decide +kernel⟩⟩
    · exact ⟨⟨by simp [D.pl, D.pls], rfl⟩, ⟨rfl, by decide +kernel, by decide +kernel, by decide +kernel, by decide +kernel⟩⟩
    · exact ⟨⟨by simp [D.pl, D.pls], rfl⟩, ⟨rfl, by decide +kernel, by decide +kernel, by decide +kernel, by decide +kernel⟩⟩
    · exact ⟨⟨by simp [D.pl, D.pls], rfl⟩, ⟨rfl, by decide +kernel, by decide +kernel, by decide +kernel, by decide +kernel⟩⟩
    · exact ⟨⟨by rw [D.pl]; exact hpl, rfl⟩, (rq_lst (steps_rq hr)).mono (by decide) (by rw [hlm]; omega)⟩
    · exact ⟨bad_mid (by simp [D.pl, D.pls]) (x := .int s0.1) (by simp) rfl, (step_rq (hr.ok _ hsm)).mono (by decide) (by decide)⟩
    · refine ⟨hdup, (rq_tup (k := 1) (m := 363) (fun d hd => ?_)).mono (by decide) (by rw [List.length_append, hlm]; omega)⟩
      rcases List.mem_append.mp hd with hd | hd
      · exact steps_rq hr d hd
      · exact steps_rq hr d (cut_mem hd)
    · exact ⟨⟨by simp [D.pl, D.pls], by simp [isRuleD, startI, isStepD, numD]⟩, ⟨rfl, by decide +kernel, by decide +kernel, by decide +kernel, by decide +kernel⟩⟩
    · exact ⟨⟨by simp [D.pl, D.pls], rfl⟩, ⟨rfl, by decide +kernel, by decide +kernel, by decide +kernel, by decide +kernel⟩⟩
    · exact ⟨⟨by simp [D.pl, D.pls], rfl⟩, ⟨rfl, by decide +kernel, by decide +kernel, by decide +kernel, by decide +kernel⟩⟩
    · exact ⟨⟨by simp [D.pl, D.pls], rfl⟩, ⟨rfl, by decide +kernel, by decide +kernel, by decide +kernel, by decide +kernel⟩⟩
    · exact ⟨⟨by simp [D.pl, D.pls], rfl⟩, ⟨rfl, by decide +kernel, by decide +kernel, by decide +kernel, by decide +kernel⟩⟩
    · exact ⟨⟨by simp [D.pl, D.pls], rfl⟩, ⟨rfl, by decide +kernel, by decide +kernel, by decide +kernel, by decide +kernel⟩⟩
    · exact ⟨⟨by simp [D.pl, D.pls], rfl⟩, ⟨rfl, by decide +kernel, by decide +kernel, by decide +kernel, by decide +kernel⟩⟩
    · exact ⟨⟨by simp [D.pl, D.pls], rfl⟩, ⟨rfl, by decide +kernel, by decide +kernel, by decide +kernel, by decide +kernel⟩⟩
    · exact ⟨⟨by simp [D.pl, D.pls], rfl⟩, ⟨rfl, by decide +kernel, by decide +kernel, by decide +kernel, by decide +kernel⟩⟩
    · exact ⟨⟨by simp [D.pl, D.pls], rfl⟩, ⟨rfl, by decide +kernel, by decide +kernel, by decide +kernel, by decide +kernel⟩⟩
    · refine ⟨?_, (rq_tup (rqs_cons (rule_rq hr) rqs_nil)).mono (by decide) (Nat.le_of_ble_eq_true rfl)⟩
      refine bad_mid (by simp only [D.pls, D.pl, hpl, Bool.and_self]) (x := .tup (rs.map stepD)) (by simp) ?_
      match rs with
      | [] => rfl
      | [_] => rfl
      | [_, _] => rfl
      | [_, _, _] => rfl
      | _ :: _ :: _ :: _ :: _ => rfl
  refine Pst.imp (of_any w5.1 (.inl rfl) ⟨by simp, by simp only [List.length_append, hLL, List.length_cons, List.length_nil]; decide⟩ (D.pures_iff.mpr fun d hd => pl_pure (hall d hd).1.1)) ?_
  rintro d S7 ⟨hd, dp, f7⟩
  rw [exit_pure dp]
  exact ⟨(hall d hd).1, (hall d hd).2, (w5.trans f7.x).cut (len_of h)⟩
end LW
set_option Elab.async false
set_option linter.all false
set_option maxRecDepth 100000
set_option maxHeartbeats 4000000
/-! PFXR: plain reckoning with exceptions. -/
namespace PF
open PySem L2 Evl PySem.Spec PyProof.Rows
/-! ### exceptions -/
theorem r_err {α : Type} {r : Out α} {x : XV} {S1 : Store} {Q : α → Store → Prop} {E : XV → Store → Prop} (e : r = some (.error x, S1)) (h : E x S1) : Pst r Q E := by rw [e]; exact h
theorem pst_err {α : Type} {r : Out α} {x : XV} {S : Store} (h : Pst r (fun _ _ => False) (fun y S' => y = x ∧ S' = S)) : r = some (.error x, S) := by
  match r, h with
  | some (.error y, S'), h => obtain ⟨rfl, rfl⟩ := h; rfl
theorem x_exc {fr : Bool} {n0 : Nat} {x : XV} {ρ : PF.Env} {S : Store} {Q : D → Store → Prop} {E : XV → Store → Prop} (h : D.pures (x.fields.map (·.2)) = true ∧ E x (S.take n0)) : Pst (exitF fr n0 (some (.ok (.exc x ρ), S))) Q E := by
  simp only [exitF, h.1, if_true]
  exact h.2
theorem s_raise {c f : Str} {r : AX} {ρ : PF.Env} {S : Store} {Q : Fl → Store → Prop} {E : XV → Store → Prop} (h : Pst (r ρ S) (fun ds S => ∃ d, ds = [d] ∧ d.pure = true ∧ Q (.exc ⟨c, [(f, d)]⟩ ρ) S) (fun x S => Q (.exc x ρ) S)) : Pst (sRaise c f r ρ S) Q E := by
  unfold sRaise
  match hr : r ρ S, h with
  | some (.ok ds, S'), h =>
    obtain ⟨d, rfl, hp, h⟩ := h
    simp only [stm_ok, hp, if_true]
    exact h
  | some (.error x, S'), h => exact h
  | none, h => exact h.elim
theorem r_tryact {c : EX} {sut : XV → Store → Out D} {re : Store → Out D} {ρ : PF.Env} {S : Store} {Q : D → Store → Prop} {E : XV → Store → Prop} (h : Pst (c ρ S) (fun _ S' => Pst (re S') Q NoE) (fun x S' => Pst (sut x S') Q NoE)) : Pst (cTryAct c sut re ρ S) Q E := by
  unfold cTryAct
  match hr : c ρ S, h with
  | some (.ok d, S'), h => exact r_nox h
  | some (.error x, S'), h => exact r_nox h
  | none, h => exact h.elim
def Ends {α : Type} (r : Out α) (S : Store) : Option XV → Prop
  | none => ∃ d, r = some (.ok d, S)
  | some x => r = some (.error x, S)
theorem ends_of {α : Type} {r : Out α} {S : Store} {y : Option XV} (h : Pst r (fun _ S' => y = none ∧ S' = S) (fun x S' => y = some x ∧ S' = S)) : Ends r S y := by
  match r, h with
  | some (.ok a, S'), h => obtain ⟨rfl, rfl⟩ := h; exact ⟨a, rfl⟩
  | some (.error x, S'), h => obtain ⟨rfl, rfl⟩ := h; rfl
theorem ends_pst {α : Type} {r : Out α} {S : Store} {y : Option XV} {Q : α → Store → Prop} {E : XV → Store → Prop} (h : Ends r S y) (hq : y = none → ∀ d, Q d S) (he : ∀ x, y = some x → E x S) : Pst r Q E := by
  match y, h with
  | none, ⟨d, e⟩ => rw [e]; exact hq rfl d
  | some x, e => rw [show r = _ from e]; exact he x rfl
theorem exc1 {v : D} (hp : v.pure = true) {c f : Str} {fr : Bool} {ρ : PF.Env} {S : Store} {Q : D → Store → Prop} {E : XV → Store → Prop} (h : E ⟨c, [(f, v)]⟩ S) : Pst (exitF fr S.length (some (.ok (.exc ⟨c, [(f, v)]⟩ ρ), S))) Q E := by
  refine x_exc ⟨?_, by rw [take_same]; exact h⟩
  show D.pures [v] = true
  simp only [D.pures, hp, Bool.and_self]
end PF
set_option Elab.async false
set_option linter.all false
set_option maxRecDepth 100000
set_option maxHeartbeats 4000000
/-! PFXS: plain reckoning with sorted(set(ints)). -/
namespace PF
open PySem L2 Evl PySem.Spec PyProof.Rows
theorem r_ssi {c : EX} {ρ : PF.Env} {S : Store} {Q : D → Store → Prop} {E : XV → Store → Prop} (h : Pst (c ρ S) (fun d S => ∃ xs : List Int, d = .lst (xs.map D.int) ∧ xs.length < 64 ∧ Q (.lst ((uniqI (sortI xs)).map D.int)) S) E) : Pst (cSSI c ρ S) Q E := by
  unfold cSSI
  refine r_bind (h.mono ?_ fun _ _ h => h)
  rintro d S1 ⟨xs, rfl, hl, h⟩
  show Pst (match asL (.lst (xs.map D.int)) S1 with
    | some ds => (match intsOf ds with
      | some xs => if xs.length < 64 then some (.ok (.lst ((uniqI (sortI xs)).map D.int)), S1) else none
      | none => none)
    | none => none) Q E
  simp only [asL, intsOf_map, hl, if_true]
  exact h
end PF
set_option Elab.async false
set_option linter.all false
set_option maxRecDepth 100000
set_option maxHeartbeats 4000000
namespace LW
open PySem L2 Evl PySem.Spec PyProof.Rows PF
local macro_rules | `(tactic| trivial) => `(tactic| first
  | (with_reducible first | refine v0 ?_ | refine v1 ?_ | refine v2 ?_ | refine v3 ?_ | refine v4 ?_ | refine v5 ?_ | refine v6 ?_ | refine v7 ?_ | refine v8 ?_ | refine v9 ?_ | refine v10 ?_ | refine v11 ?_ | refine v12 ?_ | refine v13 ?_ | refine tn0 ?_ | refine tn1 ?_ | refine tn2 ?_ | refine tn3 ?_ | refine tn4 ?_ | refine tn5 ?_ | refine tn6 ?_ | refine tn7 ?_ | refine tn8 ?_ | refine tn9 ?_ | refine tn10 ?_ | refine tn11 ?_ | refine tn12 ?_ | refine tn13 ?_ | refine ss0 ?_ | refine ss1 ?_ | refine ss2 ?_ | refine ss3 ?_ | refine ss4 ?_ | refine ss5 ?_ | refine ss6 ?_ | refine ss7 ?_ | refine ss8 ?_ | refine ss9 ?_ | refine ss10 ?_ | refine ss11 ?_ | refine ss12 ?_ | refine ss13 ?_)
  | (with_reducible first | refine r_k ?_ | refine r_bin ?_ | refine r_cons ?_ | refine r_nil ?_ | refine r_call ?_ | refine r_blt ?_ | refine r_un ?_ | refine r_ok ?_ | refine s_seq ?_ | refine s_ret ?_ | refine s_if ?_ | refine s_expr ?_ | refine s_asg ?_ | refine s_par ?_ | refine s_nil ?_ | refine s_brk ?_ | refine s_ct ?_ | refine s_for ?_ | refine bool_t ?_ | refine bool_and ?_ | refine bool_or ?_ | refine bool_not ?_ | refine bool_yes ?_ | refine r_and ?_ | refine r_or ?_ | refine r_not ?_ | refine r_ife ?_ | refine r_chain ?_ | refine r_isi ?_ | refine r_lam ?_ | refine r_back ?_ | refine r_listR1 ?_ | refine r_callK ?_ | refine r_mt ?_ | refine r_alloc ?_ | refine r_sliceA ?_ | refine r_sliceL ?_ | refine r_no ?_ | refine r_part ?_ | refine r_scope ?_ | refine t_nil ?_ | refine t_cons ?_ | refine q_seq ?_ | refine q_range ?_ | refine q_range2 ?_ | refine q_rangeD ?_ | refine q_enumA ?_ | refine nx_nx ?_ | refine nx_ret ?_ | refine nx_exc ?_ | refine nx_brk ?_ | refine nx_ct ?_ | refine bl_bl ?_ | refine cs_not ?_ | refine cs_t ?_ | refine cs_f ?_ | refine r_bind ?_ | refine r_nox ?_ | refine t_sub ?_ | refine s_retL ?_ | refine o1_sub ?_ | refine o1_add ?_ | refine o1_lt ?_ | refine o1_le ?_ | refine o1_gt ?_ | refine o1_ge ?_ | refine o1_neg ?_ | refine o1_eq ?_ | refine o1_ne ?_ | refine b1_abs ?_ | refine b1_int ?_ | refine b1_min2 ?_ | refine b1_max2 ?_ | refine o1_eqA ?_ | refine o1_neA ?_ | refine o1_eqS ?_ | refine o1_isN ?_ | refine o1_notN ?_ | refine x_bl ?_ | refine x_int ?_ | refine x_str ?_ | refine x_non ?_ | refine x_nx ?_ | refine x_tup ?_ | refine x_lst ?_ | refine sl_tup ?_ | refine sl_lst ?_ | refine sl_fz ?_ | refine sL_lst ?_ | refine sL_fz ?_)
  | (with_reducible first | refine r_tup ?_ | refine r_lst ?_ | refine o1_addT ?_ | refine o1_addL ?_ | refine b1_len ?_ | refine b1_tuple ?_ | refine b1_list ?_ | refine o1_cat ?_ | refine m1_append ?_ | refine o_pow10_1 ?_ | refine o_pow10_2 ?_ | refine o_pow10_3 ?_ | refine o_pow10_4 ?_ | refine o_pow10_5 ?_ | refine o_pow10_6 ?_ | refine o_pow10_7 ?_ | refine o_pow10_8 ?_ | refine o_pow10_9 ?_ | refine o_pow10_10 ?_ | refine o_pow10_11 ?_ | refine o_pow10_12 ?_ | refine o_pow10_13 ?_ | refine o_pow10_14 ?_ | refine o_pow10_15 ?_ | refine o_pow10_16 ?_ | refine o_pow10_17 ?_ | refine o_pow10_18 ?_ | refine o_pow10_20 ?_ | refine o_pow10_30 ?_)
  | ((with_reducible refine o1_ix ?_); refine ⟨_, _, by first | rfl | assumption, by first | rfl | exact atI_zero, ?_⟩)
  | ((with_reducible refine o1_mul ?_ ?_); first | omega | decide | fail)
  | ((with_reducible refine o1_div ?_ ?_); first | omega | decide | fail)
  | ((with_reducible refine o1_mod ?_ ?_); first | omega | decide | fail)
  | ((with_reducible refine b1_divmod ?_ ?_); first | omega | decide | fail)
  | ((with_reducible refine t_tup ?_ ?_); rfl)
  | ((with_reducible refine r_callV ?_ ?_); rfl)
  | (with_reducible refine cs_dec (fun _ => ?_) (fun _ => ?_))
  | (with_reducible refine cs_beq (fun _ => ?_) (fun _ => ?_))
  | ((with_reducible refine cs_te ?_ ?_); rfl)
  | ((with_reducible refine cs_fe ?_ ?_); rfl)
  | ((with_reducible refine put0 (by assumption) ?_ fun _ => ?_); first | rfl | fail)
  | ((with_reducible refine put1 (by assumption) ?_ fun _ => ?_); first | rfl | fail)
  | ((with_reducible refine put2 (by assumption) ?_ fun _ => ?_); first | rfl | fail)
  | ((fail_if_success (with_reducible refine pst_id ?_)); first
    | exact take_same
    | (with_reducible refine fun (_ : Nat) (_ : Store) (_ : _ = _) (_ : _ = _) (_ : _ = _) => ?_)
    | ((fail_if_success (with_reducible refine And.intro ?_ ?_)); refine ⟨_, by first | rfl | assumption, ?_⟩)
    | ((fail_if_success (with_reducible refine And.intro ?_ ?_)); refine ⟨_, _, rfl, ?_⟩)
    | ((fail_if_success (with_reducible refine And.intro ?_ ?_)); refine ⟨_, _, by first | rfl | assumption, rfl, ?_⟩)
    | ((with_reducible refine And.intro ?_ ?_); first | exact rfl | omega | (simp only [List.length_map]; omega) | exact ⟨rfl, rfl⟩ | exact Nat.le_of_ble_eq_true rfl | fail))
  | ((with_reducible refine draw_go (by assumption) ?_ ?_); (first | omega | (simp only [List.length_map]; omega) | fail); intro _ _ _ _ _ _)
  | ((with_reducible refine of_go (0) (1000) (by assumption) ?_ ?_ ?_); (exact ⟨Nat.zero_lt_succ _, Nat.le_of_ble_eq_true rfl⟩); (focus ((repeat (first | exact bnd_nil | refine bnd_cons (by omega) ?_)); (all_goals fail))); intro _ _ _ _ _ _)
  | ((with_reducible refine of_go (1) (100000) (by assumption) ?_ ?_ ?_); (exact ⟨Nat.zero_lt_succ _, Nat.le_of_ble_eq_true rfl⟩); (focus ((repeat (first | exact bnd_nil | refine bnd_cons (by omega) ?_)); (all_goals fail))); intro _ _ _ _ _ _)
  | ((with_reducible refine of_go (1) (1000000) (by assumption) ?_ ?_ ?_); (exact ⟨Nat.zero_lt_succ _, Nat.le_of_ble_eq_true rfl⟩); (focus ((repeat (first | exact bnd_nil | refine bnd_cons (by omega) ?_)); (all_goals fail))); intro _ _ _ _ _ _)
  | ((with_reducible refine of_go (0) (1000000) (by assumption) ?_ ?_ ?_); (exact ⟨Nat.zero_lt_succ _, Nat.le_of_ble_eq_true rfl⟩); (focus ((repeat (first | exact bnd_nil | refine bnd_cons (by omega) ?_)); (all_goals fail))); intro _ _ _ _ _ _)
  | ((with_reducible refine of_go (1) (1000001) (by assumption) ?_ ?_ ?_); (exact ⟨Nat.zero_lt_succ _, Nat.le_of_ble_eq_true rfl⟩); (focus ((repeat (first | exact bnd_nil | refine bnd_cons (by omega) ?_)); (all_goals fail))); intro _ _ _ _ _ _))
local macro_rules | `(tactic| done) => `(tactic| first
  | (with_reducible first | refine v0 ?_ | refine v1 ?_ | refine v2 ?_ | refine v3 ?_ | refine v4 ?_ | refine v5 ?_ | refine v6 ?_ | refine v7 ?_ | refine v8 ?_ | refine v9 ?_ | refine v10 ?_ | refine v11 ?_ | refine v12 ?_ | refine v13 ?_ | refine tn0 ?_ | refine tn1 ?_ | refine tn2 ?_ | refine tn3 ?_ | refine tn4 ?_ | refine tn5 ?_ | refine tn6 ?_ | refine tn7 ?_ | refine tn8 ?_ | refine tn9 ?_ | refine tn10 ?_ | refine tn11 ?_ | refine tn12 ?_ | refine tn13 ?_ | refine ss0 ?_ | refine ss1 ?_ | refine ss2 ?_ | refine ss3 ?_ | refine ss4 ?_ | refine ss5 ?_ | refine ss6 ?_ | refine ss7 ?_ | refine ss8 ?_ | refine ss9 ?_ | refine ss10 ?_ | refine ss11 ?_ | refine ss12 ?_ | refine ss13 ?_)
  | (with_reducible first | refine r_k ?_ | refine r_bin ?_ | refine r_cons ?_ | refine r_nil ?_ | refine r_call ?_ | refine r_blt ?_ | refine r_un ?_ | refine r_ok ?_ | refine s_seq ?_ | refine s_ret ?_ | refine s_if ?_ | refine s_expr ?_ | refine s_asg ?_ | refine s_par ?_ | refine s_nil ?_ | refine s_brk ?_ | refine s_ct ?_ | refine s_for ?_ | refine bool_t ?_ | refine bool_and ?_ | refine bool_or ?_ | refine bool_not ?_ | refine bool_yes ?_ | refine r_and ?_ | refine r_or ?_ | refine r_not ?_ | refine r_ife ?_ | refine r_chain ?_ | refine r_isi ?_ | refine r_lam ?_ | refine r_back ?_ | refine r_listR1 ?_ | refine r_callK ?_ | refine r_mt ?_ | refine r_alloc ?_ | refine r_sliceA ?_ | refine r_sliceL ?_ | refine r_no ?_ | refine r_part ?_ | refine r_scope ?_ | refine t_nil ?_ | refine t_cons ?_ | refine q_seq ?_ | refine q_range ?_ | refine q_range2 ?_ | refine q_rangeD ?_ | refine q_enumA ?_ | refine nx_nx ?_ | refine nx_ret ?_ | refine nx_exc ?_ | refine nx_brk ?_ | refine nx_ct ?_ | refine bl_bl ?_ | refine cs_not ?_ | refine cs_t ?_ | refine cs_f ?_ | refine r_bind ?_ | refine r_nox ?_ | refine t_sub ?_ | refine s_retL ?_ | refine o1_sub ?_ | refine o1_add ?_ | refine o1_lt ?_ | refine o1_le ?_ | refine o1_gt ?_ | refine o1_ge ?_ | refine o1_neg ?_ | refine o1_eq ?_ | refine o1_ne ?_ | refine b1_abs ?_ | refine b1_int ?_ | refine b1_min2 ?_ | refine b1_max2 ?_ | refine o1_eqA ?_ | refine o1_neA ?_ | refine o1_eqS ?_ | refine o1_isN ?_ | refine o1_notN ?_ | refine x_bl ?_ | refine x_int ?_ | refine x_str ?_ | refine x_non ?_ | refine x_nx ?_ | refine x_tup ?_ | refine x_lst ?_ | refine sl_tup ?_ | refine sl_lst ?_ | refine sl_fz ?_ | refine sL_lst ?_ | refine sL_fz ?_)
  | (with_reducible first | refine r_tup ?_ | refine r_lst ?_ | refine o1_addT ?_ | refine o1_addL ?_ | refine b1_len ?_ | refine b1_tuple ?_ | refine b1_list ?_ | refine o1_cat ?_ | refine m1_append ?_ | refine o_pow10_1 ?_ | refine o_pow10_2 ?_ | refine o_pow10_3 ?_ | refine o_pow10_4 ?_ | refine o_pow10_5 ?_ | refine o_pow10_6 ?_ | refine o_pow10_7 ?_ | refine o_pow10_8 ?_ | refine o_pow10_9 ?_ | refine o_pow10_10 ?_ | refine o_pow10_11 ?_ | refine o_pow10_12 ?_ | refine o_pow10_13 ?_ | refine o_pow10_14 ?_ | refine o_pow10_15 ?_ | refine o_pow10_16 ?_ | refine o_pow10_17 ?_ | refine o_pow10_18 ?_ | refine o_pow10_20 ?_ | refine o_pow10_30 ?_)
  | ((with_reducible refine o1_ix ?_); refine ⟨_, _, by first | rfl | assumption, by first | rfl | exact atI_zero, ?_⟩)
  | ((with_reducible refine o1_mul ?_ ?_); first | omega | decide | fail)
  | ((with_reducible refine o1_div ?_ ?_); first | omega | decide | fail)
  | ((with_reducible refine o1_mod ?_ ?_); first | omega | decide | fail)
  | ((with_reducible refine b1_divmod ?_ ?_); first | omega | decide | fail)
  | ((with_reducible refine t_tup ?_ ?_); rfl)
  | ((with_reducible refine r_callV ?_ ?_); rfl)
  | (with_reducible refine cs_dec (fun _ => ?_) (fun _ => ?_))
  | (with_reducible refine cs_beq (fun _ => ?_) (fun _ => ?_))
  | ((with_reducible refine cs_te ?_ ?_); rfl)
  | ((with_reducible refine cs_fe ?_ ?_); rfl)
  | ((with_reducible refine put0 (by assumption) ?_ fun _ => ?_); first | rfl | fail)
  | ((with_reducible refine put1 (by assumption) ?_ fun _ => ?_); first | rfl | fail)
  | ((with_reducible refine put2 (by assumption) ?_ fun _ => ?_); first | rfl | fail)
  | ((fail_if_success (with_reducible refine pst_id ?_)); first
    | exact take_same
    | (with_reducible refine fun (_ : Nat) (_ : Store) (_ : _ = _) (_ : _ = _) (_ : _ = _) => ?_)
    | ((fail_if_success (with_reducible refine And.intro ?_ ?_)); refine ⟨_, by first | rfl | assumption, ?_⟩)
    | ((fail_if_success (with_reducible refine And.intro ?_ ?_)); refine ⟨_, _, rfl, ?_⟩)
    | ((fail_if_success (with_reducible refine And.intro ?_ ?_)); refine ⟨_, _, by first | rfl | assumption, rfl, ?_⟩)
    | ((with_reducible refine And.intro ?_ ?_); first | exact rfl | omega | (simp only [List.length_map]; omega) | exact ⟨rfl, rfl⟩ | exact Nat.le_of_ble_eq_true rfl | fail))
  | ((with_reducible refine draw_go (by assumption) ?_ ?_); (first | omega | (simp only [List.length_map]; omega) | fail); intro _ _ _ _ _ _)
  | ((with_reducible refine of_go (0) (1000) (by assumption) ?_ ?_ ?_); (exact ⟨Nat.zero_lt_succ _, Nat.le_of_ble_eq_true rfl⟩); (focus ((repeat (first | exact bnd_nil | refine bnd_cons (by omega) ?_)); (all_goals fail))); intro _ _ _ _ _ _)
  | ((with_reducible refine of_go (1) (100000) (by assumption) ?_ ?_ ?_); (exact ⟨Nat.zero_lt_succ _, Nat.le_of_ble_eq_true rfl⟩); (focus ((repeat (first | exact bnd_nil | refine bnd_cons (by omega) ?_)); (all_goals fail))); intro _ _ _ _ _ _)
  | ((with_reducible refine of_go (1) (1000000) (by assumption) ?_ ?_ ?_); (exact ⟨Nat.zero_lt_succ _, Nat.le_of_ble_eq_true rfl⟩); (focus ((repeat (first | exact bnd_nil | refine bnd_cons (by omega) ?_)); (all_goals fail))); intro _ _ _ _ _ _)
  | ((with_reducible refine of_go (0) (1000000) (by assumption) ?_ ?_ ?_); (exact ⟨Nat.zero_lt_succ _, Nat.le_of_ble_eq_true rfl⟩); (focus ((repeat (first | exact bnd_nil | refine bnd_cons (by omega) ?_)); (all_goals fail))); intro _ _ _ _ _ _)
  | ((with_reducible refine of_go (1) (1000001) (by assumption) ?_ ?_ ?_); (exact ⟨Nat.zero_lt_succ _, Nat.le_of_ble_eq_true rfl⟩); (focus ((repeat (first | exact bnd_nil | refine bnd_cons (by omega) ?_)); (all_goals fail))); intro _ _ _ _ _ _)
  | ((fail_if_success (with_reducible refine pst_id ?_)); first | (with_reducible rfl) | assumption | contradiction))
/-! ### what the package refuses -/
def xR (v : D) : XV := ⟨"InvalidRule", [("given", v)]⟩
def xN (v : D) : XV := ⟨"InvalidNumber", [("given", v)]⟩
theorem steps_form : ∀ xs : List D, xs.all isStepD = true → ∃ rs : List St, xs = rs.map stepD ∧ ∀ s ∈ rs, okS s
  | [], _ => ⟨[], rfl, fun _ h => by cases h⟩
  | x :: xs, h => by
    rw [List.all_cons, Bool.and_eq_true] at h
    obtain ⟨rs, rfl, hr⟩ := steps_form xs h.2
    obtain ⟨a, b, c, rfl, ha, hb, hc⟩ := isStepD_form h.1
    refine ⟨(a, b, c) :: rs, rfl, fun s hs => ?_⟩
    rcases List.mem_cons.mp hs with rfl | hs
    · exact ⟨ha, hb, hc⟩
    · exact hr s hs
theorem rule_form {v : D} (h : isRuleD v = true) : ∃ rs, v = ruleD rs ∧ Rule rs := by
  cases v <;> first | (cases h; done) | skip
  rename_i xs
  unfold isRuleD at h
  simp only [Bool.and_eq_true, decide_eq_true_eq] at h
  obtain ⟨⟨h1, h2⟩, h3, h4, h5⟩ := h
  obtain ⟨rs, rfl, hr⟩ := steps_form xs h3
  rw [List.length_map] at h1 h2
  refine ⟨rs, rfl, ⟨h1, h2, hr, ?_, ?_⟩⟩
  · match rs, h1, h4 with
    | s :: rs, _, h4 => exact eq_of_beq h4
  · rw [List.map_map] at h5
    exact h5
theorem num_form {v : D} {lo hi : Int} (h : numD lo hi v = true) : ∃ i, v = .int i ∧ lo ≤ i ∧ i ≤ hi := by
  cases v <;> first | (cases h; done) | skip
  exact ⟨_, rfl, of_decide_eq_true h⟩
theorem check_rule_bad {v : D} (hp : D.pl v = true) (h : isRuleD v = false) {S : Store} : F_check_rule [v] S = some (.error (xR v), S) := by
  refine pst_err ?_
  unfold F_check_rule b_check_rule
  refine call_go rfl ?_
  dsimp only [startE, List.map, List.replicate, List.length, List.cons_append, List.nil_append, Nat.reduceAdd, Nat.reduceSub]
  repeat' trivial
  refine r_eq (rule_eq v hp) ?_
  rw [h]
  repeat' trivial
  refine s_raise ?_
  repeat' trivial
  exact ⟨pl_pure hp, exc1 (pl_pure hp) ⟨rfl, rfl⟩⟩
theorem check_number_bad {v : D} {lo hi : Int} (hp : v.pure = true) (h : numD lo hi v = false) {S : Store} : F_check_number [v, .int lo, .int hi] S = some (.error (xN v), S) := by
  refine pst_err ?_
  unfold F_check_number b_check_number
  refine call_go rfl ?_
  dsimp only [startE, List.map, List.replicate, List.length, List.cons_append, List.nil_append, Nat.reduceAdd, Nat.reduceSub]
  repeat' trivial
  refine r_eq (num_eq v hp) ?_
  rw [h]
  repeat' trivial
  refine s_raise ?_
  repeat' trivial
  exact exc1 hp ⟨rfl, rfl⟩
def ref1 (a : D) : Option XV := if isRuleD a = true then none else some (xR a)
def refFee (a t : D) : Option XV := if isRuleD a = true then (if numD 0 1000000000 t = true then none else some (xN t)) else some (xR a)
def ref2 (a b : D) : Option XV := if isRuleD a = true then (if isRuleD b = true then none else some (xR b)) else some (xR a)
theorem fee_ends {a t : D} (ha : D.pl a = true) (ht : t.pure = true) {S : Store} : Ends (F_fee [a, t] S) S (refFee a t) := by
  refine ends_of ?_
  by_cases h : isRuleD a = true
  · obtain ⟨rs, rfl, hr⟩ := rule_form h
    by_cases h2 : numD 0 1000000000 t = true
    · obtain ⟨i, rfl, hi⟩ := num_form h2
      refine r_eq (fee_eq hr hi) ?_
      exact ⟨by rw [refFee, if_pos h, if_pos h2], rfl⟩
    · rw [refFee, if_pos h, if_neg h2]
      rw [Bool.not_eq_true] at h2
      unfold F_fee b_fee
      refine call_go rfl ?_
      dsimp only [startE, List.map, List.replicate, List.length, List.cons_append, List.nil_append, Nat.reduceAdd, Nat.reduceSub]
      repeat' trivial
      refine r_eq (check_rule_eq _ (rule_pl rs) (rule_is hr)) ?_
      repeat' trivial
      refine r_err (check_number_bad ht h2) ?_
      repeat' trivial
      exact exc1 ht ⟨rfl, rfl⟩
  · rw [refFee, if_neg h]
    rw [Bool.not_eq_true] at h
    unfold F_fee b_fee
    refine call_go rfl ?_
    dsimp only [startE, List.map, List.replicate, List.length, List.cons_append, List.nil_append, Nat.reduceAdd, Nat.reduceSub]
    repeat' trivial
    refine r_err (check_rule_bad ha h) ?_
    repeat' trivial
    exact exc1 (pl_pure ha) ⟨rfl, rfl⟩
theorem net_ends {a t : D} (ha : D.pl a = true) (ht : t.pure = true) {S : Store} : Ends (F_net [a, t] S) S (refFee a t) := by
  refine ends_of ?_
  by_cases h : isRuleD a = true
  · obtain ⟨rs, rfl, hr⟩ := rule_form h
    by_cases h2 : numD 0 1000000000 t = true
    · obtain ⟨i, rfl, hi⟩ := num_form h2
      refine r_eq (net_eq hr hi) ?_
      exact ⟨by rw [refFee, if_pos h, if_pos h2], rfl⟩
    · rw [refFee, if_pos h, if_neg h2]
      rw [Bool.not_eq_true] at h2
      unfold F_net b_net
      refine call_go rfl ?_
      dsimp only [startE, List.map, List.replicate, List.length, List.cons_append, List.nil_append, Nat.reduceAdd, Nat.reduceSub]
      repeat' trivial
      refine r_eq (check_rule_eq _ (rule_pl rs) (rule_is hr)) ?_
      repeat' trivial
      refine r_err (check_number_bad ht h2) ?_
      repeat' trivial
      exact exc1 ht ⟨rfl, rfl⟩
  · rw [refFee, if_neg h]
    rw [Bool.not_eq_true] at h
    unfold F_net b_net
    refine call_go rfl ?_
    dsimp only [startE, List.map, List.replicate, List.length, List.cons_append, List.nil_append, Nat.reduceAdd, Nat.reduceSub]
    repeat' trivial
    refine r_err (check_rule_bad ha h) ?_
    repeat' trivial
    exact exc1 (pl_pure ha) ⟨rfl, rfl⟩
end LW
set_option Elab.async false
set_option linter.all false
set_option maxRecDepth 100000
set_option maxHeartbeats 4000000
/-! PFW: a well of draws in the store; sorted numbers; membership. -/
namespace PF
open PySem L2 Evl PySem.Spec PyProof.Rows
/-- a well stands at n -/
def Well (n : Nat) (S : Store) : Prop := ∃ g a b, S[n]? = some [.int g, .int a, .int b]
/-- nothing but the well has changed -/
def Fr (n : Nat) (S S' : Store) : Prop := Well n S' ∧ S'.length = S.length ∧ ∀ m, m ≠ n → S'[m]? = S[m]?
theorem Fr.refl {n : Nat} {S : Store} (h : Well n S) : Fr n S S := ⟨h, rfl, fun _ _ => rfl⟩
theorem Fr.trans {n : Nat} {S S' S'' : Store} (h : Fr n S S') (h' : Fr n S' S'') : Fr n S S'' := ⟨h'.1, h'.2.1.trans h.2.1, fun m hm => (h'.2.2 m hm).trans (h.2.2 m hm)⟩
theorem Well.put {n : Nat} {S : Store} {x : List D} {g a b : Int} (h : S[n]? = some x) : Fr n S (S.set n [.int g, .int a, .int b]) :=
  ⟨⟨g, a, b, set_get _ h⟩, by simp, fun m hm => by rw [List.getElem?_set_ne (fun e => hm e.symm)]⟩
theorem len_of {n : Nat} {S : Store} (h : Well n S) : n < S.length := by
  obtain ⟨g, a, b, h⟩ := h
  rcases Nat.lt_or_ge n S.length with h1 | h1
  · exact h1
  · rw [List.getElem?_eq_none h1] at h; cases h
theorem Fr.take {n : Nat} {S S' : Store} (h : Fr n S S') : S'.take S.length = S' := List.take_of_length_le (by rw [h.2.1]; exact Nat.le_refl _)
theorem atI_ok {α : Type} {xs : List α} {i : Int} (h : 0 ≤ i ∧ i < xs.length) : ∃ d, atI xs i = some d ∧ d ∈ xs ∧ xs[i.toNat]? = some d := by
  have h1 : i.toNat < xs.length := by omega
  refine ⟨xs[i.toNat], ?_, List.getElem_mem _, List.getElem?_eq_getElem h1⟩
  simp only [atI, ixN, if_pos h.1, if_pos h.2, Option.bind_some, List.getElem?_eq_getElem h1]
def Bnd (lo hi : Int) (ds : List D) : Prop := ∀ d ∈ ds, ∃ i, d = D.int i ∧ lo ≤ i ∧ i ≤ hi
theorem bnd_nil {lo hi : Int} : Bnd lo hi [] := fun _ h => by cases h
theorem bnd_cons {lo hi i : Int} {ds : List D} (h : lo ≤ i ∧ i ≤ hi) (hb : Bnd lo hi ds) : Bnd lo hi (.int i :: ds) := by
  intro d hd
  rcases List.mem_cons.mp hd with rfl | hd
  · exact ⟨i, rfl, h⟩
  · exact hb d hd
/-- more may have been laid behind -/
def FrX (n : Nat) (S S' : Store) : Prop := Well n S' ∧ S.length ≤ S'.length ∧ ∀ m, m < S.length → m ≠ n → S'[m]? = S[m]?
theorem Fr.x {n : Nat} {S S' : Store} (h : Fr n S S') : FrX n S S' := ⟨h.1, by rw [h.2.1]; exact Nat.le_refl _, fun m _ hn => h.2.2 m hn⟩
theorem FrX.trans {n : Nat} {S S' S'' : Store} (h : FrX n S S') (h' : FrX n S' S'') : FrX n S S'' := ⟨h'.1, Nat.le_trans h.2.1 h'.2.1, fun m hm hn => (h'.2.2 m (Nat.lt_of_lt_of_le hm h.2.1) hn).trans (h.2.2 m hm hn)⟩
theorem FrX.cut {n : Nat} {S S' : Store} (h : FrX n S S') (hn : n < S.length) : Fr n S (S'.take S.length) := by
  obtain ⟨⟨g, a, b, hw⟩, hl, hm⟩ := h
  refine ⟨⟨g, a, b, by rw [List.getElem?_take_of_lt hn]; exact hw⟩, by simp; omega, fun m hne => ?_⟩
  by_cases h1 : m < S.length
  · rw [List.getElem?_take_of_lt h1]; exact hm m h1 hne
  · rw [List.getElem?_eq_none (by simp; omega), List.getElem?_eq_none (by omega)]
theorem Well.more {n : Nat} {S : Store} (h : Well n S) (x : List D) : Well n (S ++ [x]) := by
  have := len_of h
  obtain ⟨g, a, b, h⟩ := h
  exact ⟨g, a, b, by rw [List.getElem?_append_left this]; exact h⟩
theorem FrX.lay {n : Nat} {S : Store} (h : Well n S) (x : List D) : FrX n S (S ++ [x]) := ⟨h.more x, by simp, fun m hm _ => List.getElem?_append_left hm⟩
theorem Well.other {n m : Nat} {S : Store} (h : Well n S) (hm : m ≠ n) (x : List D) : Well n (S.set m x) := by
  obtain ⟨g, a, b, h⟩ := h
  exact ⟨g, a, b, by rw [List.getElem?_set_ne hm]; exact h⟩
theorem Fr.back {n : Nat} {S S2 : Store} {x : List D} (hw : Well n S) (h : Fr n (S ++ [x]) S2) : ∃ S3, S2 = S3 ++ [x] ∧ Fr n S S3 := by
  have hn := len_of hw
  have hl : S2.length = S.length + 1 := by rw [h.2.1]; simp
  have e : S2[S.length]? = some x := by rw [h.2.2 _ (by omega)]; simp
  refine ⟨S2.take S.length, ?_, ?_⟩
  · have h2 : S.length < S2.length := by omega
    rw [List.getElem?_eq_getElem h2] at e
    cases e
    have := List.take_succ_eq_append_getElem h2
    rw [← this, List.take_of_length_le (by omega)]
  · obtain ⟨g, a, b, hg⟩ := h.1
    refine ⟨⟨g, a, b, by rw [List.getElem?_take_of_lt hn]; exact hg⟩, by simp; omega, fun m hm => ?_⟩
    by_cases h1 : m < S.length
    · rw [List.getElem?_take_of_lt h1, h.2.2 m hm, List.getElem?_append_left h1]
    · rw [List.getElem?_eq_none (by simp; omega), List.getElem?_eq_none (by omega)]
theorem insI_mem (x : Int) : ∀ (l : List Int) (y : Int), y ∈ insI x l ↔ y = x ∨ y ∈ l
  | [], y => by simp [insI]
  | a :: l, y => by
    unfold insI
    split
    · simp
    · simp only [List.mem_cons, insI_mem x l y]
      constructor
      · rintro (h | h | h) <;> simp [h]
      · rintro (h | h | h) <;> simp [h]
theorem insI_len (x : Int) : ∀ l : List Int, (insI x l).length = l.length + 1
  | [] => rfl
  | a :: l => by
    unfold insI
    split
    · simp
    · simp [insI_len x l]
theorem insI_pw (x : Int) : ∀ l : List Int, l.Pairwise (· ≤ ·) → (insI x l).Pairwise (· ≤ ·)
  | [], _ => by simp [insI]
  | a :: l, h => by
    unfold insI
    have h1 := List.pairwise_cons.mp h
    split
    · rename_i hx
      refine List.pairwise_cons.mpr ⟨fun y hy => ?_, h⟩
      rcases List.mem_cons.mp hy with rfl | hy
      · exact hx
      · exact Int.le_trans hx (h1.1 y hy)
    · rename_i hx
      refine List.pairwise_cons.mpr ⟨fun y hy => ?_, insI_pw x l h1.2⟩
      rcases (insI_mem x l y).mp hy with rfl | hy
      · omega
      · exact h1.1 y hy
theorem sortI_len : ∀ l : List Int, (sortI l).length = l.length
  | [] => rfl
  | a :: l => by simp [sortI, insI_len, sortI_len l]
theorem sortI_mem : ∀ (l : List Int) (y : Int), y ∈ sortI l ↔ y ∈ l
  | [], y => by simp [sortI]
  | a :: l, y => by simp [sortI, insI_mem, sortI_mem l y]
theorem sortI_pw : ∀ l : List Int, (sortI l).Pairwise (· ≤ ·)
  | [] => by simp [sortI]
  | a :: l => insI_pw a _ (sortI_pw l)
theorem Fr.at {n m : Nat} {S S' : Store} {x : List D} (h : Fr n S S') (hm : m ≠ n) (e : S[m]? = some x) : S'[m]? = some x := (h.2.2 m hm).trans e
theorem Fr.putX {n m : Nat} {S S' : Store} (h : FrX n S S') (hm : S.length ≤ m) (hn : n < S.length) (x : List D) : FrX n S (S'.set m x) :=
  ⟨h.1.other (by omega) x, by rw [List.length_set]; exact h.2.1, fun k hk hkn => by rw [List.getElem?_set_ne (by omega)]; exact h.2.2 k hk hkn⟩
theorem any_ints (ns : List Int) (v : Int) : ((ns.map D.int).any fun e => D.eqv e (.int v)) = decide (v ∈ ns) := by
  induction ns with
  | nil => simp
  | cons n ns ih =>
    rw [List.map_cons, List.any_cons, ih]
    by_cases h : v = n
    · subst h; simp [D.eqv]
    · have h2 : (n == v) = false := by simpa using fun e => h e.symm
      simp [D.eqv, h, h2]
theorem flat_ints (ns : List Int) : (ns.map D.int).all flatD = true := by
  rw [List.all_eq_true]
  intro d hd
  obtain ⟨i, _, rfl⟩ := List.mem_map.mp hd
  rfl
theorem in_ints {neg : Bool} {ns : List Int} {v : Int} {x : D} {S : Store} (hx : asS x S = some (ns.map D.int)) : oInA neg (.int v) x S = some (.ok (.bl (if neg then !decide (v ∈ ns) else decide (v ∈ ns))), S) := by
  have e : oIn neg (.int v) x S = some (.ok (.bl (if neg then !decide (v ∈ ns) else decide (v ∈ ns))), S) := by
    unfold oIn
    rw [hx]
    dsimp only
    rw [if_pos ⟨rfl, flat_ints ns⟩, any_ints]
  cases x <;> first | exact e | (cases hx)
theorem nat_ints (l : List Nat) : l.map nD = (l.map Int.ofNat).map D.int := by rw [List.map_map]; rfl
theorem in_nats {neg : Bool} {l : List Nat} {v : Nat} {x : D} {S : Store} (hx : asS x S = some (l.map nD)) : oInA neg (nD v) x S = some (.ok (.bl (if neg then !decide (v ∈ l) else decide (v ∈ l))), S) := by
  rw [nat_ints] at hx
  have h := in_ints (neg := neg) (v := (v : Int)) hx
  have e : ((v : Int) ∈ l.map Int.ofNat) ↔ v ∈ l := by
    constructor
    · intro h
      obtain ⟨k, hk, e⟩ := List.mem_map.mp h
      have e : k = v := Int.ofNat.inj e
      rw [← e]; exact hk
    · exact fun h => List.mem_map.mpr ⟨v, h, rfl⟩
  have e2 : decide ((v : Int) ∈ l.map Int.ofNat) = decide (v ∈ l) := by simp only [e]
  rw [e2] at h
  exact h
/-- numbers within bounds -/
def InB (lo hi : Int) (ns : List Int) : Prop := ∀ v ∈ ns, lo ≤ v ∧ v ≤ hi
theorem InB.bnd {lo hi : Int} {ns : List Int} (h : InB lo hi ns) : Bnd lo hi (ns.map D.int) := fun d hd => by
  obtain ⟨i, hi, rfl⟩ := List.mem_map.mp hd
  exact ⟨i, rfl, h i hi⟩
theorem InB.set {lo hi : Int} {ns : List Int} (h : InB lo hi ns) {v : Int} (hv : lo ≤ v ∧ v ≤ hi) (k : Nat) : InB lo hi (ns.set k v) := fun x hx => by
  rcases List.mem_or_eq_of_mem_set hx with hx | rfl
  · exact h x hx
  · exact hv
theorem put_ints {S : Store} {m : Nat} {k v : Int} {ns : List Int} {Q : Store → Prop} (e : S[m]? = some (ns.map D.int)) (hk : 0 ≤ k ∧ k < ns.length)
    (h : ∀ S', S' = S.set m ((ns.set k.toNat v).map D.int) → S'[m]? = some ((ns.set k.toNat v).map D.int) → Q S') : Put S m k (.int v) Q := by
  refine ⟨_, k.toNat, e, ?_, rfl, ?_⟩
  · unfold ixN
    rw [if_pos hk.1, List.length_map, if_pos hk.2]
  · have e2 : (ns.map D.int).set k.toNat (.int v) = (ns.set k.toNat v).map D.int := by rw [List.map_set]
    rw [e2]
    exact h _ rfl (set_get _ e)
theorem b_sortedL {S : Store} {x : D} {ns : List Int} (hx : asL x S = some (ns.map D.int)) : bSortedA [x] S = some (.ok (.lst ((sortI ns).map D.int)), S) := by
  have e : bSorted [x] S = some (.ok (.lst ((sortI ns).map D.int)), S) := by simp only [bSorted, bL1, hx, intsOf_map]
  have e2 : bSortedTI [x] S = none := by cases x <;> first | rfl | (cases hx)
  unfold bSortedA
  rw [e2]
  exact e
theorem b_sortedT {S : Store} {ns : List Int} : bSortedA [tI ns] S = some (.ok (.lst ((sortI ns).map D.int)), S) := by
  have e2 : bSortedTI [tI ns] S = some (.ok (.lst ((sortI ns).map D.int)), S) := by
    unfold bSortedTI tI
    simp only [intsOf_map]
  unfold bSortedA
  rw [e2]
theorem getD_in {lo hi : Int} {ns : List Int} (h : InB lo hi ns) {k : Int} (hk : 0 ≤ k ∧ k < ns.length) : lo ≤ ns.getD k.toNat 0 ∧ ns.getD k.toNat 0 ≤ hi := by
  have h1 : k.toNat < ns.length := by omega
  rw [List.getD_eq_getElem?_getD, List.getElem?_eq_getElem h1]
  exact h _ (List.getElem_mem h1)
theorem getN_in {lo hi : Int} {ns : List Int} (h : InB lo hi ns) {k : Nat} (hk : k < ns.length) : lo ≤ ns.getD k 0 ∧ ns.getD k 0 ≤ hi := by
  rw [List.getD_eq_getElem?_getD, List.getElem?_eq_getElem hk]
  exact h _ (List.getElem_mem hk)
theorem InB.sort {lo hi : Int} {ns : List Int} (h : InB lo hi ns) : InB lo hi (sortI ns).reverse := fun x hx => h x ((sortI_mem ns x).mp (List.mem_reverse.mp hx))
theorem InB.add {lo hi : Int} {ns : List Int} (h : InB lo hi ns) {v : Int} (hv : lo ≤ v ∧ v ≤ hi) : InB lo hi (ns ++ [v]) := fun x hx => by
  rcases List.mem_append.mp hx with hx | hx
  · exact h x hx
  · rw [List.mem_singleton] at hx; subst hx; exact hv
theorem InB.nil {lo hi : Int} : InB lo hi [] := fun _ h => by cases h
theorem ranged_at {lo : Int} {n i : Nat} {d : D} (h : (ranged lo n)[i]? = some d) : i < n ∧ d = .int (lo + i) := by
  rcases Nat.lt_or_ge i n with h1 | h1
  · rw [ranged_get _ _ _ h1] at h
    exact ⟨h1, (Option.some.inj h).symm⟩
  · rw [List.getElem?_eq_none (by rw [ranged_len]; exact h1)] at h; cases h
theorem ne_same {a : Str} {S : Store} : oNeA (.str a) (.str a) S = some (.ok (.bl false), S) := by
  have e : oNeS (.str a) (.str a) S = some (.ok (.bl (!(a == a))), S) := rfl
  unfold oNeA
  rw [e, beq_self_eq_true]
  rfl
theorem eq_same {a : Str} {S : Store} : oEqA (.str a) (.str a) S = some (.ok (.bl true), S) := by
  have e : oEqS (.str a) (.str a) S = some (.ok (.bl (a == a)), S) := rfl
  unfold oEqA
  rw [e, beq_self_eq_true]
theorem ix_last {ns : List Int} {S : Store} {Q : D → Store → Prop} {E : XV → Store → Prop} (h0 : 1 ≤ ns.length) (h : Q (.int (ns.getD (ns.length - 1) 0)) S) : Pst (oIx (tI ns) (.int (-1)) S) Q E := by
  refine o1_ix ⟨_, _, rfl, ?_, h⟩
  rw [atI_end, List.getLast?_map, List.getLast?_eq_getElem?, List.getD_eq_getElem?_getD, List.getElem?_eq_getElem (by omega)]
  rfl
end PF
set_option Elab.async false
set_option linter.all false
set_option maxRecDepth 100000
set_option maxHeartbeats 4000000
namespace LW
open PySem L2 Evl PySem.Spec PyProof.Rows PF
local macro_rules | `(tactic| trivial) => `(tactic| first
  | (with_reducible first | refine v0 ?_ | refine v1 ?_ | refine v2 ?_ | refine v3 ?_ | refine v4 ?_ | refine v5 ?_ | refine v6 ?_ | refine v7 ?_ | refine v8 ?_ | refine v9 ?_ | refine v10 ?_ | refine v11 ?_ | refine v12 ?_ | refine v13 ?_ | refine tn0 ?_ | refine tn1 ?_ | refine tn2 ?_ | refine tn3 ?_ | refine tn4 ?_ | refine tn5 ?_ | refine tn6 ?_ | refine tn7 ?_ | refine tn8 ?_ | refine tn9 ?_ | refine tn10 ?_ | refine tn11 ?_ | refine tn12 ?_ | refine tn13 ?_ | refine ss0 ?_ | refine ss1 ?_ | refine ss2 ?_ | refine ss3 ?_ | refine ss4 ?_ | refine ss5 ?_ | refine ss6 ?_ | refine ss7 ?_ | refine ss8 ?_ | refine ss9 ?_ | refine ss10 ?_ | refine ss11 ?_ | refine ss12 ?_ | refine ss13 ?_)
  | (with_reducible first | refine r_k ?_ | refine r_bin ?_ | refine r_cons ?_ | refine r_nil ?_ | refine r_call ?_ | refine r_blt ?_ | refine r_un ?_ | refine r_ok ?_ | refine s_seq ?_ | refine s_ret ?_ | refine s_if ?_ | refine s_expr ?_ | refine s_asg ?_ | refine s_par ?_ | refine s_nil ?_ | refine s_brk ?_ | refine s_ct ?_ | refine s_for ?_ | refine bool_t ?_ | refine bool_and ?_ | refine bool_or ?_ | refine bool_not ?_ | refine bool_yes ?_ | refine r_and ?_ | refine r_or ?_ | refine r_not ?_ | refine r_ife ?_ | refine r_chain ?_ | refine r_isi ?_ | refine r_lam ?_ | refine r_back ?_ | refine r_listR1 ?_ | refine r_callK ?_ | refine r_mt ?_ | refine r_alloc ?_ | refine r_sliceA ?_ | refine r_sliceL ?_ | refine r_no ?_ | refine r_part ?_ | refine r_scope ?_ | refine t_nil ?_ | refine t_cons ?_ | refine q_seq ?_ | refine q_range ?_ | refine q_range2 ?_ | refine q_rangeD ?_ | refine q_enumA ?_ | refine nx_nx ?_ | refine nx_ret ?_ | refine nx_exc ?_ | refine nx_brk ?_ | refine nx_ct ?_ | refine bl_bl ?_ | refine cs_not ?_ | refine cs_t ?_ | refine cs_f ?_ | refine r_bind ?_ | refine r_nox ?_ | refine t_sub ?_ | refine s_retL ?_ | refine o1_sub ?_ | refine o1_add ?_ | refine o1_lt ?_ | refine o1_le ?_ | refine o1_gt ?_ | refine o1_ge ?_ | refine o1_neg ?_ | refine o1_eq ?_ | refine o1_ne ?_ | refine b1_abs ?_ | refine b1_int ?_ | refine b1_min2 ?_ | refine b1_max2 ?_ | refine o1_eqA ?_ | refine o1_neA ?_ | refine o1_eqS ?_ | refine o1_isN ?_ | refine o1_notN ?_ | refine x_bl ?_ | refine x_int ?_ | refine x_str ?_ | refine x_non ?_ | refine x_nx ?_ | refine x_tup ?_ | refine x_lst ?_ | refine sl_tup ?_ | refine sl_lst ?_ | refine sl_fz ?_ | refine sL_lst ?_ | refine sL_fz ?_)
  | (with_reducible first | refine r_tup ?_ | refine r_lst ?_ | refine o1_addT ?_ | refine o1_addL ?_ | refine b1_len ?_ | refine b1_tuple ?_ | refine b1_list ?_ | refine o1_cat ?_ | refine m1_append ?_ | refine o_pow10_1 ?_ | refine o_pow10_2 ?_ | refine o_pow10_3 ?_ | refine o_pow10_4 ?_ | refine o_pow10_5 ?_ | refine o_pow10_6 ?_ | refine o_pow10_7 ?_ | refine o_pow10_8 ?_ | refine o_pow10_9 ?_ | refine o_pow10_10 ?_ | refine o_pow10_11 ?_ | refine o_pow10_12 ?_ | refine o_pow10_13 ?_ | refine o_pow10_14 ?_ | refine o_pow10_15 ?_ | refine o_pow10_16 ?_ | refine o_pow10_17 ?_ | refine o_pow10_18 ?_ | refine o_pow10_20 ?_ | refine o_pow10_30 ?_)
  | ((with_reducible refine o1_ix ?_); refine ⟨_, _, by first | rfl | assumption, by first | rfl | exact atI_zero, ?_⟩)
  | ((with_reducible refine o1_mul ?_ ?_); first | omega | decide | fail)
  | ((with_reducible refine o1_div ?_ ?_); first | omega | decide | fail)
  | ((with_reducible refine o1_mod ?_ ?_); first | omega | decide | fail)
  | ((with_reducible refine b1_divmod ?_ ?_); first | omega | decide | fail)
  | ((with_reducible refine t_tup ?_ ?_); rfl)
  | ((with_reducible refine r_callV ?_ ?_); rfl)
  | (with_reducible refine cs_dec (fun _ => ?_) (fun _ => ?_))
  | (with_reducible refine cs_beq (fun _ => ?_) (fun _ => ?_))
  | ((with_reducible refine cs_te ?_ ?_); rfl)
  | ((with_reducible refine cs_fe ?_ ?_); rfl)
  | ((with_reducible refine put0 (by assumption) ?_ fun _ => ?_); first | rfl | fail)
  | ((with_reducible refine put1 (by assumption) ?_ fun _ => ?_); first | rfl | fail)
  | ((with_reducible refine put2 (by assumption) ?_ fun _ => ?_); first | rfl | fail)
  | ((fail_if_success (with_reducible refine pst_id ?_)); first
    | exact take_same
    | (with_reducible refine fun (_ : Nat) (_ : Store) (_ : _ = _) (_ : _ = _) (_ : _ = _) => ?_)
    | ((fail_if_success (with_reducible refine And.intro ?_ ?_)); refine ⟨_, by first | rfl | assumption, ?_⟩)
    | ((fail_if_success (with_reducible refine And.intro ?_ ?_)); refine ⟨_, _, rfl, ?_⟩)
    | ((fail_if_success (with_reducible refine And.intro ?_ ?_)); refine ⟨_, _, by first | rfl | assumption, rfl, ?_⟩)
    | ((with_reducible refine And.intro ?_ ?_); first | exact rfl | omega | (simp only [List.length_map]; omega) | exact ⟨rfl, rfl⟩ | exact Nat.le_of_ble_eq_true rfl | fail))
  | ((with_reducible refine draw_go (by assumption) ?_ ?_); (first | omega | (simp only [List.length_map]; omega) | fail); intro _ _ _ _ _ _)
  | ((with_reducible refine of_go (0) (1000) (by assumption) ?_ ?_ ?_); (exact ⟨Nat.zero_lt_succ _, Nat.le_of_ble_eq_true rfl⟩); (focus ((repeat (first | exact bnd_nil | refine bnd_cons (by omega) ?_)); (all_goals fail))); intro _ _ _ _ _ _)
  | ((with_reducible refine of_go (1) (100000) (by assumption) ?_ ?_ ?_); (exact ⟨Nat.zero_lt_succ _, Nat.le_of_ble_eq_true rfl⟩); (focus ((repeat (first | exact bnd_nil | refine bnd_cons (by omega) ?_)); (all_goals fail))); intro _ _ _ _ _ _)
  | ((with_reducible refine of_go (1) (1000000) (by assumption) ?_ ?_ ?_); (exact ⟨Nat.zero_lt_succ _, Nat.le_of_ble_eq_true rfl⟩); (focus ((repeat (first | exact bnd_nil | refine bnd_cons (by omega) ?_)); (all_goals fail))); intro _ _ _ _ _ _)
  | ((with_reducible refine of_go (0) (1000000) (by assumption) ?_ ?_ ?_); (exact ⟨Nat.zero_lt_succ _, Nat.le_of_ble_eq_true rfl⟩); (focus ((repeat (first | exact bnd_nil | refine bnd_cons (by omega) ?_)); (all_goals fail))); intro _ _ _ _ _ _)
  | ((with_reducible refine of_go (1) (1000001) (by assumption) ?_ ?_ ?_); (exact ⟨Nat.zero_lt_succ _, Nat.le_of_ble_eq_true rfl⟩); (focus ((repeat (first | exact bnd_nil | refine bnd_cons (by omega) ?_)); (all_goals fail))); intro _ _ _ _ _ _))
local macro_rules | `(tactic| done) => `(tactic| first
  | (with_reducible first | refine v0 ?_ | refine v1 ?_ | refine v2 ?_ | refine v3 ?_ | refine v4 ?_ | refine v5 ?_ | refine v6 ?_ | refine v7 ?_ | refine v8 ?_ | refine v9 ?_ | refine v10 ?_ | refine v11 ?_ | refine v12 ?_ | refine v13 ?_ | refine tn0 ?_ | refine tn1 ?_ | refine tn2 ?_ | refine tn3 ?_ | refine tn4 ?_ | refine tn5 ?_ | refine tn6 ?_ | refine tn7 ?_ | refine tn8 ?_ | refine tn9 ?_ | refine tn10 ?_ | refine tn11 ?_ | refine tn12 ?_ | refine tn13 ?_ | refine ss0 ?_ | refine ss1 ?_ | refine ss2 ?_ | refine ss3 ?_ | refine ss4 ?_ | refine ss5 ?_ | refine ss6 ?_ | refine ss7 ?_ | refine ss8 ?_ | refine ss9 ?_ | refine ss10 ?_ | refine ss11 ?_ | refine ss12 ?_ | refine ss13 ?_)
  | (with_reducible first | refine r_k ?_ | refine r_bin ?_ | refine r_cons ?_ | refine r_nil ?_ | refine r_call ?_ | refine r_blt ?_ | refine r_un ?_ | refine r_ok ?_ | refine s_seq ?_ | refine s_ret ?_ | refine s_if ?_ | refine s_expr ?_ | refine s_asg ?_ | refine s_par ?_ | refine s_nil ?_ | refine s_brk ?_ | refine s_ct ?_ | refine s_for ?_ | refine bool_t ?_ | refine bool_and ?_ | refine bool_or ?_ | refine bool_not ?_ | refine bool_yes ?_ | refine r_and ?_ | refine r_or ?_ | refine r_not ?_ | refine r_ife ?_ | refine r_chain ?_ | refine r_isi ?_ | refine r_lam ?_ | refine r_back ?_ | refine r_listR1 ?_ | refine r_callK ?_ | refine r_mt ?_ | refine r_alloc ?_ | refine r_sliceA ?_ | refine r_sliceL ?_ | refine r_no ?_ | refine r_part ?_ | refine r_scope ?_ | refine t_nil ?_ | refine t_cons ?_ | refine q_seq ?_ | refine q_range ?_ | refine q_range2 ?_ | refine q_rangeD ?_ | refine q_enumA ?_ | refine nx_nx ?_ | refine nx_ret ?_ | refine nx_exc ?_ | refine nx_brk ?_ | refine nx_ct ?_ | refine bl_bl ?_ | refine cs_not ?_ | refine cs_t ?_ | refine cs_f ?_ | refine r_bind ?_ | refine r_nox ?_ | refine t_sub ?_ | refine s_retL ?_ | refine o1_sub ?_ | refine o1_add ?_ | refine o1_lt ?_ | refine o1_le ?_ | refine o1_gt ?_ | refine o1_ge ?_ | refine o1_neg ?_ | refine o1_eq ?_ | refine o1_ne ?_ | refine b1_abs ?_ | refine b1_int ?_ | refine b1_min2 ?_ | refine b1_max2 ?_ | refine o1_eqA ?_ | refine o1_neA ?_ | refine o1_eqS ?_ | refine o1_isN ?_ | refine o1_notN ?_ | refine x_bl ?_ | refine x_int ?_ | refine x_str ?_ | refine x_non ?_ | refine x_nx ?_ | refine x_tup ?_ | refine x_lst ?_ | refine sl_tup ?_ | refine sl_lst ?_ | refine sl_fz ?_ | refine sL_lst ?_ | refine sL_fz ?_)
  | (with_reducible first | refine r_tup ?_ | refine r_lst ?_ | refine o1_addT ?_ | refine o1_addL ?_ | refine b1_len ?_ | refine b1_tuple ?_ | refine b1_list ?_ | refine o1_cat ?_ | refine m1_append ?_ | refine o_pow10_1 ?_ | refine o_pow10_2 ?_ | refine o_pow10_3 ?_ | refine o_pow10_4 ?_ | refine o_pow10_5 ?_ | refine o_pow10_6 ?_ | refine o_pow10_7 ?_ | refine o_pow10_8 ?_ | refine o_pow10_9 ?_ | refine o_pow10_10 ?_ | refine o_pow10_11 ?_ | refine o_pow10_12 ?_ | refine o_pow10_13 ?_ | refine o_pow10_14 ?_ | refine o_pow10_15 ?_ | refine o_pow10_16 ?_ | refine o_pow10_17 ?_ | refine o_pow10_18 ?_ | refine o_pow10_20 ?_ | refine o_pow10_30 ?_)
  | ((with_reducible refine o1_ix ?_); refine ⟨_, _, by first | rfl | assumption, by first | rfl | exact atI_zero, ?_⟩)
  | ((with_reducible refine o1_mul ?_ ?_); first | omega | decide | fail)
  | ((with_reducible refine o1_div ?_ ?_); first | omega | decide | fail)
  | ((with_reducible refine o1_mod ?_ ?_); first | omega | decide | fail)
  | ((with_reducible refine b1_divmod ?_ ?_); first | omega | decide | fail)
  | ((with_reducible refine t_tup ?_ ?_); rfl)
  | ((with_reducible refine r_callV ?_ ?_); rfl)
  | (with_reducible refine cs_dec (fun _ => ?_) (fun _ => ?_))
  | (with_reducible refine cs_beq (fun _ => ?_) (fun _ => ?_))
  | ((with_reducible refine cs_te ?_ ?_); rfl)
  | ((with_reducible refine cs_fe ?_ ?_); rfl)
  | ((with_reducible refine put0 (by assumption) ?_ fun _ => ?_); first | rfl | fail)
  | ((with_reducible refine put1 (by assumption) ?_ fun _ => ?_); first | rfl | fail)
  | ((with_reducible refine put2 (by assumption) ?_ fun _ => ?_); first | rfl | fail)
  | ((fail_if_success (with_reducible refine pst_id ?_)); first
    | exact take_same
    | (with_reducible refine fun (_ : Nat) (_ : Store) (_ : _ = _) (_ : _ = _) (_ : _ = _) => ?_)
    | ((fail_if_success (with_reducible refine And.intro ?_ ?_)); refine ⟨_, by first | rfl | assumption, ?_⟩)
    | ((fail_if_success (with_reducible refine And.intro ?_ ?_)); refine ⟨_, _, rfl, ?_⟩)
    | ((fail_if_success (with_reducible refine And.intro ?_ ?_)); refine ⟨_, _, by first | rfl | assumption, rfl, ?_⟩)
    | ((with_reducible refine And.intro ?_ ?_); first | exact rfl | omega | (simp only [List.length_map]; omega) | exact ⟨rfl, rfl⟩ | exact Nat.le_of_ble_eq_true rfl | fail))
  | ((with_reducible refine draw_go (by assumption) ?_ ?_); (first | omega | (simp only [List.length_map]; omega) | fail); intro _ _ _ _ _ _)
  | ((with_reducible refine of_go (0) (1000) (by assumption) ?_ ?_ ?_); (exact ⟨Nat.zero_lt_succ _, Nat.le_of_ble_eq_true rfl⟩); (focus ((repeat (first | exact bnd_nil | refine bnd_cons (by omega) ?_)); (all_goals fail))); intro _ _ _ _ _ _)
  | ((with_reducible refine of_go (1) (100000) (by assumption) ?_ ?_ ?_); (exact ⟨Nat.zero_lt_succ _, Nat.le_of_ble_eq_true rfl⟩); (focus ((repeat (first | exact bnd_nil | refine bnd_cons (by omega) ?_)); (all_goals fail))); intro _ _ _ _ _ _)
  | ((with_reducible refine of_go (1) (1000000) (by assumption) ?_ ?_ ?_); (exact ⟨Nat.zero_lt_succ _, Nat.le_of_ble_eq_true rfl⟩); (focus ((repeat (first | exact bnd_nil | refine bnd_cons (by omega) ?_)); (all_goals fail))); intro _ _ _ _ _ _)
  | ((with_reducible refine of_go (0) (1000000) (by assumption) ?_ ?_ ?_); (exact ⟨Nat.zero_lt_succ _, Nat.le_of_ble_eq_true rfl⟩); (focus ((repeat (first | exact bnd_nil | refine bnd_cons (by omega) ?_)); (all_goals fail))); intro _ _ _ _ _ _)
  | ((with_reducible refine of_go (1) (1000001) (by assumption) ?_ ?_ ?_); (exact ⟨Nat.zero_lt_succ _, Nat.le_of_ble_eq_true rfl⟩); (focus ((repeat (first | exact bnd_nil | refine bnd_cons (by omega) ?_)); (all_goals fail))); intro _ _ _ _ _ _)
  | ((fail_if_success (with_reducible refine pst_id ?_)); first | (with_reducible rfl) | assumption | contradiction))
/-- no net falls at a step -/
def levelB (rs : List St) : Bool := (rs.drop 1).all fun s => decide (feeN rs s.1 - feeN rs (s.1 - 1) ≤ 1)
theorem tail_pos {rs : List St} (h : Rule rs) {s : St} (hs : s ∈ rs.drop 1) : 1 ≤ s.1 ∧ s.1 ≤ 1000000 := by
  have hok := h.ok s (List.mem_of_mem_drop hs)
  refine ⟨?_, hok.1.2⟩
  have h0 := h.h0
  have hp := (asc_iff _).mp h.asc
  have l1 := h.l1
  match rs, l1, hs with
  | r0 :: rs, _, hs =>
    have h1 := (List.pairwise_cons.mp hp).1 s.1 (List.mem_map_of_mem hs)
    have h0 : r0.1 = 0 := h0
    have h1 : r0.1 < s.1 := h1
    omega
theorem falls_ok {rs : List St} (h : Rule rs) {S : Store} : Pst (F_falls_at [ruleD rs] S) (fun d S' => S' = S ∧ d.pure = true ∧ d.isN = levelB rs) NoE := by
  have l6 := h.l6
  have hsl : cutL (rs.map stepD) (some 1) none = (rs.drop 1).map stepD := by rw [cut_from _ (by decide), ← List.map_drop]; rfl
  unfold ruleD
  unfold F_falls_at b_falls_at
  refine call_go rfl ?_
  dsimp only [startE, List.map, List.replicate, List.length, List.cons_append, List.nil_append, Nat.reduceAdd, Nat.reduceSub]
  repeat' trivial
  rw [hsl]
  refine for_of (fun i ρ S' => ∃ x1 x2, ρ = [some (.tup (rs.map stepD)), x1, x2] ∧ S' = S ∧ ∀ j s, j < i → (rs.drop 1)[j]? = some s → feeN rs s.1 - feeN rs (s.1 - 1) ≤ 1) ?_ (fun _ _ _ _ => rfl) ?_ ?_
  · exact ⟨_, _, rfl, rfl, fun j s hj => absurd hj (Nat.not_lt_zero _)⟩
  · rintro i d ρ S' hd ⟨x1, x2, rfl, rfl, hl⟩
    rw [List.getElem?_map, Option.map_eq_some_iff] at hd
    obtain ⟨s, hs, rfl⟩ := hd
    have hb := tail_pos h (List.mem_of_getElem? hs)
    rw [show stepD s = .tup [.int s.1, .int s.2.1, .int s.2.2] from rfl]
    repeat' trivial
    refine r_eq (net_of_eq h (by omega)) ?_
    repeat' trivial
    refine r_eq (net_of_eq h (by omega)) ?_
    repeat' trivial
    · rename_i hf
      show false = levelB rs
      symm
      rw [← Bool.not_eq_true]
      intro hc
      have := of_decide_eq_true (List.all_eq_true.mp hc s (List.mem_of_getElem? hs))
      omega
    · rename_i hf
      intro j t hj ht
      rcases Nat.lt_or_ge j i with h1 | h1
      · exact hl j t h1 ht
      · have e : j = i := by omega
        subst e
        rw [hs] at ht
        cases ht
        omega
  · rintro ρ S' ⟨x1, x2, rfl, rfl, hl⟩
    repeat' trivial
    show true = levelB rs
    symm
    refine List.all_eq_true.mpr fun s hs => decide_eq_true ?_
    obtain ⟨j, hj⟩ := List.mem_iff_getElem?.mp hs
    refine hl j s ?_ hj
    rw [List.length_map]
    exact (List.getElem?_eq_some_iff.mp hj).1
def onesL (rs : List St) : List Int := ((rs.drop 1).filter fun s => decide (feeN rs s.1 - feeN rs (s.1 - 1) > 1)).map fun _ => 1
theorem eqok_ints {ns : List Int} : eqOk (tI ns) = true := by
  unfold eqOk
  rw [Bool.and_eq_true]
  refine ⟨by rw [D.pure]; exact pures_mapI, ?_⟩
  unfold SeqAt.shaped
  rw [Bool.and_eq_true]
  constructor
  · rw [D.py, PyData.canLay0]
    induction ns with
    | nil => rfl
    | cons n ns ih => simp only [List.map_cons, D.pys, PyData.canLayAll0, D.py, PyData.canLay0, ih, Bool.and_self]
  · refine decide_eq_true ?_
    rw [D.py, PyData.depth]
    have : PyData.depthAll (D.pys (ns.map D.int)) = 0 := by
      induction ns with
      | nil => rfl
      | cons n ns ih => simp only [List.map_cons, D.pys, D.py, PyData.depthAll, PyData.depth, ih, Nat.max_self]
    omega
theorem eqA_ints {l : List Int} {S : Store} : oEqA (.lst (l.map D.int)) (.lst []) S = some (.ok (.bl l.isEmpty), S) := by
  have h : eqOk (.tup (l.map D.int)) = true := eqok_ints
  have h2 : eqOk (.lst (l.map D.int)) = true := by
    unfold eqOk at h ⊢
    unfold SeqAt.shaped at h ⊢
    simp only [D.pure, D.py, PyData.canLay0, PyData.depth] at h ⊢
    exact h
  unfold oEqA oEqS oEq
  refine (if_pos ⟨h2, (by decide : eqOk (.lst []) = true)⟩).trans ?_
  dsimp only [told]
  cases l <;> simp [D.eqv, D.eqvs]
theorem ones_filt (rs ss : List St) : (ss.map stepD).filterMap (fun d => match d with | .tup [.int a, b, c] => if feeN rs a - feeN rs (a - 1) > 1 then some (D.int 1) else none | _ => none) = ((ss.filter fun s => decide (feeN rs s.1 - feeN rs (s.1 - 1) > 1)).map fun _ => (1 : Int)).map D.int := by
  induction ss with
  | nil => rfl
  | cons s ss ih =>
    rw [List.map_cons, List.filterMap_cons]
    by_cases h : feeN rs s.1 - feeN rs (s.1 - 1) > 1
    · rw [List.filter_cons_of_pos (by simpa using h), List.map_cons, List.map_cons, ← ih]
      simp only [stepD, h, if_true]
    · rw [List.filter_cons_of_neg (by simpa using h), ← ih]
      simp only [stepD, h, if_false]
theorem ones_level (rs : List St) : (onesL rs).isEmpty = levelB rs := by
  unfold onesL levelB
  induction rs.drop 1 with
  | nil => rfl
  | cons s ss ih =>
    rw [List.all_cons]
    by_cases h : feeN rs s.1 - feeN rs (s.1 - 1) > 1
    · rw [List.filter_cons_of_pos (by simpa using h), decide_eq_false (by omega)]
      rfl
    · rw [List.filter_cons_of_neg (by simpa using h), decide_eq_true (by omega), ih]
      rfl
theorem level_is {rs : List St} (h : Rule rs) {S : Store} : F__law_level [ruleD rs] S = some (.ok (.bl (levelB rs)), S) := by
  have l6 := h.l6
  have hsl : cutL (rs.map stepD) (some 1) none = (rs.drop 1).map stepD := by rw [cut_from _ (by decide), ← List.map_drop]; rfl
  unfold ruleD
  unfold F__law_level b__law_level
  refine call_eq rfl ?_
  dsimp only [startE, List.map, List.replicate, List.length, List.cons_append, List.nil_append, Nat.reduceAdd, Nat.reduceSub]
  repeat' trivial
  refine r_eq (comp_pure (so := .items (cutL (rs.map stepD) (some 1) none)) (ds := cutL (rs.map stepD) (some 1) none) (fun d => match d with | .tup [.int a, b, c] => if feeN rs a - feeN rs (a - 1) > 1 then some (D.int 1) else none | _ => none) rfl rfl (fun _ => rfl) ?_ ?_) ?_
  · rw [hsl, List.length_map, List.length_drop]; show _ ≤ 1000000; omega
  · intro d hd acc
    rw [hsl] at hd
    obtain ⟨s, hs, rfl⟩ := List.mem_map.mp hd
    have hb := tail_pos h hs
    dsimp only [wipeE, List.set]
    rw [show stepD s = .tup [.int s.1, .int s.2.1, .int s.2.2] from rfl]
    repeat' trivial
    refine r_eq (law_fee_eq h (by omega)) ?_
    repeat' trivial
    refine r_eq (law_fee_eq h (by omega)) ?_
    repeat' trivial
    refine ⟨fun hb => ?_, fun hb => ?_⟩
    · have hb := of_decide_eq_true hb
      repeat' trivial
      exact if_pos hb
    · have hb := of_decide_eq_false hb
      exact ⟨rfl, if_neg hb⟩
  rw [hsl, ones_filt]
  repeat' trivial
  refine r_eq eqA_ints ?_
  rw [show (List.map (fun _ => (1 : Int)) (List.filter (fun s => decide (feeN rs s.1 - feeN rs (s.1 - 1) > 1)) (List.drop 1 rs))).isEmpty = levelB rs from ones_level rs]
  repeat' trivial
theorem falls_ends {a : D} (ha : D.pl a = true) {S : Store} : Ends (F_falling_total [a] S) S (ref1 a) := by
  refine ends_of ?_
  by_cases h : isRuleD a = true
  · obtain ⟨rs, rfl, hr⟩ := rule_form h
    rw [ref1, if_pos h]
    unfold F_falling_total b_falling_total
    refine call_go rfl ?_
    dsimp only [startE, List.map, List.replicate, List.length, List.cons_append, List.nil_append, Nat.reduceAdd, Nat.reduceSub]
    repeat' trivial
    refine r_eq (check_rule_eq _ ha h) ?_
    repeat' trivial
    refine Pst.imp (falls_ok hr) ?_
    rintro d _ ⟨rfl, hp, _⟩
    rw [exit_pure hp]
    exact ⟨rfl, take_same⟩
  · rw [ref1, if_neg h]
    rw [Bool.not_eq_true] at h
    unfold F_falling_total b_falling_total
    refine call_go rfl ?_
    dsimp only [startE, List.map, List.replicate, List.length, List.cons_append, List.nil_append, Nat.reduceAdd, Nat.reduceSub]
    repeat' trivial
    refine r_err (check_rule_bad ha h) ?_
    repeat' trivial
    exact exc1 (pl_pure ha) ⟨rfl, rfl⟩
theorem level_ends {a : D} (ha : D.pl a = true) {S : Store} : Ends (F_is_level [a] S) S (ref1 a) := by
  refine ends_of ?_
  by_cases h : isRuleD a = true
  · obtain ⟨rs, rfl, hr⟩ := rule_form h
    rw [ref1, if_pos h]
    unfold F_is_level b_is_level
    refine call_go rfl ?_
    dsimp only [startE, List.map, List.replicate, List.length, List.cons_append, List.nil_append, Nat.reduceAdd, Nat.reduceSub]
    repeat' trivial
    refine r_eq (check_rule_eq _ ha h) ?_
    repeat' trivial
    refine Pst.imp (falls_ok hr) ?_
    rintro d _ ⟨rfl, hp, _⟩
    repeat' trivial
  · rw [ref1, if_neg h]
    rw [Bool.not_eq_true] at h
    unfold F_is_level b_is_level
    refine call_go rfl ?_
    dsimp only [startE, List.map, List.replicate, List.length, List.cons_append, List.nil_append, Nat.reduceAdd, Nat.reduceSub]
    repeat' trivial
    refine r_err (check_rule_bad ha h) ?_
    repeat' trivial
    exact exc1 (pl_pure ha) ⟨rfl, rfl⟩
theorem steps_inj : ∀ {rs ts : List St}, rs.map stepD = ts.map stepD → rs = ts
  | [], [], _ => rfl
  | [], _ :: _, h => by cases h
  | _ :: _, [], h => by cases h
  | (a, b, c) :: rs, (a', b', c') :: ts, h => by
    rw [List.map_cons, List.map_cons, List.cons.injEq] at h
    obtain ⟨e3, h2⟩ := h
    simp only [stepD, D.tup.injEq, List.cons.injEq, D.int.injEq, and_true] at e3
    obtain ⟨rfl, rfl, rfl⟩ := e3
    rw [steps_inj h2]
theorem is_level_rule_eq (a : D) (ha : D.pl a = true) {S : Store} : ∃ b, F_is_level_rule [a] S = some (.ok (.bl b), S) ∧ (b = true ↔ ∃ rs, a = ruleD rs ∧ Rule rs ∧ levelB rs = true) := by
  by_cases h : isRuleD a = true
  · obtain ⟨rs, rfl, hr⟩ := rule_form h
    refine ⟨levelB rs, Pst.eq.mp ?_, ?_⟩
    · skip
      unfold F_is_level_rule b_is_level_rule
      refine call_go rfl ?_
      dsimp only [startE, List.map, List.replicate, List.length, List.cons_append, List.nil_append, Nat.reduceAdd, Nat.reduceSub]
      repeat' trivial
      refine r_eq (rule_eq _ ha) ?_
      rw [h]
      repeat' trivial
      refine Pst.imp (falls_ok hr) ?_
      rintro d _ ⟨rfl, hp, hd⟩
      repeat' trivial
      exact ⟨by rw [hd], take_same⟩
    · refine ⟨fun hl => ⟨rs, rfl, hr, hl⟩, ?_⟩
      rintro ⟨rs2, e, h2, hl⟩
      have : rs2 = rs := by
        have e2 : rs2.map stepD = rs.map stepD := by
          have := D.tup.inj (show D.tup (rs.map stepD) = D.tup (rs2.map stepD) from e)
          exact this.symm
        exact steps_inj e2
      subst this
      exact hl
  · refine ⟨false, Pst.eq.mp ?_, ?_⟩
    · have h' := h
      rw [Bool.not_eq_true] at h'
      unfold F_is_level_rule b_is_level_rule
      refine call_go rfl ?_
      dsimp only [startE, List.map, List.replicate, List.length, List.cons_append, List.nil_append, Nat.reduceAdd, Nat.reduceSub]
      repeat' trivial
      refine r_eq (rule_eq _ ha) ?_
      rw [h']
      repeat' trivial
    · refine ⟨(fun hc => by cases hc), ?_⟩
      rintro ⟨rs, rfl, hr, _⟩
      exact absurd (rule_is hr) h
theorem uniqI_len : ∀ l : List Int, (uniqI l).length ≤ l.length
  | [] => Nat.le_refl _
  | [x] => Nat.le_refl _
  | x :: y :: r => by
    unfold uniqI
    have ih := uniqI_len (y :: r)
    split
    · simp only [List.length_cons] at ih ⊢; omega
    · simp only [List.length_cons] at ih ⊢; omega
theorem inner_ok {rs ts : List St} (h : Rule rs) (g : Rule ts) {b : Int} (hb : 0 ≤ b) {n : Nat} {c x3 x4 x5 x6 x7 x8 : Option D} {S : Store} {QF : Fl → Store → Prop}
    (h1 : ∀ x8, QF (.nx [some (.tup (rs.map stepD)), some (.tup (ts.map stepD)), c, x3, x4, x5, x6, x7, x8]) S) (h2 : ∀ k : Int, QF (.ret (.int k)) S) :
    Pst (forGo (.items (ranged b n)) (tName 8) (sIf (cTest (cBin oNeA (cCall 2 F_net_of (aCons (cVar 0) (aCons (cVar 8) aNil))) (cCall 2 F_net_of (aCons (cVar 1) (aCons (cVar 8) aNil))))) (sRet (cVar 8)) sNil)
      (ranged b n).length 0 [some (.tup (rs.map stepD)), some (.tup (ts.map stepD)), c, x3, x4, x5, x6, x7, x8] S) QF NoE := by
  refine for_of (fun i ρ S' => ∃ x8, ρ = [some (.tup (rs.map stepD)), some (.tup (ts.map stepD)), c, x3, x4, x5, x6, x7, x8] ∧ S' = S) ?_ (fun _ _ _ _ => rfl) ?_ ?_
  · exact ⟨_, rfl, rfl⟩
  · rintro i d ρ S' hd ⟨x8, rfl, rfl⟩
    have hi : i < n := by
      rcases Nat.lt_or_ge i n with h | h
      · exact h
      · rw [List.getElem?_eq_none (by rw [ranged_len]; exact h)] at hd; cases hd
    rw [ranged_get _ _ _ hi] at hd
    cases hd
    repeat' trivial
    refine r_eq (net_of_eq h (by omega)) ?_
    repeat' trivial
    refine r_eq (net_of_eq g (by omega)) ?_
    repeat' trivial
    exact h2 _
  · rintro ρ S' ⟨x8, rfl, rfl⟩
    exact h1 _
theorem parts_ok {rs ts : List St} (h : Rule rs) (g : Rule ts) {S : Store} : Pst (F_parts_at [ruleD rs, ruleD ts] S) (fun d S' => S' = S ∧ d.pure = true) NoE := by
  have l6 := h.l6
  have m6 := g.l6
  unfold ruleD
  unfold F_parts_at b_parts_at
  refine call_go rfl ?_
  dsimp only [startE, List.map, List.replicate, List.length, List.cons_append, List.nil_append, Nat.reduceAdd, Nat.reduceSub]
  repeat' trivial
  refine r_ssi ?_
  refine r_comp ?_
  repeat' trivial
  rw [← List.map_append]
  refine ⟨by simp only [List.length_map]; show _ ≤ 1000000; omega, _, rfl, ?_⟩
  have hok : ∀ s ∈ rs ++ ts, okS s := fun s hs => (List.mem_append.mp hs).elim (h.ok s) (g.ok s)
  refine comp_inv (so := .items ((rs ++ ts).map stepD)) (ds := (rs ++ ts).map stepD) (fun i acc S' => S' = S ∧ ∃ ns : List Int, acc = ns.map D.int ∧ ns.length = i ∧ ∀ x ∈ ns, 0 ≤ x ∧ x ≤ 1000000) (by rfl) ?_ (by rfl) ?_ ?_ ?_ ?_
  · rintro i acc S3 ⟨rfl, _⟩
    exact ⟨rfl, rfl⟩
  · rw [List.length_map, List.length_append]; show _ ≤ 1000000; omega
  · exact ⟨rfl, [], rfl, rfl, fun x hx => by cases hx⟩
  · rintro i d acc S3 hd ⟨rfl, ns, rfl, hl, hb⟩
    obtain ⟨s, hs, rfl⟩ := List.mem_map.mp (List.mem_of_getElem? hd)
    have hsb := hok s hs
    dsimp only [wipeE, List.set]
    rw [show stepD s = .tup [.int s.1, .int s.2.1, .int s.2.2] from rfl]
    repeat' trivial
    refine ⟨fun _ => ?_, fun hb => by cases hb⟩
    repeat' trivial
    refine ⟨ns ++ [s.1], by simp, by simp [hl], fun x hx => ?_⟩
    rcases List.mem_append.mp hx with hx | hx
    · exact hb x hx
    · rw [List.mem_singleton] at hx; rw [hx]; exact hsb.1
  rintro acc S3 ⟨rfl, ns, rfl, hl, hb⟩
  rw [List.length_map, List.length_append] at hl
  refine ⟨ns, rfl, by omega, ?_⟩
  have hU : (uniqI (sortI ns)).length ≤ 12 := by
    have := uniqI_len (sortI ns)
    rw [sortI_len] at this
    omega
  have hUb : ∀ x ∈ uniqI (sortI ns), 0 ≤ x ∧ x ≤ 1000000 := fun x hx => hb x ((sortI_mem ns x).mp (mem_uniqI.mp hx))
  generalize uniqI (sortI ns) = U at *
  repeat' trivial
  refine for_of (fun i ρ S' => ∃ x3 x4 x5 x6 x7 x8, ρ = [some (.tup (rs.map stepD)), some (.tup (ts.map stepD)), some (.lst (U.map D.int)), x3, x4, x5, x6, x7, x8] ∧ S' = S3) ?_ (fun _ _ _ _ => rfl) ?_ ?_
  · exact ⟨_, _, _, _, _, _, rfl, rfl⟩
  · rintro i d ρ S4 hd ⟨x3, x4, x5, x6, x7, x8, rfl, rfl⟩
    rw [numb_get, List.getElem?_map, Option.map_map] at hd
    obtain ⟨b, hb2, rfl⟩ := Option.map_eq_some_iff.mp hd
    have hbb := hUb b (List.mem_of_getElem? hb2)
    have hiU : i < U.length := (List.getElem?_eq_some_iff.mp hb2).1
    dsimp only [Function.comp]
    repeat' trivial
    refine r_eq (step_at_eq h hbb.1) ?_
    rw [show stepD (lastS rs b) = .tup [.int (lastS rs b).1, .int (lastS rs b).2.1, .int (lastS rs b).2.2] from rfl]
    repeat' trivial
    refine r_eq (step_at_eq g hbb.1) ?_
    rw [show stepD (lastS ts b) = .tup [.int (lastS ts b).1, .int (lastS ts b).2.1, .int (lastS ts b).2.2] from rfl]
    repeat' trivial
    · refine inner_ok h g hbb.1 (fun x8 => ?_) (fun k => ?_)
      · exact ⟨_, _, _, _, _, _, rfl, rfl⟩
      · repeat' trivial
    · rename_i hne
      have hi2 : i + 1 < U.length := by
        simp only [List.length_map] at hne
        omega
      refine o1_ix ⟨_, .int U[i + 1], rfl, by rw [atI_nat _ (by omega), show (((0 + i : Nat) : Int) + 1).toNat = i + 1 by omega, List.getElem?_map, List.getElem?_eq_getElem hi2]; rfl, ?_⟩
      have hb3 := hUb _ (List.getElem_mem hi2)
      generalize U[i + 1] = b3 at *
      repeat' trivial
      refine inner_ok h g hbb.1 (fun x8 => ?_) (fun k => ?_)
      · exact ⟨_, _, _, _, _, _, rfl, rfl⟩
      · repeat' trivial
    · refine inner_ok h g hbb.1 (fun x8 => ?_) (fun k => ?_)
      · exact ⟨_, _, _, _, _, _, rfl, rfl⟩
      · repeat' trivial
    · rename_i hne
      have hi2 : i + 1 < U.length := by
        simp only [List.length_map] at hne
        omega
      refine o1_ix ⟨_, .int U[i + 1], rfl, by rw [atI_nat _ (by omega), show (((0 + i : Nat) : Int) + 1).toNat = i + 1 by omega, List.getElem?_map, List.getElem?_eq_getElem hi2]; rfl, ?_⟩
      have hb3 := hUb _ (List.getElem_mem hi2)
      generalize U[i + 1] = b3 at *
      repeat' trivial
      refine inner_ok h g hbb.1 (fun x8 => ?_) (fun k => ?_)
      · exact ⟨_, _, _, _, _, _, rfl, rfl⟩
      · repeat' trivial
  · rintro ρ S4 ⟨x3, x4, x5, x6, x7, x8, rfl, rfl⟩
    repeat' trivial
theorem least_ok {rs : List St} (h : Rule rs) {f : Int} (hf : 1 ≤ f ∧ f ≤ 1000000) {S : Store} : Pst (F_least_with_net [ruleD rs, .int f] S) (fun d S' => S' = S ∧ d.pure = true) NoE := by
  have l6 := h.l6
  obtain ⟨z, hz, hzm⟩ := last_of h.l1
  obtain ⟨⟨z1, z2⟩, ⟨z3, z4⟩, z5, z6⟩ := h.ok z hzm
  unfold ruleD
  unfold F_least_with_net b_least_with_net
  refine call_go rfl ?_
  dsimp only [startE, List.map, List.replicate, List.length, List.cons_append, List.nil_append, Nat.reduceAdd, Nat.reduceSub]
  repeat' trivial
  refine o1_ix ⟨_, _, rfl, (by rw [atI_end, List.getLast?_map, hz]; rfl), ?_⟩
  rw [show stepD z = .tup [.int z.1, .int z.2.1, .int z.2.2] from rfl]
  repeat' trivial
  refine r_eq (net_of_eq h (by omega)) ?_
  repeat' trivial
  generalize hT : z.1 + 1000 * (f + z.2.1 + 2) = T at *
  have hT0 : 0 ≤ T ∧ T < 4000000000 := by omega
  refine while_inv (fun k ρ S' => ∃ lo hi x7, ρ = [some (.tup (rs.map stepD)), some (.int f), some (.int z.1), some (.int z.2.1), some (.int z.2.2), some (.int lo), some (.int hi), x7] ∧ S' = S ∧ 0 ≤ lo ∧ lo ≤ hi ∧ hi ≤ T ∧ hi - lo < 2 ^ k ∧ k ≤ 40) ?_ _ 40 _ _ (by decide) ?_
  · rintro k ρ S' ⟨lo, hi, x7, rfl, rfl, b1, b2, b3, b4, b5⟩
    repeat' trivial
    refine ⟨fun hlt => ?_, fun hge => ?_⟩
    · have hlt := of_decide_eq_true hlt
      obtain ⟨k', rfl⟩ : ∃ k', k = k' + 1 := by
        cases k with
        | zero => simp at b4; omega
        | succ k' => exact ⟨k', rfl⟩
      have hp : (2 : Int) ^ (k' + 1) = 2 * 2 ^ k' := by rw [Int.pow_succ]; omega
      rw [hp] at b4
      generalize (2 : Int) ^ k' = w at *
      refine ⟨k', rfl, ?_⟩
      repeat' trivial
      refine r_eq (net_of_eq h (by omega)) ?_
      repeat' trivial
      · exact ⟨_, _, _, rfl, rfl, by omega, by omega, by omega, by omega, by omega⟩
      · exact ⟨_, _, _, rfl, rfl, by omega, by omega, by omega, by omega, by omega⟩
    · repeat' trivial
  · refine ⟨0, T, _, rfl, rfl, Int.le_refl _, hT0.1, Int.le_refl _, ?_, Nat.le_refl _⟩
    have : (2 : Int) ^ 40 = 1099511627776 := by decide
    omega
theorem parting_ends {a b : D} (ha : D.pl a = true) (hb : D.pl b = true) {S : Store} : Ends (F_parting_total [a, b] S) S (ref2 a b) := by
  refine ends_of ?_
  by_cases h : isRuleD a = true
  · by_cases h2 : isRuleD b = true
    · obtain ⟨rs, rfl, hr⟩ := rule_form h
      obtain ⟨ts, rfl, ht⟩ := rule_form h2
      rw [ref2, if_pos h, if_pos h2]
      unfold F_parting_total b_parting_total
      refine call_go rfl ?_
      dsimp only [startE, List.map, List.replicate, List.length, List.cons_append, List.nil_append, Nat.reduceAdd, Nat.reduceSub]
      repeat' trivial
      refine r_eq (check_rule_eq _ ha h) ?_
      repeat' trivial
      refine r_eq (check_rule_eq _ hb h2) ?_
      repeat' trivial
      refine Pst.imp (parts_ok hr ht) ?_
      rintro d _ ⟨rfl, hp⟩
      rw [exit_pure hp]
      exact ⟨rfl, take_same⟩
    · rw [ref2, if_pos h, if_neg h2]
      rw [Bool.not_eq_true] at h2
      unfold F_parting_total b_parting_total
      refine call_go rfl ?_
      dsimp only [startE, List.map, List.replicate, List.length, List.cons_append, List.nil_append, Nat.reduceAdd, Nat.reduceSub]
      repeat' trivial
      refine r_eq (check_rule_eq _ ha h) ?_
      repeat' trivial
      refine r_err (check_rule_bad hb h2) ?_
      repeat' trivial
      exact exc1 (pl_pure hb) ⟨rfl, rfl⟩
  · rw [ref2, if_neg h]
    rw [Bool.not_eq_true] at h
    unfold F_parting_total b_parting_total
    refine call_go rfl ?_
    dsimp only [startE, List.map, List.replicate, List.length, List.cons_append, List.nil_append, Nat.reduceAdd, Nat.reduceSub]
    repeat' trivial
    refine r_err (check_rule_bad ha h) ?_
    repeat' trivial
    exact exc1 (pl_pure ha) ⟨rfl, rfl⟩
theorem ref2_pure {a b : D} (ha : D.pl a = true) (hb : D.pl b = true) {x : XV} (h : ref2 a b = some x) : D.pures (x.fields.map (·.2)) = true := by
  unfold ref2 at h
  split at h
  · split at h
    · cases h
    · cases h; simp only [xR, List.map, D.pures, pl_pure hb, Bool.and_self]
  · cases h; simp only [xR, List.map, D.pures, pl_pure ha, Bool.and_self]
theorem alike_ends {a b : D} (ha : D.pl a = true) (hb : D.pl b = true) {S : Store} : Ends (F_net_alike [a, b] S) S (ref2 a b) := by
  refine ends_of ?_
  unfold F_net_alike b_net_alike
  refine call_go rfl ?_
  dsimp only [startE, List.map, List.replicate, List.length, List.cons_append, List.nil_append, Nat.reduceAdd, Nat.reduceSub]
  repeat' trivial
  refine ends_pst (parting_ends ha hb) (fun h d => ?_) (fun x hx => ?_)
  · repeat' trivial
  · repeat' trivial
    refine x_exc ⟨ref2_pure ha hb hx, hx, take_same⟩
open Classical in
noncomputable def refL (a f : D) : Option XV := if isRuleD a = true ∧ (∀ rs, a = ruleD rs → levelB rs = true) then (if numD 1 1000000 f = true then none else some (xN f)) else some (xR a)
theorem least_ends {a f : D} (ha : D.pl a = true) (hf : f.pure = true) {S : Store} : Ends (F_least_total [a, f] S) S (refL a f) := by
  obtain ⟨b, e, hb⟩ := is_level_rule_eq a ha (S := S)
  refine ends_of ?_
  cases b with
  | true =>
    obtain ⟨rs, rfl, hr, hl⟩ := hb.mp rfl
    have hc : isRuleD (ruleD rs) = true ∧ (∀ ts, ruleD rs = ruleD ts → levelB ts = true) := ⟨rule_is hr, fun ts e => by rw [← steps_inj (D.tup.inj (show D.tup (rs.map stepD) = D.tup (ts.map stepD) from e))]; exact hl⟩
    rw [refL, if_pos hc]
    by_cases h2 : numD 1 1000000 f = true
    · obtain ⟨i, rfl, hi⟩ := num_form h2
      rw [if_pos h2]
      unfold F_least_total b_least_total
      refine call_go rfl ?_
      dsimp only [startE, List.map, List.replicate, List.length, List.cons_append, List.nil_append, Nat.reduceAdd, Nat.reduceSub]
      repeat' trivial
      refine r_eq e ?_
      repeat' trivial
      refine r_eq (check_num_eq hi) ?_
      repeat' trivial
      refine Pst.imp (least_ok hr hi) ?_
      rintro d _ ⟨rfl, hp⟩
      rw [exit_pure hp]
      exact ⟨rfl, take_same⟩
    · rw [if_neg h2]
      rw [Bool.not_eq_true] at h2
      unfold F_least_total b_least_total
      refine call_go rfl ?_
      dsimp only [startE, List.map, List.replicate, List.length, List.cons_append, List.nil_append, Nat.reduceAdd, Nat.reduceSub]
      repeat' trivial
      refine r_eq e ?_
      repeat' trivial
      refine r_err (check_number_bad hf h2) ?_
      repeat' trivial
      exact exc1 hf ⟨rfl, rfl⟩
  | false =>
    have hc : ¬ (isRuleD a = true ∧ (∀ ts, a = ruleD ts → levelB ts = true)) := by
      rintro ⟨h1, h2⟩
      obtain ⟨rs, rfl, hr⟩ := rule_form h1
      have := hb.mpr ⟨rs, rfl, hr, h2 rs rfl⟩
      cases this
    rw [refL, if_neg hc]
    unfold F_least_total b_least_total
    refine call_go rfl ?_
    dsimp only [startE, List.map, List.replicate, List.length, List.cons_append, List.nil_append, Nat.reduceAdd, Nat.reduceSub]
    repeat' trivial
    refine r_eq e ?_
    repeat' trivial
    refine s_raise ?_
    repeat' trivial
    exact ⟨pl_pure ha, exc1 (pl_pure ha) ⟨rfl, rfl⟩⟩
def due : Option XV → D
  | none => .lst [.str "told"]
  | some x => .lst [.str (if x.cls = ("InvalidRule" : Str) then "rule" else "number"), (x.fields.map (·.2)).headD .non]
theorem due_R (d : D) : due (some (xR d)) = .lst [.str "rule", d] := by
  simp [due, xR]
theorem due_N (d : D) : due (some (xN d)) = .lst [.str "number", d] := by
  have h : ¬ (("InvalidNumber" : Str) = ("InvalidRule" : Str)) := by decide
  simp [due, xN, h]
inductive Gd : Option XV → Prop
  | no : Gd none
  | R {d : D} (h : RQ 4 8000 d) : Gd (some (xR d))
  | N {d : D} (h : RQ 4 8000 d) : Gd (some (xN d))
theorem rq_w {w : Str} (h : w = "told" ∨ w = "rule" ∨ w = "number") : RQ 4 8000 (.str w) := by
  rcases h with rfl | rfl | rfl <;> exact ⟨rfl, by decide +kernel, by decide +kernel, by decide +kernel, by decide +kernel⟩
theorem gd_rq {y : Option XV} (g : Gd y) : RQ 5 16002 (due y) := by
  cases g with
  | no => exact (rq_lst (k := 4) (m := 8000) (rqs_cons (rq_w (.inl rfl)) rqs_nil)).mono (Nat.le_refl _) (Nat.le_of_ble_eq_true rfl)
  | R h => rw [due_R]; exact (rq_lst (k := 4) (m := 8000) (rqs_cons (rq_w (.inr (.inl rfl))) (rqs_cons h rqs_nil))).mono (Nat.le_refl _) (Nat.le_of_ble_eq_true rfl)
  | N h => rw [due_N]; exact (rq_lst (k := 4) (m := 8000) (rqs_cons (rq_w (.inr (.inr rfl))) (rqs_cons h rqs_nil))).mono (Nat.le_refl _) (Nat.le_of_ble_eq_true rfl)
theorem sut_R (d : D) {S : Store} : sutL [("InvalidRule", ["rule"], "given"), ("InvalidNumber", ["number"], "given")] (xR d) S = some (.ok (.lst [.str "rule", d]), S) := by
  simp [sutL, xR]
theorem sut_N (d : D) {S : Store} : sutL [("InvalidRule", ["rule"], "given"), ("InvalidNumber", ["number"], "given")] (xN d) S = some (.ok (.lst [.str "number", d]), S) := by
  have h : ¬ (("InvalidNumber" : Str) = ("InvalidRule" : Str)) := by decide
  simp [sutL, xN, h]
section
variable {S : Store} {ρ : PF.Env} {Q : D → Store → Prop} {QF : Fl → Store → Prop} {E : XV → Store → Prop} {y : Option XV}
theorem try_due {c : EX} (e : Ends (c ρ S) S y) (g : Gd y) (h : Q (due y) S) : Pst (cTryAct c (sutL [("InvalidRule", ["rule"], "given"), ("InvalidNumber", ["number"], "given")]) (fun S => some (.ok (.lst [.str "told"]), S)) ρ S) Q E := by
  refine r_tryact ?_
  refine ends_pst e (fun hy d => ?_) (fun x hx => ?_)
  · subst hy; exact h
  · subst hx
    cases g with
    | R hd => rw [due_R] at h; exact r_eq (sut_R _) h
    | N hd => rw [due_N] at h; exact r_eq (sut_N _) h
theorem ends_c1 {i : Nat} {o : OpB} {a : D} (h1 : ρ[i]? = some (some a)) (e : Ends (o [a] S) S y) : Ends (cCall 1 o (aCons (cVar i) aNil) ρ S) S y := by
  have h : cCall 1 o (aCons (cVar i) aNil) ρ S = o [a] S := by simp only [cCall, aCons, aNil, cVar, h1, bindO_ok, List.length_cons, List.length_nil, if_true]
  rw [h]; exact e
theorem ends_c2 {i j : Nat} {o : OpB} {a b : D} (h1 : ρ[i]? = some (some a)) (h2 : ρ[j]? = some (some b)) (e : Ends (o [a, b] S) S y) : Ends (cCall 2 o (aCons (cVar i) (aCons (cVar j) aNil)) ρ S) S y := by
  have h : cCall 2 o (aCons (cVar i) (aCons (cVar j) aNil)) ρ S = o [a, b] S := by simp only [cCall, aCons, aNil, cVar, h1, h2, bindO_ok, List.length_cons, List.length_nil, if_true]
  rw [h]; exact e
theorem ends_k1 {i : Nat} {g : List D → List D → List D} {o : OpB} {a : D} (h1 : ρ[i]? = some (some a)) (e : Ends (o (g [] [a]) S) S y) : Ends (cCallK 0 1 g o aNil (aCons (cVar i) aNil) ρ S) S y := by
  have h : cCallK 0 1 g o aNil (aCons (cVar i) aNil) ρ S = o (g [] [a]) S := by simp only [cCallK, aCons, aNil, cVar, h1, bindO_ok, List.length_cons, List.length_nil, and_self, if_true]
  rw [h]; exact e
theorem ends_k2 {i j : Nat} {g : List D → List D → List D} {o : OpB} {a b : D} (h1 : ρ[i]? = some (some a)) (h2 : ρ[j]? = some (some b)) (e : Ends (o (g [] [a, b]) S) S y) : Ends (cCallK 0 2 g o aNil (aCons (cVar i) (aCons (cVar j) aNil)) ρ S) S y := by
  have h : cCallK 0 2 g o aNil (aCons (cVar i) (aCons (cVar j) aNil)) ρ S = o (g [] [a, b]) S := by simp only [cCallK, aCons, aNil, cVar, h1, h2, bindO_ok, List.length_cons, List.length_nil, and_self, if_true]
  rw [h]; exact e
/-- told = [g(..)] -/
theorem tolA {c : EX} (e : Ends (c ρ S) S y) (g : Gd y) (h : ∀ m S', m = S.length → S' = S ++ [List.replicate 1 (due y)] → S'[m]? = some (List.replicate 1 (due y)) → QF (.nx (ρ.set 10 (some (.loc m)))) S') :
    Pst (sSet 10 (cAlloc (cLst (aCons (cTryAct c (sutL [("InvalidRule", ["rule"], "given"), ("InvalidNumber", ["number"], "given")]) (fun S => some (.ok (.lst [.str "told"]), S))) aNil))) ρ S) QF E := by
  refine s_set ?_
  refine r_alloc ?_
  refine r_lst ?_
  refine r_cons ?_
  refine try_due e g ?_
  refine r_nil ?_
  refine ⟨Nat.le_of_ble_eq_true rfl, [due y], rfl, by simp only [D.pures, (gd_rq g).pure, Bool.and_self], fun m S' e1 e2 e3 => h m S' e1 e2 e3⟩
/-- told.append(g(..)) -/
theorem tolB {c : EX} {m k : Nat} (hm : ρ[10]? = some (some (.loc m))) (hS : S[m]? = some (List.replicate k (due y))) (hk : k < 100) (e : Ends (c ρ S) S y) (g : Gd y)
    (h : (S.set m (List.replicate (k + 1) (due y)))[m]? = some (List.replicate (k + 1) (due y)) → QF (.nx ρ) (S.set m (List.replicate (k + 1) (due y)))) :
    Pst (sExpr (cMt mAppend (cVar 10) (aCons (cTryAct c (sutL [("InvalidRule", ["rule"], "given"), ("InvalidNumber", ["number"], "given")]) (fun S => some (.ok (.lst [.str "told"]), S))) aNil)) ρ S) QF E := by
  refine s_expr ?_
  refine r_mt ?_
  refine r_eq (show cVar 10 ρ S = some (.ok (.loc m), S) by simp only [cVar, hm]) ?_
  refine ⟨_, rfl, ?_⟩
  refine r_cons ?_
  refine try_due e g ?_
  refine r_nil ?_
  refine m1_append ⟨_, hS, ⟨(gd_rq g).pure, by rw [List.length_replicate]; show _ < 1000000; omega⟩, ?_⟩
  rw [← List.replicate_succ']
  exact h
theorem o_rep1 {d : D} {n : Nat} {S : Store} (h : n ≤ 1000) : oRepL (.lst [d]) (.int n) S = some (.ok (.lst (List.replicate n d)), S) := by
  have e : oRepL (.lst [d]) (.int n) S = if (n : Int) ≤ 10000 ∧ -10000 ≤ (n : Int) ∧ [d].length * (n : Int).toNat ≤ lim then some (.ok (.lst (List.replicate (n : Int).toNat [d]).flatten), S) else none := rfl
  have f : ∀ n : Nat, (List.replicate n [d]).flatten = List.replicate n d := fun n => by
    induction n with
    | zero => rfl
    | succ n ih => rw [List.replicate_succ, List.flatten_cons, ih, List.replicate_succ]; rfl
  rw [e, if_pos ⟨by omega, by omega, by show 1 * _ ≤ 1000000; omega⟩, Int.toNat_natCast, f]
theorem law_is_loc {m : Nat} {L : List D} (hm : S[m]? = some L) (h : reprOk (.lst L) = true) : F__law_is [.loc m, .lst L] S = some (.ok (.bl true), S) := by
  have e1 : bRepr [.lst L] S = some (.ok (.str (D.lst L).py.shown), S) := repr_eq h
  have e2 : bRepr [.loc m] S = some (.ok (.str (D.lst L).py.shown), S) := by
    have t : told S (.loc m) = .lst L := by simp only [told, hm]
    show (if reprOk (told S (.loc m)) = true then (some (.ok (.str (told S (.loc m)).py.shown), S) : Out D) else none) = _
    rw [t, if_pos h]
  unfold F__law_is b__law_is
  refine call_eq rfl ?_
  dsimp only [startE, List.map, List.replicate, List.length, List.cons_append, List.nil_append, Nat.reduceAdd, Nat.reduceSub]
  repeat' trivial
  refine r_eq e2 ?_
  repeat' trivial
  refine r_eq e1 ?_
  repeat' trivial
  rw [beq_self_eq_true]
  repeat' trivial
/-- if not _law_is(told, [due] * k) -/
theorem tolC {m k : Nat} (h9 : ρ[9]? = some (some (due y))) (hm : ρ[10]? = some (some (.loc m))) (hS : S[m]? = some (List.replicate k (due y))) (hk : k ≤ 10) (g : Gd y) (h : QF (.nx ρ) S) :
    Pst (sIf (bNot (cTest (cCall 2 F__law_is (aCons (cVar 10) (aCons (cBin oRepL (cLst (aCons (cVar 9) aNil)) (cK (.int k))) aNil))))) (sRet (cK (.bl false))) sNil ρ S) QF E := by
  have hr : reprOk (.lst (List.replicate k (due y))) = true := by
    refine rq_ok (rq_lst (k := 5) (m := 16002) fun d hd => ?_) (by decide) (by rw [List.length_replicate]; omega)
    rw [List.eq_of_mem_replicate hd]
    exact gd_rq g
  refine s_if ?_
  refine bool_not ?_
  refine bool_t ?_
  refine r_call ?_
  refine r_cons ?_
  refine r_eq (show cVar 10 ρ S = some (.ok (.loc m), S) by simp only [cVar, hm]) ?_
  refine r_cons ?_
  refine r_bin ?_
  refine r_lst ?_
  refine r_cons ?_
  refine r_eq (show cVar 9 ρ S = some (.ok (due y), S) by simp only [cVar, h9]) ?_
  refine r_nil ?_
  refine ⟨Nat.le_of_ble_eq_true rfl, ?_⟩
  refine r_k ?_
  refine r_eq (o_rep1 (by omega)) ?_
  refine r_nil ?_
  refine ⟨rfl, ?_⟩
  refine r_eq (law_is_loc hS hr) ?_
  repeat' trivial
end
noncomputable def w1 : SX := (sSet 2 (cCall 1 F__law_rule (aCons (cVar 0) aNil)))
noncomputable def w2 : SX := (sAsg (tTup 2 (tsCons (tName 3) (tsCons (tName 4) tsNil))) (cCall 2 F__law_of (aCons (cVar 0) (aCons (cTup (aCons (cTup (aCons (cVar 2) (aCons (cK (.bl true)) aNil))) (aCons (cTup (aCons (cVar 2) (aCons (cK (.bl true)) aNil))) (aCons (cTup (aCons (cCall 2 F__law_none (aCons (cVar 0) (aCons (cVar 2) aNil))) (aCons (cK (.bl false)) aNil))) aNil)))) aNil))))
noncomputable def w3 : SX := (sAsg (tTup 2 (tsCons (tName 5) (tsCons (tName 6) tsNil))) (cCall 2 F__law_of (aCons (cVar 0) (aCons (cTup (aCons (cTup (aCons (cVar 2) (aCons (cK (.bl true)) aNil))) (aCons (cTup (aCons (cCall 2 F__law_none (aCons (cVar 0) (aCons (cVar 2) aNil))) (aCons (cK (.bl false)) aNil))) aNil))) aNil))))
noncomputable def w4 : SX := (sAsg (tTup 2 (tsCons (tName 7) (tsCons (tName 8) tsNil))) (cCall 2 F__law_of (aCons (cVar 0) (aCons (cTup (aCons (cTup (aCons (cK (.int 0)) (aCons (cK (.bl true)) aNil))) (aCons (cTup (aCons (cBin oPow (cK (.int 10)) (cK (.int 9))) (aCons (cK (.bl true)) aNil))) (aCons (cTup (aCons (cUn oNeg (cK (.int 1))) (aCons (cK (.bl false)) aNil))) (aCons (cTup (aCons (cBin oAddA (cBin oPow (cK (.int 10)) (cK (.int 9))) (cK (.int 1))) (aCons (cK (.bl false)) aNil))) (aCons (cTup (aCons (cK (.bl true)) (aCons (cK (.bl false)) aNil))) (aCons (cTup (aCons (cK .non) (aCons (cK (.bl false)) aNil))) (aCons (cTup (aCons (cK (.str "1")) (aCons (cK (.bl false)) aNil))) (aCons (cTup (aCons (cBin oPow (cK (.int 10)) (cK (.int 30))) (aCons (cK (.bl false)) aNil))) aNil))))))))) aNil))))
noncomputable def du5 : EX := (cIfE (cTest (cVar 4)) (cIfE (cTest (cVar 8)) (cLst (aCons (cK (.str "told")) aNil)) (cLst (aCons (cK (.str "number")) (aCons (cVar 7) aNil)))) (cLst (aCons (cK (.str "rule")) (aCons (cVar 3) aNil))))
noncomputable def w5 : SX := (sSet 9 du5)
noncomputable def w6 : SX := (sSet 10 (cAlloc (cLst (aCons (cTryAct (cCall 2 F_fee (aCons (cVar 3) (aCons (cVar 7) aNil))) (sutL [("InvalidRule", ["rule"], "given"), ("InvalidNumber", ["number"], "given")]) (fun S => some (.ok (.lst [.str "told"]) , S))) aNil))))
noncomputable def w7 : SX := (sExpr (cMt mAppend (cVar 10) (aCons (cTryAct (cCall 2 F_net (aCons (cVar 3) (aCons (cVar 7) aNil))) (sutL [("InvalidRule", ["rule"], "given"), ("InvalidNumber", ["number"], "given")]) (fun S => some (.ok (.lst [.str "told"]) , S))) aNil)))
noncomputable def w8 : SX := (sExpr (cMt mAppend (cVar 10) (aCons (cTryAct (cCallK 0 2 kn0_g F_fee aNil (aCons (cVar 7) (aCons (cVar 3) aNil))) (sutL [("InvalidRule", ["rule"], "given"), ("InvalidNumber", ["number"], "given")]) (fun S => some (.ok (.lst [.str "told"]) , S))) aNil)))
noncomputable def w9 : SX := (sExpr (cMt mAppend (cVar 10) (aCons (cTryAct (cCallK 0 2 kn1_g F_net aNil (aCons (cVar 7) (aCons (cVar 3) aNil))) (sutL [("InvalidRule", ["rule"], "given"), ("InvalidNumber", ["number"], "given")]) (fun S => some (.ok (.lst [.str "told"]) , S))) aNil)))
noncomputable def w10 : SX := (sIf (bNot (cTest (cCall 2 F__law_is (aCons (cVar 10) (aCons (cBin oRepL (cLst (aCons (cVar 9) aNil)) (cK (.int 4))) aNil))))) (sRet (cK (.bl false))) sNil)
noncomputable def du11 : EX := (cIfE (cTest (cVar 4)) (cLst (aCons (cK (.str "told")) aNil)) (cLst (aCons (cK (.str "rule")) (aCons (cVar 3) aNil))))
noncomputable def w11 : SX := (sSet 9 du11)
noncomputable def w12 : SX := (sSet 10 (cAlloc (cLst (aCons (cTryAct (cCall 1 F_is_level (aCons (cVar 3) aNil)) (sutL [("InvalidRule", ["rule"], "given"), ("InvalidNumber", ["number"], "given")]) (fun S => some (.ok (.lst [.str "told"]) , S))) aNil))))
noncomputable def w13 : SX := (sExpr (cMt mAppend (cVar 10) (aCons (cTryAct (cCallK 0 1 kn2_g F_falling_total aNil (aCons (cVar 3) aNil)) (sutL [("InvalidRule", ["rule"], "given"), ("InvalidNumber", ["number"], "given")]) (fun S => some (.ok (.lst [.str "told"]) , S))) aNil)))
noncomputable def w14 : SX := (sIf (bNot (cTest (cCall 2 F__law_is (aCons (cVar 10) (aCons (cBin oRepL (cLst (aCons (cVar 9) aNil)) (cK (.int 2))) aNil))))) (sRet (cK (.bl false))) sNil)
noncomputable def du15 : EX := (cIfE (bAnd (cTest (cVar 4)) (bNot (cTest (cVar 6)))) (cLst (aCons (cK (.str "rule")) (aCons (cVar 5) aNil))) (cVar 9))
noncomputable def w15 : SX := (sSet 9 du15)
noncomputable def w16 : SX := (sSet 10 (cAlloc (cLst (aCons (cTryAct (cCall 2 F_net_alike (aCons (cVar 3) (aCons (cVar 5) aNil))) (sutL [("InvalidRule", ["rule"], "given"), ("InvalidNumber", ["number"], "given")]) (fun S => some (.ok (.lst [.str "told"]) , S))) aNil))))
noncomputable def w17 : SX := (sExpr (cMt mAppend (cVar 10) (aCons (cTryAct (cCallK 0 2 kn3_g F_parting_total aNil (aCons (cVar 5) (aCons (cVar 3) aNil))) (sutL [("InvalidRule", ["rule"], "given"), ("InvalidNumber", ["number"], "given")]) (fun S => some (.ok (.lst [.str "told"]) , S))) aNil)))
noncomputable def w18 : SX := (sIf (bNot (cTest (cCall 2 F__law_is (aCons (cVar 10) (aCons (cBin oRepL (cLst (aCons (cVar 9) aNil)) (cK (.int 2))) aNil))))) (sRet (cK (.bl false))) sNil)
noncomputable def w19 : SX := (sAsg (tTup 2 (tsCons (tName 11) (tsCons (tName 12) tsNil))) (cCall 2 F__law_of (aCons (cVar 0) (aCons (cTup (aCons (cTup (aCons (cK (.int 1)) (aCons (cK (.bl true)) aNil))) (aCons (cTup (aCons (cBin oPow (cK (.int 10)) (cK (.int 6))) (aCons (cK (.bl true)) aNil))) (aCons (cTup (aCons (cK (.int 0)) (aCons (cK (.bl false)) aNil))) (aCons (cTup (aCons (cBin oAddA (cBin oPow (cK (.int 10)) (cK (.int 6))) (cK (.int 1))) (aCons (cK (.bl false)) aNil))) (aCons (cTup (aCons (cK .non) (aCons (cK (.bl false)) aNil))) aNil)))))) aNil))))
noncomputable def du20 : EX := (cIfE (cTest (cVar 12)) (cLst (aCons (cK (.str "told")) aNil)) (cLst (aCons (cK (.str "number")) (aCons (cVar 11) aNil))))
noncomputable def w20 : SX := (sSet 9 du20)
noncomputable def du21 : EX := (cIfE (bAnd (cTest (cVar 4)) (cTest (cCall 1 F__law_level (aCons (cVar 2) aNil)))) (cVar 9) (cLst (aCons (cK (.str "rule")) (aCons (cVar 3) aNil))))
noncomputable def w21 : SX := (sSet 9 du21)
noncomputable def w22 : SX := (sSet 10 (cAlloc (cLst (aCons (cTryAct (cCall 2 F_least_total (aCons (cVar 3) (aCons (cVar 11) aNil))) (sutL [("InvalidRule", ["rule"], "given"), ("InvalidNumber", ["number"], "given")]) (fun S => some (.ok (.lst [.str "told"]) , S))) aNil))))
noncomputable def w23 : SX := (sExpr (cMt mAppend (cVar 10) (aCons (cTryAct (cCallK 0 2 kn4_g F_least_total aNil (aCons (cVar 11) (aCons (cVar 3) aNil))) (sutL [("InvalidRule", ["rule"], "given"), ("InvalidNumber", ["number"], "given")]) (fun S => some (.ok (.lst [.str "told"]) , S))) aNil)))
noncomputable def w24 : SX := (sIf (bNot (cTest (cCall 2 F__law_is (aCons (cVar 10) (aCons (cBin oRepL (cLst (aCons (cVar 9) aNil)) (cK (.int 2))) aNil))))) (sRet (cK (.bl false))) sNil)
noncomputable def lapB : SX := (sSeq w1 (sSeq w2 (sSeq w3 (sSeq w4 (sSeq w5 (sSeq w6 (sSeq w7 (sSeq w8 (sSeq w9 (sSeq w10 (sSeq w11 (sSeq w12 (sSeq w13 (sSeq w14 (sSeq w15 (sSeq w16 (sSeq w17 (sSeq w18 (sSeq w19 (sSeq w20 (sSeq w21 (sSeq w22 (sSeq w23 w24)))))))))))))))))))))))
theorem right_body : b__law_right = (sSeq (sFor (cRange1 (aCons (cK (.int 8)) aNil)) (tName 1) lapB) (sRet (cK (.bl true)))) := rfl

theorem FrX.setHi {n m : Nat} {S S' : Store} {x : List D} (h : FrX n S S') (hm : S.length ≤ m) (hn : n < S.length) : FrX n S (S'.set m x) :=
  ⟨h.1.other (by omega) _, by rw [List.length_set]; exact h.2.1, fun k hk hne => by rw [List.getElem?_set_ne (by omega)]; exact h.2.2 k hk hne⟩
/-- what a value is, with what is said of it -/
structure Val (d : D) : Prop where
  pl : D.pl d = true
  rq : RQ 4 8000 d
theorem Val.gd1 {a : D} (h : Val a) : Gd (ref1 a) := by
  unfold ref1; split
  · exact .no
  · exact .R h.rq
theorem Val.gd2 {a b : D} (h : Val a) (h2 : Val b) : Gd (ref2 a b) := by
  unfold ref2; split
  · split
    · exact .no
    · exact .R h2.rq
  · exact .R h.rq
theorem Val.gdF {a t : D} (h : Val a) (h2 : Val t) : Gd (refFee a t) := by
  unfold refFee; split
  · split
    · exact .no
    · exact .N h2.rq
  · exact .R h.rq
theorem Val.gdL {a t : D} (h : Val a) (h2 : Val t) : Gd (refL a t) := by
  unfold refL; split
  · split
    · exact .no
    · exact .N h2.rq
  · exact .R h.rq
section
variable {S : Store} {QF : Fl → Store → Prop} {E : XV → Store → Prop} {n : Nat} {a0 a1 a2 a5 a6 a7 a8 a9 a10 a11 a12 : Option D} {one two total floor : D} {rest : SX}
theorem du5_ok {Q : D → Store → Prop} (h : Q (due (refFee one total)) S) :
    Pst (du5 [a0, a1, a2, some one, some (.bl (isRuleD one)), a5, a6, some total, some (.bl (numD 0 1000000000 total)), a9, a10, a11, a12] S) Q E := by
  unfold refFee at h
  unfold du5
  cases h1 : isRuleD one
  · rw [h1, if_neg (by decide), due_R] at h
    repeat' trivial
  · rw [h1, if_pos rfl] at h
    cases h2 : numD 0 1000000000 total
    · rw [h2, if_neg (by decide), due_N] at h
      repeat' trivial
    · rw [h2, if_pos rfl] at h
      repeat' trivial
theorem blockA (w : Well n S) (v1 : Val one) (v2 : Val total)
    (k : ∀ m S', FrX n S S' → Pst (rest [a0, a1, a2, some one, some (.bl (isRuleD one)), a5, a6, some total, some (.bl (numD 0 1000000000 total)), some (due (refFee one total)), some (.loc m), a11, a12] S') QF E) :
    Pst (sSeq w5 (sSeq w6 (sSeq w7 (sSeq w8 (sSeq w9 (sSeq w10 rest))))) [a0, a1, a2, some one, some (.bl (isRuleD one)), a5, a6, some total, some (.bl (numD 0 1000000000 total)), a9, a10, a11, a12] S) QF E := by
  have hn := len_of w
  have g := v1.gdF v2
  refine s_seq ?_
  unfold w5
  refine s_set ?_
  refine du5_ok ?_
  refine nx_nx ?_
  dsimp only [List.set]
  refine s_seq ?_
  unfold w6
  refine tolA (y := refFee one total) (ends_c2 rfl rfl (fee_ends v1.pl (pl_pure v2.pl))) g ?_
  intro m S1 em eS h1
  refine nx_nx ?_
  dsimp only [List.set]
  have f1 : FrX n S S1 := by rw [eS]; exact FrX.lay w _
  have hm : S.length ≤ m := by omega
  clear eS em
  refine s_seq ?_
  unfold w7
  refine tolB (y := refFee one total) rfl h1 (by decide) (ends_c2 rfl rfl (net_ends v1.pl (pl_pure v2.pl))) g ?_
  have f2 := f1.setHi (x := List.replicate 2 (due (refFee one total))) hm hn
  generalize S1.set m (List.replicate (1 + 1) (due (refFee one total))) = S2 at *
  intro h2
  refine nx_nx ?_
  refine s_seq ?_
  unfold w8
  refine tolB (y := refFee one total) rfl h2 (by decide) (ends_k2 rfl rfl (fee_ends v1.pl (pl_pure v2.pl))) g ?_
  have f3 := f2.setHi (x := List.replicate 3 (due (refFee one total))) hm hn
  generalize S2.set m (List.replicate (1 + 1 + 1) (due (refFee one total))) = S3 at *
  intro h3
  refine nx_nx ?_
  refine s_seq ?_
  unfold w9
  refine tolB (y := refFee one total) rfl h3 (by decide) (ends_k2 rfl rfl (net_ends v1.pl (pl_pure v2.pl))) g ?_
  have f4 := f3.setHi (x := List.replicate 4 (due (refFee one total))) hm hn
  generalize S3.set m (List.replicate (1 + 1 + 1 + 1) (due (refFee one total))) = S4 at *
  intro h4
  refine nx_nx ?_
  refine s_seq ?_
  unfold w10
  refine tolC (y := refFee one total) (k := 4) rfl rfl h4 (by decide) g ?_
  refine nx_nx ?_
  exact k m S4 f4
theorem du11_ok {Q : D → Store → Prop} (h : Q (due (ref1 one)) S) :
    Pst (du11 [a0, a1, a2, some one, some (.bl (isRuleD one)), a5, a6, a7, a8, a9, a10, a11, a12] S) Q E := by
  unfold ref1 at h
  unfold du11
  cases h1 : isRuleD one
  · rw [h1, if_neg (by decide), due_R] at h
    repeat' trivial
  · rw [h1, if_pos rfl] at h
    repeat' trivial
theorem blockB (w : Well n S) (v1 : Val one)
    (k : ∀ m S', FrX n S S' → Pst (rest [a0, a1, a2, some one, some (.bl (isRuleD one)), a5, a6, a7, a8, some (due (ref1 one)), some (.loc m), a11, a12] S') QF E) :
    Pst (sSeq w11 (sSeq w12 (sSeq w13 (sSeq w14 rest))) [a0, a1, a2, some one, some (.bl (isRuleD one)), a5, a6, a7, a8, a9, a10, a11, a12] S) QF E := by
  have hn := len_of w
  have g := v1.gd1
  refine s_seq ?_
  unfold w11
  refine s_set ?_
  refine du11_ok ?_
  refine nx_nx ?_
  dsimp only [List.set]
  refine s_seq ?_
  unfold w12
  refine tolA (y := ref1 one) (ends_c1 rfl (level_ends v1.pl)) g ?_
  intro m S1 em eS h1
  refine nx_nx ?_
  dsimp only [List.set]
  have f1 : FrX n S S1 := by rw [eS]; exact FrX.lay w _
  have hm : S.length ≤ m := by omega
  clear eS em
  refine s_seq ?_
  unfold w13
  refine tolB (y := ref1 one) rfl h1 (by decide) (ends_k1 rfl (falls_ends v1.pl)) g ?_
  have f2 := f1.setHi (x := List.replicate 2 (due (ref1 one))) hm hn
  generalize S1.set m (List.replicate (1 + 1) (due (ref1 one))) = S2 at *
  intro h2
  refine nx_nx ?_
  refine s_seq ?_
  unfold w14
  refine tolC (y := ref1 one) (k := 2) rfl rfl h2 (by decide) g ?_
  refine nx_nx ?_
  exact k m S2 f2
theorem du15_ok {Q : D → Store → Prop} (h : Q (due (ref2 one two)) S) :
    Pst (du15 [a0, a1, a2, some one, some (.bl (isRuleD one)), some two, some (.bl (isRuleD two)), a7, a8, some (due (ref1 one)), a10, a11, a12] S) Q E := by
  unfold ref2 at h
  unfold du15 ref1
  cases h1 : isRuleD one
  · rw [h1, if_neg (by decide)] at h
    rw [if_neg (by decide)]
    repeat' trivial
  · rw [h1, if_pos rfl] at h
    rw [if_pos rfl]
    cases h2 : isRuleD two
    · rw [h2, if_neg (by decide), due_R] at h
      repeat' trivial
    · rw [h2, if_pos rfl] at h
      repeat' trivial
theorem blockC (w : Well n S) (v1 : Val one) (v2 : Val two)
    (k : ∀ m S', FrX n S S' → Pst (rest [a0, a1, a2, some one, some (.bl (isRuleD one)), some two, some (.bl (isRuleD two)), a7, a8, some (due (ref2 one two)), some (.loc m), a11, a12] S') QF E) :
    Pst (sSeq w15 (sSeq w16 (sSeq w17 (sSeq w18 rest))) [a0, a1, a2, some one, some (.bl (isRuleD one)), some two, some (.bl (isRuleD two)), a7, a8, some (due (ref1 one)), a10, a11, a12] S) QF E := by
  have hn := len_of w
  have g := v1.gd2 v2
  refine s_seq ?_
  unfold w15
  refine s_set ?_
  refine du15_ok ?_
  refine nx_nx ?_
  dsimp only [List.set]
  refine s_seq ?_
  unfold w16
  refine tolA (y := ref2 one two) (ends_c2 rfl rfl (alike_ends v1.pl v2.pl)) g ?_
  intro m S1 em eS h1
  refine nx_nx ?_
  dsimp only [List.set]
  have f1 : FrX n S S1 := by rw [eS]; exact FrX.lay w _
  have hm : S.length ≤ m := by omega
  clear eS em
  refine s_seq ?_
  unfold w17
  refine tolB (y := ref2 one two) rfl h1 (by decide) (ends_k2 rfl rfl (parting_ends v1.pl v2.pl)) g ?_
  have f2 := f1.setHi (x := List.replicate 2 (due (ref2 one two))) hm hn
  generalize S1.set m (List.replicate (1 + 1) (due (ref2 one two))) = S2 at *
  intro h2
  refine nx_nx ?_
  refine s_seq ?_
  unfold w18
  refine tolC (y := ref2 one two) (k := 2) rfl rfl h2 (by decide) g ?_
  refine nx_nx ?_
  exact k m S2 f2
theorem du20_ok {Q : D → Store → Prop} (h : Q (due (if numD 1 1000000 floor = true then none else some (xN floor))) S) :
    Pst (du20 [a0, a1, a2, some one, some (.bl (isRuleD one)), a5, a6, a7, a8, a9, a10, some floor, some (.bl (numD 1 1000000 floor))] S) Q E := by
  unfold du20
  cases h2 : numD 1 1000000 floor
  · rw [h2, if_neg (by decide), due_N] at h
    repeat' trivial
  · rw [h2, if_pos rfl] at h
    repeat' trivial
theorem du21_ok {rs : List St} (hr : Rule rs) (hone : isRuleD one = true → one = ruleD rs) {Q : D → Store → Prop} (h : Q (due (refL one floor)) S) :
    Pst (du21 [a0, a1, some (ruleD rs), some one, some (.bl (isRuleD one)), a5, a6, a7, a8, some (due (if numD 1 1000000 floor = true then none else some (xN floor))), a10, some floor, some (.bl (numD 1 1000000 floor))] S) Q E := by
  unfold refL at h
  unfold du21
  cases h1 : isRuleD one
  · rw [if_neg (by rw [h1]; exact fun c => by cases c.1), due_R] at h
    repeat' trivial
  · have e := hone h1
    subst e
    cases hl : levelB rs
    · have hc : ¬ (isRuleD (ruleD rs) = true ∧ (∀ ts, ruleD rs = ruleD ts → levelB ts = true)) := fun c => by
        have := c.2 rs rfl
        rw [hl] at this
        cases this
      rw [if_neg hc, due_R] at h
      repeat' trivial
      refine r_eq (level_is hr) ?_
      rw [hl]
      repeat' trivial
    · have hc : isRuleD (ruleD rs) = true ∧ (∀ ts, ruleD rs = ruleD ts → levelB ts = true) := ⟨h1, fun ts e => by
        rw [← steps_inj (D.tup.inj (show D.tup (rs.map stepD) = D.tup (ts.map stepD) from e))]; exact hl⟩
      rw [if_pos hc] at h
      repeat' trivial
      refine r_eq (level_is hr) ?_
      rw [hl]
      repeat' trivial
theorem blockD (w : Well n S) {rs : List St} (hr : Rule rs) (hone : isRuleD one = true → one = ruleD rs) (v1 : Val one) (v2 : Val floor)
    (k : ∀ m S', FrX n S S' → QF (.nx [a0, a1, some (ruleD rs), some one, some (.bl (isRuleD one)), a5, a6, a7, a8, some (due (refL one floor)), some (.loc m), some floor, some (.bl (numD 1 1000000 floor))]) S') :
    Pst (sSeq w20 (sSeq w21 (sSeq w22 (sSeq w23 w24))) [a0, a1, some (ruleD rs), some one, some (.bl (isRuleD one)), a5, a6, a7, a8, a9, a10, some floor, some (.bl (numD 1 1000000 floor))] S) QF E := by
  have hn := len_of w
  have g := v1.gdL v2
  refine s_seq ?_
  unfold w20
  refine s_set ?_
  refine du20_ok ?_
  refine nx_nx ?_
  dsimp only [List.set]
  refine s_seq ?_
  unfold w21
  refine s_set ?_
  refine du21_ok hr hone ?_
  refine nx_nx ?_
  dsimp only [List.set]
  refine s_seq ?_
  unfold w22
  refine tolA (y := refL one floor) (ends_c2 rfl rfl (least_ends v1.pl (pl_pure v2.pl))) g ?_
  intro m S1 em eS h1
  refine nx_nx ?_
  dsimp only [List.set]
  have f1 : FrX n S S1 := by rw [eS]; exact FrX.lay w _
  have hm : S.length ≤ m := by omega
  clear eS em
  refine s_seq ?_
  unfold w23
  refine tolB (y := refL one floor) rfl h1 (by decide) (ends_k2 rfl rfl (least_ends v1.pl (pl_pure v2.pl))) g ?_
  have f2 := f1.setHi (x := List.replicate 2 (due (refL one floor))) hm hn
  generalize S1.set m (List.replicate (1 + 1) (due (refL one floor))) = S2 at *
  intro h2
  refine nx_nx ?_
  unfold w24
  refine tolC (y := refL one floor) (k := 2) rfl rfl h2 (by decide) g ?_
  exact k m S2 f2
end
theorem FrX.refl {n : Nat} {S : Store} (h : Well n S) : FrX n S S := ⟨h, Nat.le_refl _, fun _ _ _ => rfl⟩
theorem rule_val {rs : List St} (h : Rule rs) : Val (ruleD rs) := ⟨rule_pl rs, (rule_rq h).mono (by decide) (Nat.le_of_ble_eq_true rfl)⟩
theorem val_int {i : Int} (h : -1000000000000000000000000000000000 < i ∧ i < 1000000000000000000000000000000000) : Val (.int i) := ⟨by simp only [D.pl], (rq_int h).mono (by decide) (by decide)⟩
def totals : List D := [.tup [.int 0, .bl true], .tup [.int 1000000000, .bl true], .tup [.int (-1), .bl false], .tup [.int (1000000000 + 1), .bl false], .tup [.bl true, .bl false], .tup [.non, .bl false], .tup [.str "1", .bl false], .tup [.int 1000000000000000000000000000000, .bl false]]
theorem totals_ok {d : D} (h : d ∈ totals) : ∃ t, d = .tup [t, .bl (numD 0 1000000000 t)] ∧ Val t := by
  simp only [totals, List.mem_cons, List.not_mem_nil, or_false] at h
  rcases h with rfl | rfl | rfl | rfl | rfl | rfl | rfl | rfl
  · exact ⟨_, rfl, val_int (by omega)⟩
  · exact ⟨_, rfl, val_int (by omega)⟩
  · exact ⟨_, rfl, val_int (by omega)⟩
  · exact ⟨_, rfl, val_int (by omega)⟩
  · exact ⟨_, rfl, by simp only [D.pl], ⟨rfl, by decide +kernel, by decide +kernel, by decide +kernel, by decide +kernel⟩⟩
  · exact ⟨_, rfl, by simp only [D.pl], ⟨rfl, by decide +kernel, by decide +kernel, by decide +kernel, by decide +kernel⟩⟩
  · exact ⟨_, rfl, by simp only [D.pl], ⟨rfl, by decide +kernel, by decide +kernel, by decide +kernel, by decide +kernel⟩⟩
  · exact ⟨_, rfl, val_int (by omega)⟩
def floors : List D := [.tup [.int 1, .bl true], .tup [.int 1000000, .bl true], .tup [.int 0, .bl false], .tup [.int (1000000 + 1), .bl false], .tup [.non, .bl false]]
theorem floors_ok {d : D} (h : d ∈ floors) : ∃ t, d = .tup [t, .bl (numD 1 1000000 t)] ∧ Val t := by
  simp only [floors, List.mem_cons, List.not_mem_nil, or_false] at h
  rcases h with rfl | rfl | rfl | rfl | rfl
  · exact ⟨_, rfl, val_int (by omega)⟩
  · exact ⟨_, rfl, val_int (by omega)⟩
  · exact ⟨_, rfl, val_int (by omega)⟩
  · exact ⟨_, rfl, val_int (by omega)⟩
  · exact ⟨_, rfl, by simp only [D.pl], ⟨rfl, by decide +kernel, by decide +kernel, by decide +kernel, by decide +kernel⟩⟩
theorem one_ok {rs : List St} (hr : Rule rs) {v : D} (hb : Bad v) (hq : RQ 4 8000 v) {d : D} (h : d = .tup [ruleD rs, .bl true] ∨ d = .tup [v, .bl false]) : ∃ one, d = .tup [one, .bl (isRuleD one)] ∧ Val one ∧ (isRuleD one = true → one = ruleD rs) := by
  rcases h with rfl | rfl
  · exact ⟨_, by rw [rule_is hr], rule_val hr, fun _ => rfl⟩
  · exact ⟨_, by rw [hb.2], ⟨hb.1, hq⟩, fun c => by rw [hb.2] at c; cases c⟩
noncomputable def lapD : SX := sSeq w20 (sSeq w21 (sSeq w22 (sSeq w23 w24)))
noncomputable def lapE : SX := sSeq w19 lapD
noncomputable def lapC : SX := sSeq w15 (sSeq w16 (sSeq w17 (sSeq w18 lapE)))
noncomputable def lapN : SX := sSeq w11 (sSeq w12 (sSeq w13 (sSeq w14 lapC)))
noncomputable def lapA : SX := sSeq w5 (sSeq w6 (sSeq w7 (sSeq w8 (sSeq w9 (sSeq w10 lapN)))))
theorem lap_eq : lapB = sSeq w1 (sSeq w2 (sSeq w3 (sSeq w4 lapA))) := rfl
theorem right_ok {n : Nat} {S : Store} (h : Well n S) : Pst (F__law_right [.loc n] S) (fun d S' => d = .bl true ∧ Fr n S S') NoE := by
  unfold F__law_right
  rw [right_body]
  refine call_go rfl ?_
  dsimp only [startE, List.map, List.replicate, List.length, List.cons_append, List.nil_append, Nat.reduceAdd, Nat.reduceSub]
  generalize hB : lapB = B
  repeat' trivial
  subst hB
  refine for_of (fun i ρ S' => ∃ x1 x2 x3 x4 x5 x6 x7 x8 x9 x10 x11 x12, ρ = [some (.loc n), x1, x2, x3, x4, x5, x6, x7, x8, x9, x10, x11, x12] ∧ FrX n S S') ?_ (fun _ _ _ _ => rfl) ?_ ?_
  · exact ⟨_, _, _, _, _, _, _, _, _, _, _, _, rfl, FrX.refl h⟩
  · rintro i d ρ S1 hd ⟨x1, x2, x3, x4, x5, x6, x7, x8, x9, x10, x11, x12, rfl, f1⟩
    have w1 := f1.1
    refine t_name ?_
    dsimp only [List.set]
    rw [lap_eq]
    refine s_seq ?_
    unfold LW.w1
    repeat' trivial
    refine Pst.imp (lrule_ok w1) ?_
    rintro _ S2 ⟨rs, rfl, hr, f2⟩
    have g2 := f1.trans f2.x
    have hw2 := f2.1
    have hp := rule_pl rs
    repeat' trivial
    unfold LW.w2
    repeat' trivial
    refine Pst.imp (none_ok hw2 hr) ?_
    rintro v S3 ⟨hb1, hq1, f3⟩
    have hw3 := f3.1
    repeat' trivial
    refine Pst.imp (of_ok hw3 (ds := [.tup [ruleD rs, .bl true], .tup [ruleD rs, .bl true], .tup [v, .bl false]]) ⟨Nat.zero_lt_succ _, Nat.le_of_ble_eq_true rfl⟩ (by simp only [D.pures, D.pure, pl_pure hp, pl_pure hb1.1, Bool.and_self])) ?_
    rintro o S4 ⟨ho, _, f4⟩
    obtain ⟨one, rfl, hv1, hone⟩ := one_ok hr hb1 hq1 (d := o) (by simpa only [List.mem_cons, List.not_mem_nil, or_false, or_self_left] using ho)
    have g4 := g2.trans (f3.trans f4).x
    have hw4 := f4.1
    clear ho f3 f4 hw3 hb1 hq1
    repeat' trivial
    unfold LW.w3
    repeat' trivial
    refine Pst.imp (none_ok hw4 hr) ?_
    rintro v S5 ⟨hb1, hq1, f5⟩
    have hw5 := f5.1
    repeat' trivial
    refine Pst.imp (of_ok hw5 (ds := [.tup [ruleD rs, .bl true], .tup [v, .bl false]]) ⟨Nat.zero_lt_succ _, Nat.le_of_ble_eq_true rfl⟩ (by simp only [D.pures, D.pure, pl_pure hp, pl_pure hb1.1, Bool.and_self])) ?_
    rintro o S6 ⟨ho, _, f6⟩
    obtain ⟨two, rfl, hv2, _⟩ := one_ok hr hb1 hq1 (d := o) (by simpa only [List.mem_cons, List.not_mem_nil, or_false] using ho)
    have g6 := g4.trans (f5.trans f6).x
    have hw6 := f6.1
    clear ho f5 f6 hw5 hb1 hq1
    repeat' trivial
    unfold LW.w4
    repeat' trivial
    refine Pst.imp (of_ok hw6 (ds := totals) ⟨by decide, by decide⟩ rfl) ?_
    rintro o S7 ⟨ho, _, f7⟩
    obtain ⟨total, rfl, hv3⟩ := totals_ok ho
    have g7 := g6.trans f7.x
    have hw7 := f7.1
    clear ho f7
    repeat' trivial
    unfold lapA
    refine blockA hw7 hv1 hv3 fun mA S8 f8 => ?_
    have g8 := g7.trans f8
    unfold lapN
    refine blockB f8.1 hv1 fun mB S9 f9 => ?_
    have g9 := g8.trans f9
    unfold lapC
    refine blockC f9.1 hv1 hv2 fun mC S10 f10 => ?_
    have g10 := g9.trans f10
    unfold lapE
    refine s_seq ?_
    unfold LW.w19
    have hw10 := f10.1
    repeat' trivial
    refine Pst.imp (of_ok hw10 (ds := floors) ⟨by decide, by decide⟩ rfl) ?_
    rintro o S11 ⟨ho, _, f11⟩
    obtain ⟨floor, rfl, hv4⟩ := floors_ok ho
    have g11 := g10.trans f11.x
    have hw11 := f11.1
    clear ho f11
    repeat' trivial
    unfold lapD
    refine blockD hw11 hr hone hv1 hv4 fun mD S12 f12 => ?_
    exact ⟨_, _, _, _, _, _, _, _, _, _, _, _, rfl, g11.trans f12⟩
  · rintro ρ S1 ⟨x1, x2, x3, x4, x5, x6, x7, x8, x9, x10, x11, x12, rfl, f1⟩
    repeat' trivial
    exact f1.cut (len_of h)
/-! the well -/
theorem well_ok {ns : List Int} (hl : ns.length ≤ 63) {lap : Int} (h0 : 0 ≤ lap) {S : Store} : Pst (F__law_well [.fz (ns.map D.int), .int lap] S) (fun d S' => (∃ g a b, d = .lst [.int g, .int a, .int b]) ∧ S' = S) NoE := by
  unfold F__law_well b__law_well
  refine call_go rfl ?_
  dsimp only [startE, List.map, List.replicate, List.length, List.cons_append, List.nil_append, Nat.reduceAdd, Nat.reduceSub]
  repeat' trivial
  refine for_of (fun i ρ S' => ∃ st x3, ρ = [some (.fz (ns.map D.int)), some (.int lap), some (.int st), x3, none] ∧ S' = S) ?_ (fun _ _ _ _ => rfl) ?_ ?_
  · exact ⟨_, _, rfl, rfl⟩
  · rintro i d ρ S' hd ⟨st, x3, rfl, rfl⟩
    obtain ⟨v, _, rfl⟩ := List.mem_map.mp (cut_mem (List.mem_of_getElem? hd))
    repeat' trivial
  · rintro ρ S' ⟨st, x3, rfl, rfl⟩
    repeat' trivial
    · rename_i hlt
      obtain ⟨d, hd, hm, _⟩ := atI_ok (xs := ns.map D.int) ⟨h0, hlt⟩
      obtain ⟨v, _, rfl⟩ := List.mem_map.mp hm
      refine o1_ix ⟨_, _, rfl, hd, ?_⟩
      repeat' trivial
      all_goals exact ⟨⟨_, _, _, rfl⟩, take_same⟩
    · exact ⟨⟨_, _, _, rfl⟩, take_same⟩
theorem law_ends (ns : List Int) (hl : ns.length ≤ 63) : F_law [.fz (ns.map D.int)] [] = some (.ok (.bl true), []) := by
  refine Pst.eq.mp ?_
  unfold F_law b_law
  refine call_go rfl ?_
  dsimp only [startE, List.map, List.replicate, List.length, List.cons_append, List.nil_append, Nat.reduceAdd, Nat.reduceSub]
  repeat' trivial
  refine r_comp ?_
  repeat' trivial
  rw [show (List.map D.int ns).length = ns.length from List.length_map ..]
  refine comp_inv (fun i acc S1 => S1 = [] ∧ acc = (List.replicate i true).map D.bl) rfl ?_ rfl ?_ ⟨rfl, rfl⟩ ?_ ?_
  · rintro i acc S1 ⟨rfl, rfl⟩
    exact ⟨rfl, rfl⟩
  · rw [ranged_len]; show _ ≤ 1000000; omega
  · rintro i d acc S1 hd ⟨rfl, rfl⟩
    have hi : i < (max 1 (min (ns.length : Int) 3)).toNat := by
      rcases Nat.lt_or_ge i (max 1 (min (ns.length : Int) 3)).toNat with h | h
      · exact h
      · rw [List.getElem?_eq_none (by rw [ranged_len]; exact h)] at hd; cases hd
    rw [ranged_get _ _ _ hi] at hd
    cases hd
    dsimp only [wipeE, List.set]
    repeat' trivial
    refine ⟨fun _ => ?_, fun hb => by cases hb⟩
    repeat' trivial
    refine Pst.imp (well_ok hl (by omega)) ?_
    rintro _ S2 ⟨⟨g, a, b, rfl⟩, rfl⟩
    repeat' trivial
    rename_i m S3 em eS h3
    refine Pst.imp (right_ok (n := m) ⟨g, a, b, h3⟩) ?_
    rintro _ S4 ⟨rfl, f4⟩
    refine ⟨rfl, [], ?_, rfl, rfl, by simp [List.replicate_succ']⟩
    subst em eS
    have hl4 : S4.length = 2 := by rw [f4.2.1]; simp
    have h0 := f4.2.2 0 (by simp)
    match S4, hl4, h0 with
    | [x, y], _, h0 => simp at h0; subst h0; simp
  · rintro acc S1 ⟨rfl, rfl⟩
    repeat' trivial
    refine r_eq b_all ?_
    repeat' trivial
    simp
end LW
theorem PySem.Challenge.cw_pledgehall_k05_fees_refused_holds : PySem.Challenge.rw_pledgehall_k05_fees_refused.Holds := by
  exact LW.main_ LW.law_ends
