import PyProof.Rows.All
import Wide.All
import OpenK.AllK
import Wide.FinOn
import HandS.ForMost
import HandS.Evl
import HandS.Exc
import HandS.Lambda
import HandS.IsInst
import HandS.Zip
import HandS.SortInts
import HandS.Defaults
import HandS.CallSlots
import HandS.Wide
import HandS.HeadHook4
import HandS.TupAny
import HandS.RaiseMore
import PyProof.ReprRoads
import HandS.HeadEnd
import HandS.HeadHook1
import HandS.HeadHook2
import HandS.Head0
import HandS.Head1
import HandS.Head2
import HandS.Style
import HandS.Iter
import HandS.Conv
import KE.GoesEnum
import KE.GoesMore
import HandS.More
import HandS.TupSets
import HandS.Property
import HandS.MakeKwOnly
import HandS.HeadNt
import HandS.OwnEq
import PyProof.InstNe
import PyProof.NeKinds
import HandS.Codes
import HandS.DictComp
import HandS.SetTxt0
import HandS.Strs
import HandS.WideBits
import HandS.WordsDict
import HandS.Text
import PySem.Challenge.RW_pledgehall_k62_whole_plans_and_what_is_o
set_option Elab.async false
set_option linter.all false
set_option maxRecDepth 100000
set_option maxHeartbeats 4000000
/-! PF1: data, stores, outcomes, the relation to the abstract heap. -/
namespace PF
open PySem L2 Evl

/-- a lambda's place in the text -/
structure LamSite where
  params : Arguments
  body : Expr
  scope : Scope
  qual : Str
/-- what is known of a function that was made of a lambda without captures -/
def FunO (f : Addr) (l : LamSite) (pm : Value) (c' : Addr) (ctv : Value) : HO := .ext fun h => h.get? f = some (PySem.W.kla_obj "<lambda>" l.qual l.params l.body l.scope [] pm c' ctv)
/-- what stands at a place of the store: a list, an instance of a class, a dict -/
inductive Kd where | lst | ins (c : Str) | dk
structure MA where
  a : Addr
  k : Kd
/-- data: tuples and lists as values; loc n: the n-th list of the store (it may change); fz: a list that is read alone (the script) -/
inductive D where
  | non | bl (b : Bool) | int (i : Int) | str (s : Str) | tup (xs : List D) | lst (xs : List D) | loc (n : Nat) | fz (xs : List D) | fn (l : LamSite) | tpn (xs : List D) | dct (ks : List (Int × Int)) | ins (c : Str) (ns : List Str) (ds : List D) | dks (ks : List Key) (ds : List D) | obj (c : Str) (n : Nat) | dkc (n : Nat) | gfn (x : Str)

mutual
def D.pure : D → Bool
  | .tup xs => D.pures xs
  | .lst xs => D.pures xs
  | .loc _ => false
  | .fz _ => false
  | .fn _ => false
  | .tpn xs => D.pures xs
  | .dct _ => false
  | .ins _ _ _ => false
  | .dks _ _ => false
  | .obj _ _ => false
  | .dkc _ => false
  | .gfn _ => false
  | .non => true
  | .bl _ => true
  | .int _ => true
  | .str _ => true
def D.pures : List D → Bool
  | [] => true
  | d :: ds => d.pure && D.pures ds
end
theorem D.pures_iff : ∀ {ds : List D}, D.pures ds = true ↔ ∀ d ∈ ds, d.pure = true
  | [] => by simp [D.pures]
  | d :: ds => by simp [D.pures, D.pures_iff (ds := ds)]
theorem D.pures_append {xs ys : List D} : D.pures (xs ++ ys) = (D.pures xs && D.pures ys) := by
  induction xs with
  | nil => simp [D.pures]
  | cons x xs ih => simp [D.pures, ih, Bool.and_assoc]

abbrev Store := List (List D)
/-- an exception: the module's name of its class, what it was made with -/
structure XV where
  cls : Str
  fields : List (Str × D)
abbrev Out (α : Type) := Option (Except XV α × Store)
def bindO {α β : Type} (r : Out α) (k : α → Store → Out β) : Out β :=
  match r with
  | none => none
  | some (.ok a, S) => k a S
  | some (.error x, S) => some (.error x, S)
@[simp] theorem bindO_ok {α β : Type} (a : α) (S : Store) (k : α → Store → Out β) : bindO (some (.ok a, S)) k = k a S := rfl
@[simp] theorem bindO_none {α β : Type} (k : α → Store → Out β) : bindO none k = none := rfl
@[simp] theorem bindO_err {α β : Type} (x : XV) (S : Store) (k : α → Store → Out β) : bindO (some (.error x, S)) k = some (.error x, S) := rfl
abbrev Env := List (Option D)
abbrev EX := Env → Store → Out D
abbrev AX := Env → Store → Out (List D)
def ret {α : Type} (a : α) (S : Store) : Out α := some (.ok a, S)

mutual
inductive Rep (K : PySem.W.Frag) (F : Hp) (μ : List MA) : D → V → Prop
  | non : Rep K F μ .non .non
  | bl (b : Bool) : Rep K F μ (.bl b) (.bl b)
  | int (i : Int) : Rep K F μ (.int i) (.int i)
  | str (x : Str) : Rep K F μ (.str x) (.str x)
  | tup {a : Addr} {xs : List V} {ds : List D} : SqT K F a xs → Reps K F μ ds xs → Rep K F μ (.tup ds) (.ref a)
  | lst {a : Addr} {xs : List V} {ds : List D} : F a = some (.lst xs) → Reps K F μ ds xs → Rep K F μ (.lst ds) (.ref a)
  | fz {a : Addr} {xs : List V} {ds : List D} : SqL K F a xs → Reps K F μ ds xs → Rep K F μ (.fz ds) (.ref a)
  | loc {n : Nat} {a : Addr} : μ[n]? = some ⟨a, .lst⟩ → Rep K F μ (.loc n) (.ref a)
  | obj {n : Nat} {a : Addr} {c : Str} : μ[n]? = some ⟨a, .ins c⟩ → Rep K F μ (.obj c n) (.ref a)
  | dkc {n : Nat} {a : Addr} : μ[n]? = some ⟨a, .dk⟩ → Rep K F μ (.dkc n) (.ref a)
  | gfn {x : Str} : Rep K F μ (.gfn x) (.ref (He.ga K x))
  | fn {f c' : Addr} {l : LamSite} {pm ctv : Value} : F f = some (FunO f l pm c' ctv) → F c' = some (LamX.CodeO c' l.qual) → Rep K F μ (.fn l) (.ref f)
  | tpn {a : Addr} {o : Obj} {xs : List V} {ds : List D} : F a = some (.frz o (.tup xs)) → o.dict = none → Reps K F μ ds xs → Rep K F μ (.tpn ds) (.ref a)
  | dct {a : Addr} {ks : List (Int × Int)} : F a = some (.dK (ks.map fun p => (Sum.inl p.1, V.int p.2))) → Rep K F μ (.dct ks) (.ref a)
  | ins {a dx : Addr} {c : Str} {ns : List Str} {ds : List D} {vs : List V} : F a = some (.ins (He.ga K c) dx (ns.zip vs)) → ns.length = ds.length → Reps K F μ ds vs → Rep K F μ (.ins c ns ds) (.ref a)
  | dks {a : Addr} {ks : List Key} {ds : List D} {vs : List V} : F a = some (.dK (ks.zip vs)) → ks.length = ds.length → Reps K F μ ds vs → Rep K F μ (.dks ks ds) (.ref a)
inductive Reps (K : PySem.W.Frag) (F : Hp) (μ : List MA) : List D → List V → Prop
  | nil : Reps K F μ [] []
  | cons {d : D} {ds : List D} {v : V} {vs : List V} : Rep K F μ d v → Reps K F μ ds vs → Reps K F μ (d :: ds) (v :: vs)
end

section
variable {K : PySem.W.Frag} {F F' H : Hp} {μ μ' : List MA} {d : D} {ds es : List D} {v : V} {vs ws : List V}
theorem pre_get {n : Nat} {a : MA} (p : μ <+: μ') (h : μ[n]? = some a) : μ'[n]? = some a := by
  obtain ⟨t, rfl⟩ := p
  have := (List.getElem?_eq_some_iff.mp h).1
  rw [List.getElem?_append_left this]; exact h
mutual
theorem Rep.mono (e : Ex F F') (p : μ <+: μ') : ∀ {d : D} {v : V}, Rep K F μ d v → Rep K F' μ' d v
  | _, _, .non => .non
  | _, _, .bl b => .bl b
  | _, _, .int i => .int i
  | _, _, .str x => .str x
  | _, _, .tup h r => .tup (ex_t e h) (Reps.mono e p r)
  | _, _, .lst h r => .lst (e _ _ h) (Reps.mono e p r)
  | _, _, .fz h r => .fz (ex_l e h) (Reps.mono e p r)
  | _, _, .loc h => .loc (pre_get p h)
  | _, _, .obj h => .obj (pre_get p h)
  | _, _, .dkc h => .dkc (pre_get p h)
  | _, _, .gfn => .gfn
  | _, _, .fn h g => .fn (e _ _ h) (e _ _ g)
  | _, _, .tpn h k r => .tpn (e _ _ h) k (Reps.mono e p r)
  | _, _, .dct h => .dct (e _ _ h)
  | _, _, .ins h k r => .ins (e _ _ h) k (Reps.mono e p r)
  | _, _, .dks h k r => .dks (e _ _ h) k (Reps.mono e p r)
theorem Reps.mono (e : Ex F F') (p : μ <+: μ') : ∀ {ds : List D} {vs : List V}, Reps K F μ ds vs → Reps K F' μ' ds vs
  | _, _, .nil => .nil
  | _, _, .cons h r => .cons (Rep.mono e p h) (Reps.mono e p r)
end
mutual
/-- what has no location does not lean on the store -/
theorem Rep.free : ∀ {d : D} {v : V}, Rep K F μ d v → d.pure = true → Rep K F μ' d v
  | _, _, .non, _ => .non
  | _, _, .bl b, _ => .bl b
  | _, _, .int i, _ => .int i
  | _, _, .str x, _ => .str x
  | _, _, .tup h r, p => .tup h (Reps.free r (by simpa [D.pure] using p))
  | _, _, .lst h r, p => .lst h (Reps.free r (by simpa [D.pure] using p))
  | _, _, .loc h, p => by simp [D.pure] at p
  | _, _, .obj h, p => by simp [D.pure] at p
  | _, _, .dkc h, p => by simp [D.pure] at p
  | _, _, .gfn, p => by simp [D.pure] at p
  | _, _, .fz h r, p => by simp [D.pure] at p
  | _, _, .fn h r, p => by simp [D.pure] at p
  | _, _, .tpn h k r, p => .tpn h k (Reps.free r (by simpa [D.pure] using p))
  | _, _, .dct h, p => by simp [D.pure] at p
  | _, _, .ins h k r, p => by simp [D.pure] at p
  | _, _, .dks h k r, p => by simp [D.pure] at p
theorem Reps.free : ∀ {ds : List D} {vs : List V}, Reps K F μ ds vs → D.pures ds = true → Reps K F μ' ds vs
  | _, _, .nil, _ => .nil
  | _, _, .cons h r, p => .cons (Rep.free h (by simp [D.pures] at p; exact p.1)) (Reps.free r (by simp [D.pures] at p; exact p.2))
end
theorem Reps.length : ∀ {ds : List D} {vs : List V}, Reps K F μ ds vs → ds.length = vs.length
  | _, _, .nil => rfl
  | _, _, .cons _ r => by simp [Reps.length r]
theorem Reps.get : ∀ {ds : List D} {vs : List V} {i : Nat} {d : D}, Reps K F μ ds vs → ds[i]? = some d → ∃ v, vs[i]? = some v ∧ Rep K F μ d v
  | _, _, _, _, .nil, h => by simp at h
  | _, _, 0, _, .cons h r, e => by simp at e; subst e; exact ⟨_, rfl, h⟩
  | _, _, i + 1, _, .cons h r, e => by simpa using Reps.get (i := i) r (by simpa using e)
theorem Reps.getV : ∀ {ds : List D} {vs : List V} {i : Nat} {v : V}, Reps K F μ ds vs → vs[i]? = some v → ∃ d, ds[i]? = some d ∧ Rep K F μ d v
  | _, _, _, _, .nil, h => by simp at h
  | _, _, 0, _, .cons h r, e => by simp at e; subst e; exact ⟨_, rfl, h⟩
  | _, _, i + 1, _, .cons h r, e => by simpa using Reps.getV (i := i) r (by simpa using e)
theorem Reps.append : ∀ {ds : List D} {vs : List V} {es : List D} {ws : List V}, Reps K F μ ds vs → Reps K F μ es ws → Reps K F μ (ds ++ es) (vs ++ ws)
  | _, _, _, _, .nil, s => s
  | _, _, _, _, .cons h r, s => .cons h (Reps.append r s)
theorem Reps.drop : ∀ {ds : List D} {vs : List V} (n : Nat), Reps K F μ ds vs → Reps K F μ (ds.drop n) (vs.drop n)
  | _, _, 0, r => r
  | _, _, n + 1, .nil => .nil
  | _, _, n + 1, .cons _ r => Reps.drop n r
theorem Reps.take : ∀ {ds : List D} {vs : List V} (n : Nat), Reps K F μ ds vs → Reps K F μ (ds.take n) (vs.take n)
  | _, _, 0, r => .nil
  | _, _, n + 1, .nil => .nil
  | _, _, n + 1, .cons h r => .cons h (Reps.take n r)
theorem Reps.set : ∀ {ds : List D} {vs : List V} {d : D} {v : V} (n : Nat), Reps K F μ ds vs → Rep K F μ d v → Reps K F μ (ds.set n d) (vs.set n v)
  | _, _, _, _, _, .nil, _ => .nil
  | _, _, _, _, 0, .cons h r, q => .cons q r
  | _, _, _, _, n + 1, .cons h r, q => .cons h (Reps.set n r q)
theorem Reps.eraseIdx : ∀ {ds : List D} {vs : List V} (n : Nat), Reps K F μ ds vs → Reps K F μ (ds.eraseIdx n) (vs.eraseIdx n)
  | _, _, _, .nil => .nil
  | _, _, 0, .cons h r => r
  | _, _, n + 1, .cons h r => .cons h (Reps.eraseIdx n r)
theorem Reps.reverse : ∀ {ds : List D} {vs : List V}, Reps K F μ ds vs → Reps K F μ ds.reverse vs.reverse
  | _, _, .nil => .nil
  | _, _, .cons h r => by
    rw [List.reverse_cons, List.reverse_cons]
    exact (Reps.reverse r).append (.cons h .nil)
theorem Reps.one (h : Rep K F μ d v) : Reps K F μ [d] [v] := .cons h .nil
end

/-! ### the store's relation to the heap -/
/-- the fields of an instance, the entries of a dict, as one list -/
def encF : List Str → List D → List D
  | f :: ns, d :: ds => .str f :: d :: encF ns ds
  | _, _ => []
def kD : Key → D
  | .inl i => .int i
  | .inr x => .str x
def encK : List Key → List D → List D
  | k :: ks, d :: ds => kD k :: d :: encK ks ds
  | _, _ => []
theorem pures_encF : ∀ {ns : List Str} {ds : List D}, ns.length = ds.length → D.pures (encF ns ds) = D.pures ds
  | [], [], _ => rfl
  | f :: ns, d :: ds, h => by
    simp only [encF, D.pures, D.pure, Bool.true_and]
    rw [pures_encF (ns := ns) (ds := ds) (by simpa using h)]
theorem pures_encK : ∀ {ks : List Key} {ds : List D}, ks.length = ds.length → D.pures (encK ks ds) = D.pures ds
  | [], [], _ => rfl
  | k :: ks, d :: ds, h => by
    have e : (kD k).pure = true := by cases k <;> rfl
    simp only [encK, D.pures, e, Bool.true_and]
    rw [pures_encK (ks := ks) (ds := ds) (by simpa using h)]
/-- what stands at a place of the store -/
inductive Cell (K : PySem.W.Frag) (F : Hp) (μ : List MA) (H : Hp) : MA → List D → Prop
  | lst {a : Addr} {ds : List D} {vs : List V} : H a = some (.lst vs) → Reps K F μ ds vs → Cell K F μ H ⟨a, .lst⟩ ds
  | ins {a dx : Addr} {c : Str} {ns : List Str} {es : List D} {vs : List V} : ns.length = es.length → H a = some (.ins (He.ga K c) dx (ns.zip vs)) → Reps K F μ es vs → Cell K F μ H ⟨a, .ins c⟩ (encF ns es)
  | dk {a : Addr} {ks : List Key} {es : List D} {vs : List V} : ks.length = es.length → H a = some (.dK (ks.zip vs)) → Reps K F μ es vs → Cell K F μ H ⟨a, .dk⟩ (encK ks es)
/-- what may change -/
def MutO (o : HO) : Prop := (∃ xs, o = .lst xs) ∨ (∃ C dx fs, o = .ins C dx fs) ∨ ∃ ks, o = .dK ks
section
variable {K : PySem.W.Frag} {F F' H H' : Hp} {μ μ' : List MA} {m : MA} {ds : List D}
theorem Cell.ho (h : Cell K F μ H m ds) : ∃ o, H m.a = some o ∧ MutO o := by
  cases h with
  | lst h _ => exact ⟨_, h, .inl ⟨_, rfl⟩⟩
  | ins _ h _ => exact ⟨_, h, .inr (.inl ⟨_, _, _, rfl⟩)⟩
  | dk _ h _ => exact ⟨_, h, .inr (.inr ⟨_, rfl⟩)⟩
theorem Cell.mono (h : Cell K F μ H m ds) (e : Ex F F') (p : μ <+: μ') (q : ∀ o, H m.a = some o → H' m.a = some o) : Cell K F' μ' H' m ds := by
  cases h with
  | lst h r => exact .lst (q _ h) (r.mono e p)
  | ins h1 h r => exact .ins h1 (q _ h) (r.mono e p)
  | dk h1 h r => exact .dk h1 (q _ h) (r.mono e p)
theorem Cell.free (h : Cell K F μ H m ds) (hp : D.pures ds = true) : Cell K F μ' H m ds := by
  cases h with
  | lst h r => exact .lst h (r.free hp)
  | ins h1 h r => exact .ins h1 h (r.free (by rw [pures_encF h1] at hp; exact hp))
  | dk h1 h r => exact .dk h1 h (r.free (by rw [pures_encK h1] at hp; exact hp))
end
/-- the address is none of the store's -/
def Out_ (a : Addr) (μ : List MA) : Prop := ∀ m ∈ μ, m.a ≠ a
/-- T: the tables of code objects (lambdas); F: what is frozen; μ: where the store's things stand -/
structure SR (K : PySem.W.Frag) (T : List (Addr × Str)) (F : Hp) (μ : List MA) (S : Store) (H : Hp) : Prop where
  ex : Ex F H
  len : μ.length = S.length
  nd : (μ.map MA.a).Nodup
  ob : ∀ (n : Nat) (m : MA) (ds : List D), μ[n]? = some m → S[n]? = some ds → F m.a = none ∧ D.pures ds = true ∧ Cell K F μ H m ds
  tab : LamX.Tabs T H
  tabF : ∀ p ∈ T, F p.1 = none

section
variable {K : PySem.W.Frag} {T : List (Addr × Str)} {F F' H H' : Hp} {μ μ' : List MA} {S : Store} {a : Addr} {o : HO}
theorem Tabs.keep {T : List (Addr × Str)} {H H' : Hp} (t : LamX.Tabs T H) (e : ∀ b o, H b = some o → ¬ MutO o → H' b = some o) : LamX.Tabs T H' := fun p hp => by
  obtain ⟨ps, h1, h2, h3⟩ := t p hp
  refine ⟨ps, e _ _ h1 (by rintro (⟨_, z⟩ | ⟨_, _, _, z⟩ | ⟨_, z⟩) <;> cases z), h2, fun pos cv hc => ?_⟩
  obtain ⟨c, e1, e2⟩ := h3 pos cv hc
  exact ⟨c, e1, e _ _ e2 (by rintro (⟨_, z⟩ | ⟨_, _, _, z⟩ | ⟨_, z⟩) <;> (unfold LamX.CodeO at z; cases z))⟩
theorem SR.at (s : SR K T F μ S H) {n : Nat} {m : MA} (hm : μ[n]? = some m) : ∃ ds, S[n]? = some ds ∧ F m.a = none ∧ D.pures ds = true ∧ Cell K F μ H m ds := by
  have hl : n < S.length := by rw [← s.len]; exact (List.getElem?_eq_some_iff.mp hm).1
  exact ⟨S[n], List.getElem?_eq_getElem hl, s.ob n m S[n] hm (List.getElem?_eq_getElem hl)⟩
/-- a new frozen object -/
theorem SR.new (s : SR K T F μ S H) (hn : H a = none) : SR K T (upd F a o) μ S (upd H a o) := by
  have hF : F a = none := fresh_back s.ex hn
  have hm : ∀ (n : Nat) (m : MA), μ[n]? = some m → m.a ≠ a := fun n m e z => by
    obtain ⟨ds, _, _, _, hc⟩ := s.at e
    obtain ⟨o, h, _⟩ := hc.ho
    rw [z, hn] at h; cases h
  refine ⟨fun b u e => ?_, s.len, s.nd, fun n m ds e1 e2 => ?_, s.tab.ext fun b u e => ?_, fun p hp => ?_⟩
  · by_cases hb : b = a
    · subst hb; rw [upd_same] at e ⊢; exact e
    · rw [upd_ne hb] at e ⊢; exact s.ex b u e
  · obtain ⟨h1, h2, h3⟩ := s.ob n m ds e1 e2
    have nb := hm n m e1
    exact ⟨by rw [upd_ne nb]; exact h1, h2, h3.mono (Ex.new hF) (List.prefix_refl _) fun o h => by rw [upd_ne nb]; exact h⟩
  · rw [upd_ne (ne_of_none e hn)]; exact e
  · obtain ⟨ps, h1, _⟩ := s.tab p hp
    rw [upd_ne (ne_of_none h1 hn)]; exact s.tabF p hp
/-- a new object that is not frozen yet -/
theorem SR.lay (s : SR K T F μ S H) (hn : H a = none) : SR K T F μ S (upd H a o) := by
  refine ⟨s.ex.trans (Ex.new hn), s.len, s.nd, fun n m ds e1 e2 => ?_, s.tab.ext fun b u e => ?_, s.tabF⟩
  · obtain ⟨h1, h2, h3⟩ := s.ob n m ds e1 e2
    exact ⟨h1, h2, h3.mono (Ex.refl _) (List.prefix_refl _) fun o h => by rw [upd_ne (ne_of_none h hn)]; exact h⟩
  · rw [upd_ne (ne_of_none e hn)]; exact e
/-- a thing that nobody else holds is frozen -/
theorem SR.freezeO (s : SR K T F μ S H) {o : HO} (hF : F a = none) (hm : Out_ a μ) (hH : H a = some o) (ho : MutO o) : SR K T (upd F a o) μ S H := by
  refine ⟨fun b u e => ?_, s.len, s.nd, fun n m ds e1 e2 => ?_, s.tab, fun p hp => ?_⟩
  · by_cases hb : b = a
    · subst hb; rw [upd_same] at e; cases e; exact hH
    · rw [upd_ne hb] at e; exact s.ex b u e
  · obtain ⟨h1, h2, h3⟩ := s.ob n m ds e1 e2
    have nb : m.a ≠ a := hm m (List.mem_of_getElem? e1)
    exact ⟨by rw [upd_ne nb]; exact h1, h2, h3.mono (Ex.new hF) (List.prefix_refl _) fun o h => h⟩
  · obtain ⟨ps, h1, _⟩ := s.tab p hp
    rw [upd_ne (fun z => by
      rw [z, hH] at h1; cases h1
      rcases ho with ⟨_, z⟩ | ⟨_, _, _, z⟩ | ⟨_, z⟩ <;> cases z)]
    exact s.tabF p hp
theorem SR.freeze (s : SR K T F μ S H) {xs : List V} (hF : F a = none) (hm : Out_ a μ) (hH : H a = some (.lst xs)) : SR K T (upd F a (.lst xs)) μ S H := s.freezeO hF hm hH (.inl ⟨_, rfl⟩)
/-- .. or becomes a thing of the store -/
theorem SR.allocM (s : SR K T F μ S H) {m : MA} {ds : List D} (hF : F m.a = none) (hm : Out_ m.a μ) (hc : Cell K F μ H m ds) (hp : D.pures ds = true) : SR K T F (μ ++ [m]) (S ++ [ds]) H := by
  refine ⟨s.ex, by simp [s.len], ?_, fun n b es e1 e2 => ?_, s.tab, s.tabF⟩
  · rw [List.map_append, List.nodup_append]
    refine ⟨s.nd, by simp, fun x hx y hy e => ?_⟩
    simp at hy; subst hy; subst e
    obtain ⟨b, hb, e⟩ := List.mem_map.mp hx
    exact hm b hb e
  · by_cases hn : n < μ.length
    · rw [List.getElem?_append_left hn] at e1
      rw [List.getElem?_append_left (by rw [← s.len]; exact hn)] at e2
      obtain ⟨h1, h2, h3⟩ := s.ob n b es e1 e2
      exact ⟨h1, h2, h3.mono (Ex.refl _) (List.prefix_append _ _) fun o h => h⟩
    · have hl := (List.getElem?_eq_some_iff.mp e1).1
      have en : n = μ.length := by simp at hl; omega
      subst en
      rw [List.getElem?_append_right (Nat.le_refl _)] at e1
      rw [s.len, List.getElem?_append_right (Nat.le_refl _)] at e2
      simp at e1 e2
      subst e1; subst e2
      exact ⟨hF, hp, hc.mono (Ex.refl _) (List.prefix_append _ _) fun o h => h⟩
theorem SR.alloc (s : SR K T F μ S H) {xs : List V} {ds : List D} (hF : F a = none) (hm : Out_ a μ) (hH : H a = some (.lst xs)) (hr : Reps K F μ ds xs) (hp : D.pures ds = true) : SR K T F (μ ++ [⟨a, .lst⟩]) (S ++ [ds]) H :=
  s.allocM (m := ⟨a, .lst⟩) hF hm (.lst hH hr) hp
/-- a thing of the store is changed -/
theorem SR.putM (s : SR K T F μ S H) {n : Nat} {m : MA} {o : HO} {ds : List D} (hm : μ[n]? = some m) (hc : Cell K F μ (upd H m.a o) m ds) (hp : D.pures ds = true) : SR K T F μ (S.set n ds) (upd H m.a o) := by
  obtain ⟨ds0, e0, hF, _, hc0⟩ := s.at hm
  obtain ⟨o0, ho0, hM⟩ := hc0.ho
  have hl : n < S.length := (List.getElem?_eq_some_iff.mp e0).1
  refine ⟨Ex.mut s.ex hF, by simp [s.len], s.nd, fun k b es e1 e2 => ?_, Tabs.keep s.tab fun b u e nl => ?_, s.tabF⟩
  · by_cases hb : k = n
    · subst hb
      rw [hm] at e1; cases e1
      rw [List.getElem?_set_self hl] at e2; cases e2
      exact ⟨hF, hp, hc⟩
    · rw [List.getElem?_set_ne (Ne.symm hb)] at e2
      obtain ⟨h1, h2, h3⟩ := s.ob k b es e1 e2
      have nb : b.a ≠ m.a := fun z => by
        have k1 := List.getElem?_eq_some_iff.mp e1
        have k2 := List.getElem?_eq_some_iff.mp hm
        have i1 : k < (μ.map MA.a).length := by rw [List.length_map]; exact k1.1
        have i2 : n < (μ.map MA.a).length := by rw [List.length_map]; exact k2.1
        have e3 : (μ.map MA.a)[k] = (μ.map MA.a)[n] := by
          rw [List.getElem_map, List.getElem_map, k1.2, k2.2, z]
        exact hb ((List.getElem_inj s.nd).mp e3)
      exact ⟨h1, h2, h3.mono (Ex.refl _) (List.prefix_refl _) fun o h => by rw [upd_ne nb]; exact h⟩
  · by_cases hb : b = m.a
    · subst hb; rw [ho0] at e; cases e; exact absurd hM nl
    · rw [upd_ne hb]; exact e
theorem SR.put (s : SR K T F μ S H) {n : Nat} {xs : List V} {ds : List D} (hm : μ[n]? = some ⟨a, .lst⟩) (hr : Reps K F μ ds xs) (hp : D.pures ds = true) : SR K T F μ (S.set n ds) (upd H a (.lst xs)) :=
  s.putM (m := ⟨a, .lst⟩) hm (.lst upd_same hr) hp
/-- the store's later things are forgotten -/
theorem SR.cut (s : SR K T F μ S H) (k : Nat) : SR K T F (μ.take k) (S.take k) H := by
  refine ⟨s.ex, by simp [s.len], by rw [List.map_take]; exact s.nd.sublist (List.take_sublist _ _), fun n a ds e1 e2 => ?_, s.tab, s.tabF⟩
  have hk : n < k := by
    have := (List.getElem?_eq_some_iff.mp e1).1
    rw [List.length_take] at this; omega
  rw [List.getElem?_take_of_lt hk] at e1 e2
  obtain ⟨h1, h2, h3⟩ := s.ob n a ds e1 e2
  exact ⟨h1, h2, h3.free h2⟩
theorem SR.get (s : SR K T F μ S H) {n : Nat} (hm : μ[n]? = some ⟨a, .lst⟩) : ∃ ds vs, S[n]? = some ds ∧ H a = some (.lst vs) ∧ Reps K F μ ds vs ∧ F a = none ∧ D.pures ds = true := by
  obtain ⟨ds, h0, h1, h2, hc⟩ := s.at hm
  cases hc with
  | lst h3 h4 => exact ⟨ds, _, h0, h3, h4, h1, h2⟩
theorem SR.sqT (s : SR K T F μ S H) {xs : List V} (h : SqT K F a xs) : SqT K H a xs := ex_t s.ex h
theorem SR.sqL (s : SR K T F μ S H) {xs : List V} (h : SqL K F a xs) : SqL K H a xs := ex_l s.ex h
end

/-! ### outcomes -/
/-- a list that was just made, held by nobody else -/
def Fresh (K : PySem.W.Frag) (F : Hp) (μ : List MA) (H : Hp) (d : D) (v : V) : Prop :=
  ∃ ds a vs, d = .lst ds ∧ v = .ref a ∧ F a = none ∧ Out_ a μ ∧ H a = some (.lst vs) ∧ Reps K F μ ds vs
def RX (K : PySem.W.Frag) (fr : Bool) (F : Hp) (μ : List MA) (H : Hp) (d : D) (v : V) : Prop := match fr with
  | true => Fresh K F μ H d v
  | false => Rep K F μ d v
/-- an exception of an own class that keeps what it was made with -/
def XRep (K : PySem.W.Frag) (mg : Str → Option Value) (F : Hp) (μ : List MA) (x : XV) (cls : Value) (dd : Option Addr) : Prop :=
  ∃ C, cls = .ref C ∧ mg x.cls = some (.ref C) ∧ (x.fields = [] ∨ ∃ d vs, dd = some d ∧ Reps K F μ (x.fields.map (·.2)) vs ∧ F d = some (.xd ((x.fields.map (·.1)).zip vs)))
def GP {α : Type} (K : PySem.W.Frag) (T : List (Addr × Str)) (F : Hp) (μ : List MA) (r : Out α) (ok : α → Hp → List MA → Hp → Store → Prop) (er : XV → Hp → List MA → Hp → Prop) : Prop :=
  match r with
  | none => False
  | some (.ok a, S) => ∀ F' μ' H', Ex F F' → μ <+: μ' → SR K T F' μ' S H' → ok a F' μ' H' S
  | some (.error x, S) => ∀ F' μ' H', Ex F F' → μ <+: μ' → SR K T F' μ' S H' → er x F' μ' H'
section
variable {α β : Type} {K : PySem.W.Frag} {T : List (Addr × Str)} {F F' H H' : Hp} {μ μ' : List MA} {S : Store} {r : Out α} {k : α → Store → Out β}
  {ok : β → Hp → List MA → Hp → Store → Prop} {ok1 ok2 : α → Hp → List MA → Hp → Store → Prop} {er : XV → Hp → List MA → Hp → Prop}
theorem GP.mono (h : GP K T F μ r ok1 er) (e : Ex F F') (p : μ <+: μ') : GP K T F' μ' r ok1 er := by
  match r, h with
  | some (.ok a, S), h => exact fun F2 μ2 H2 e2 p2 s2 => h F2 μ2 H2 (e.trans e2) (p.trans p2) s2
  | some (.error x, S), h => exact fun F2 μ2 H2 e2 p2 s2 => h F2 μ2 H2 (e.trans e2) (p.trans p2) s2
theorem GP.bind (h : GP K T F μ (bindO r k) ok er) : GP K T F μ r (fun a F' μ' H' S' => SR K T F' μ' S' H' ∧ Ex F F' ∧ μ <+: μ' ∧ GP K T F' μ' (k a S') ok er) er := by
  match r, h with
  | some (.ok a, S), h => exact fun F2 μ2 H2 e2 p2 s2 => ⟨s2, e2, p2, GP.mono h e2 p2⟩
  | some (.error x, S), h => exact h
theorem GP.imp (h : GP K T F μ r ok1 er) (f : ∀ a F' μ' H' S', Ex F F' → μ <+: μ' → SR K T F' μ' S' H' → ok1 a F' μ' H' S' → ok2 a F' μ' H' S') : GP K T F μ r ok2 er := by
  match r, h with
  | some (.ok a, S), h => exact fun F2 μ2 H2 e2 p2 s2 => f _ _ _ _ _ e2 p2 s2 (h F2 μ2 H2 e2 p2 s2)
  | some (.error x, S), h => exact h
/-- bind, and go on -/
theorem GP.seq (h : GP K T F μ (bindO r k) ok er) (f : ∀ a F' μ' H' S', Ex F F' → μ <+: μ' → SR K T F' μ' S' H' → GP K T F' μ' (k a S') ok er → ok2 a F' μ' H' S') : GP K T F μ r ok2 er :=
  GP.imp (GP.bind h) fun a F' μ' H' S' e p s ⟨_, _, _, q⟩ => f a F' μ' H' S' e p s q
theorem GP.here {a : α} (h : GP K T F μ (some (.ok a, S)) ok1 er) (s : SR K T F μ S H) : ok1 a F μ H S := h F μ H (Ex.refl _) (List.prefix_refl _) s
/-- a state that stands behind one that was reached -/
theorem GP.at {a : α} (h : GP K T F μ (some (.ok a, S)) ok1 er) (e : Ex F F') (p : μ <+: μ') (s : SR K T F' μ' S H') : ok1 a F' μ' H' S := h F' μ' H' e p s
end
/-- the slots -/
def EnvR (K : PySem.W.Frag) (F : Hp) (μ : List MA) (ρ : Env) (σ : L2.St) : Prop := ρ.length = σ.length ∧ ∀ (i : Nat) (d : D), ρ[i]? = some (some d) → ∃ v, σ[i]? = some (some v) ∧ Rep K F μ d v
section
variable {K : PySem.W.Frag} {F F' : Hp} {μ μ' : List MA} {ρ : Env} {σ : L2.St}
theorem EnvR.mono (h : EnvR K F μ ρ σ) (e : Ex F F') (p : μ <+: μ') : EnvR K F' μ' ρ σ := ⟨h.1, fun i d q => by
  obtain ⟨v, h1, h2⟩ := h.2 i d q
  exact ⟨v, h1, h2.mono e p⟩⟩
theorem EnvR.set (h : EnvR K F μ ρ σ) {i : Nat} {d : D} {v : V} (r : Rep K F μ d v) : EnvR K F μ (ρ.set i (some d)) (σ.set i (some v)) := ⟨by simp [h.1], fun j e q => by
  by_cases hj : j = i
  · subst hj
    have hl : j < ρ.length := by
      have := (List.getElem?_eq_some_iff.mp q).1
      simpa using this
    rw [List.getElem?_set_self hl] at q
    cases q
    exact ⟨v, by rw [List.getElem?_set_self (by rw [← h.1]; exact hl)], r⟩
  · rw [List.getElem?_set_ne (Ne.symm hj)] at q ⊢
    exact h.2 j e q⟩
theorem EnvR.none (h : EnvR K F μ ρ σ) (i : Nat) : EnvR K F μ (ρ.set i none) (σ.set i none) := ⟨by simp [h.1], fun j e q => by
  by_cases hj : j = i
  · subst hj
    have hl : j < ρ.length := by
      have := (List.getElem?_eq_some_iff.mp q).1
      simpa using this
    rw [List.getElem?_set_self hl] at q
    cases q
  · rw [List.getElem?_set_ne (Ne.symm hj)] at q ⊢
    exact h.2 j e q⟩
def wipeE (ρ : Env) : List Nat → Env
  | [] => ρ
  | v :: vs => (wipeE ρ vs).set v none
theorem EnvR.wipe (h : EnvR K F μ ρ σ) : ∀ vs : List Nat, EnvR K F μ (wipeE ρ vs) (wipe σ vs)
  | [] => h
  | v :: vs => (EnvR.wipe h vs).none v
end
end PF
set_option Elab.async false
set_option linter.all false
set_option maxRecDepth 100000
set_option maxHeartbeats 4000000
/-! PF2: expressions. -/
namespace PF
open PySem L2 Evl
section
variable (K : PySem.W.Frag) (mg : Str → Option Value)
def OkV (fr : Bool) (Q : VK) : D → Hp → List MA → Hp → Store → Prop := fun d F μ H _ => ∀ v, RX K fr F μ H d v → Q v H
def OkA (Q : List V → Hp → Prop) : List D → Hp → List MA → Hp → Store → Prop := fun ds F μ H _ => ∀ vs, Reps K F μ ds vs → Q vs H
def ErW (W : Value → Option Addr → Hp → Prop) : XV → Hp → List MA → Hp → Prop := fun x F μ H => ∀ cls dd, XRep K mg F μ x cls dd → W cls dd H
end
abbrev BX := Env → Store → Out Bool
def RE (T : List (Addr × Str)) (fr : Bool) (X : Cx) (W : WX) (e : Expr) (c : EX) : Prop := ∃ t, PE X e t ∧
  ∀ σ ρ F μ S H Q, SR X.K T F μ S H → EnvR X.K F μ ρ σ → GP X.K T F μ (c ρ S) (OkV X.K fr Q) (ErW X.K X.mg fun cls dd H' => W cls dd σ H') → t σ H Q
def RT (T : List (Addr × Str)) (X : Cx) (W : WX) (e : Expr) (c : BX) : Prop := ∃ t, PT X e t ∧
  ∀ σ ρ F μ S H (Q : Bool → Hp → Prop), SR X.K T F μ S H → EnvR X.K F μ ρ σ → GP X.K T F μ (c ρ S) (fun b _ _ H' _ => Q b H') (ErW X.K X.mg fun cls dd H' => W cls dd σ H') → t σ H Q
/-- a test within and, or -/
def RW (T : List (Addr × Str)) (X : Cx) (W : WX) (e : Expr) (c : BX) : Prop := ∃ t, PW X e t ∧
  ∀ σ ρ F μ S H (Q : Bool → Hp → Prop), SR X.K T F μ S H → EnvR X.K F μ ρ σ → GP X.K T F μ (c ρ S) (fun b _ _ H' _ => Q b H') (ErW X.K X.mg fun cls dd H' => W cls dd σ H') → t σ H Q
def RA (T : List (Addr × Str)) (X : Cx) (W : WX) (es : List Expr) (c : AX) : Prop := ∃ t, PA X es t ∧
  ∀ σ ρ F μ S H Q, SR X.K T F μ S H → EnvR X.K F μ ρ σ → GP X.K T F μ (c ρ S) (OkA X.K Q) (ErW X.K X.mg fun cls dd H' => W cls dd σ H') → t σ H Q
/-- keywords -/
def RK (T : List (Addr × Str)) (X : Cx) (W : WX) (kws : List Keyword) (c : AX) : Prop := ∃ t, PK X kws t ∧
  ∀ σ ρ F μ S H Q, SR X.K T F μ S H → EnvR X.K F μ ρ σ → GP X.K T F μ (c ρ S) (OkA X.K Q) (ErW X.K X.mg fun cls dd H' => W cls dd σ H') → t σ H Q

/-! ### ends -/
section
variable {K : PySem.W.Frag} {T : List (Addr × Str)} {F H : Hp} {μ : List MA} {S : Store} {Q : VK} {er : XV → Hp → List MA → Hp → Prop} {d : D} {v : V} {ds : List D} {vs : List V}
theorem gp_val (h : GP K T F μ (some (.ok d, S)) (OkV K false Q) er) (s : SR K T F μ S H) (r : Rep K F μ d v) : Q v H := h F μ H (Ex.refl _) (List.prefix_refl _) s v r
theorem gp_tup (h : GP K T F μ (some (.ok (.tup ds), S)) (OkV K false Q) er) (s : SR K T F μ S H) (r : Reps K F μ ds vs) : ∀ p, H p = none → Q (.ref p) (upd H p (.tup vs)) := fun p hp =>
  h (upd F p (.tup vs)) μ _ (Ex.new (fresh_back s.ex hp)) (List.prefix_refl _) (s.new hp) _ (.tup (st_of upd_same) (r.mono (Ex.new (fresh_back s.ex hp)) (List.prefix_refl _)))
theorem SR.notinO (s : SR K T F μ S H) {p : Addr} (hp : ∀ o, H p = some o → ¬ MutO o) : Out_ p μ := fun m hm z => by
  obtain ⟨n, hn, e⟩ := List.mem_iff_getElem.mp hm
  obtain ⟨_, _, _, _, hc⟩ := s.at (n := n) (m := m) (by rw [List.getElem?_eq_getElem hn, e])
  obtain ⟨o, h1, h2⟩ := hc.ho
  rw [z] at h1
  exact hp _ h1 h2
theorem SR.notin (s : SR K T F μ S H) {p : Addr} (hp : H p = none) : Out_ p μ := s.notinO fun o h => by rw [hp] at h; cases h
theorem gp_lst (h : GP K T F μ (some (.ok (.lst ds), S)) (OkV K true Q) er) (s : SR K T F μ S H) (r : Reps K F μ ds vs) : ∀ p, H p = none → Q (.ref p) (upd H p (.lst vs)) := fun p hp =>
  h F μ _ (Ex.refl _) (List.prefix_refl _) (s.lay hp) _ ⟨ds, p, vs, rfl, rfl, fresh_back s.ex hp, s.notin hp, upd_same, r⟩
/-- a list that was just made is a value -/
theorem ok_of_fresh {a : D} {F' H' : Hp} {μ' : List MA} {S' : Store} (s : SR K T F' μ' S' H') (h : GP K T F' μ' (some (.ok a, S')) (OkV K false Q) er) : OkV K true Q a F' μ' H' S' := fun v hf => by
  obtain ⟨es, p, ws, rfl, rfl, hF, hm, hH, r⟩ := hf
  exact h (upd F' p (.lst ws)) μ' H' (Ex.new hF) (List.prefix_refl _) (s.freeze hF hm hH) _ (.lst upd_same (r.mono (Ex.new hF) (List.prefix_refl _)))
theorem gp_freeze {r : Out D} (h : GP K T F μ r (OkV K false Q) er) : GP K T F μ r (OkV K true Q) er := by
  match r, h with
  | some (.ok a, S), h => exact fun F' μ' H' e p s => ok_of_fresh s (GP.mono h e p)
  | some (.error x, S), h => exact h
end

section
variable {T : List (Addr × Str)} {X : Cx} {W : WX} {fr : Bool}
theorem RE.frozen {e : Expr} {c : EX} (h : RE T true X W e c) : RE T false X W e c := by
  obtain ⟨t, p, f⟩ := h
  exact ⟨t, p, fun σ ρ F μ S H Q s hE g => f σ ρ F μ S H Q s hE (gp_freeze g)⟩
/-- a new list becomes a list of the store -/
def cAlloc (c : EX) : EX := fun ρ S => bindO (c ρ S) fun d S => match d with
  | .lst ds => if D.pures ds = true then some (.ok (.loc S.length), S ++ [ds]) else none
  | _ => none
theorem RE.alloc {e : Expr} {c : EX} (h : RE T true X W e c) : RE T false X W e (cAlloc c) := by
  obtain ⟨t, p, f⟩ := h
  refine ⟨t, p, fun σ ρ F μ S H Q s hE g => f σ ρ F μ S H Q s hE (GP.seq g fun d F' μ' H' S' e p s' q v hf => ?_)⟩
  obtain ⟨ds, a, vs, rfl, rfl, hF, hm, hH, r⟩ := hf
  dsimp only at q
  split at q
  · rename_i hp
    exact q F' (μ' ++ [⟨a, .lst⟩]) H' (Ex.refl _) (List.prefix_append _ _) (s'.alloc hF hm hH r hp) _ (.loc (by rw [← s'.len, List.getElem?_append_right (Nat.le_refl _)]; simp))
  · exact q.elim
/-- what was allocated meanwhile is forgotten -/
def cScope (c : EX) : EX := fun ρ S => match c ρ S with
  | none => none
  | some (.ok d, S') => if d.pure = true then some (.ok d, S'.take S.length) else none
  | some (.error x, S') => if D.pures (x.fields.map (·.2)) = true then some (.error x, S'.take S.length) else none
theorem take_pre {μ μ' : List MA} {S : Store} {K : PySem.W.Frag} {F H : Hp} (s : SR K T F μ S H) (p : μ <+: μ') : μ'.take S.length = μ := by
  obtain ⟨t, rfl⟩ := p
  rw [← s.len]; simp
theorem RE.scope {e : Expr} {c : EX} (h : RE T false X W e c) : RE T false X W e (cScope c) := by
  obtain ⟨t, p, f⟩ := h
  refine ⟨t, p, fun σ ρ F μ S H Q s hE g => f σ ρ F μ S H Q s hE ?_⟩
  unfold cScope at g
  match hc : c ρ S with
  | none => rw [hc] at g; exact g
  | some (.ok d, S') =>
    rw [hc] at g
    dsimp only at g
    split at g
    · rename_i hp
      intro F' μ' H' e p s' v r
      have s2 := s'.cut S.length
      rw [take_pre s p] at s2
      exact g F' μ H' e (List.prefix_refl _) s2 v (Rep.free r hp)
    · exact g.elim
  | some (.error x, S') =>
    rw [hc] at g
    dsimp only at g
    split at g
    · rename_i hp
      intro F' μ' H' e p s' cls dd r
      have s2 := s'.cut S.length
      rw [take_pre s p] at s2
      obtain ⟨C, h1, h2, h3⟩ := r
      refine g F' μ H' e (List.prefix_refl _) s2 cls dd ⟨C, h1, h2, h3.imp id fun ⟨d, vs, a1, a2, a3⟩ => ⟨d, vs, a1, a2.free hp, a3⟩⟩
    · exact g.elim

/-! ### names, constants -/
def cVar (i : Nat) : EX := fun ρ S => match ρ[i]? with
  | some (some d) => some (.ok d, S)
  | _ => none
theorem re_var {i : Nat} {x : Str} {pos : Pos} (hN : X.N[i]? = some x := by rfl) (hv : Vis X.env.scope x := by first | exact Or.inl rfl | exact Or.inr (Or.inl rfl) | exact Or.inr (Or.inr rfl)) (hd : (x == ("__debug__" : Str)) = false := by decide)
    (hcd : (x == ("__classdict__" : Str)) = false := by decide) : RE T false X W (.Name x pos) (cVar i) := by
  refine ⟨_, pe_var hN hv hd hcd, fun σ ρ F μ S H Q s hE g => ?_⟩
  unfold cVar at g
  split at g
  · rename_i d hd
    obtain ⟨v, h1, h2⟩ := hE.2 i d hd
    exact ⟨v, h1, gp_val g s h2⟩
  · exact g.elim
def cK (d : D) : EX := fun _ S => some (.ok d, S)
theorem re_int {i : Int} {j pos} : RE T false X W (.Constant (.int i) j pos) (cK (.int i)) := ⟨_, pe_int, fun σ ρ F μ S H Q s hE g => gp_val g s (.int i)⟩
theorem re_bl {b : Bool} {j pos} : RE T false X W (.Constant (.bool b) j pos) (cK (.bl b)) := ⟨_, pe_bl, fun σ ρ F μ S H Q s hE g => gp_val g s (.bl b)⟩
theorem re_non {j pos} : RE T false X W (.Constant .none j pos) (cK .non) := ⟨_, pe_non, fun σ ρ F μ S H Q s hE g => gp_val g s .non⟩
theorem re_str {x : Str} {j pos} : RE T false X W (.Constant (.str x) j pos) (cK (.str x)) := ⟨_, pe_str, fun σ ρ F μ S H Q s hE g => gp_val g s (.str x)⟩
/-- a module's constant: k says that K's value of the name is the datum -/
def GlobK (K : PySem.W.Frag) (mg : Str → Option Value) (x : Str) (d : D) : Prop := ∃ u v, mg x = some u ∧ RelV v u ∧ ∀ F μ, Rep K F μ d v
theorem re_glob {x : Str} {d : D} {pos : Pos} (k : GlobK X.K X.mg x d) (hg : Gl X x := by rfl) (hd : (x == ("__debug__" : Str)) = false := by decide) : RE T false X W (.Name x pos) (cK d) := by
  obtain ⟨u, v, h1, h2, h3⟩ := k
  exact ⟨_, pe_glob hg h1 h2 hd, fun σ ρ F μ S H Q s hE g => gp_val g s (h3 F μ)⟩

/-! ### operators -/
abbrev Op2 := D → D → Store → Out D
def OpOk (X : Cx) (T : List (Addr × Str)) (fr : Bool) (r : R2) (o : Op2) : Prop := ∀ F μ S H x y v u Q er, SR X.K T F μ S H → Rep X.K F μ x v → Rep X.K F μ y u → GP X.K T F μ (o x y S) (OkV X.K fr Q) er → r v u H Q
def cBin (o : Op2) (a b : EX) : EX := fun ρ S => bindO (a ρ S) fun x S => bindO (b ρ S) fun y S => o x y S
theorem two {e1 e2 : Expr} {a b : EX} {ta tb : TE} {r : R2} {o : Op2}
    (fa : ∀ σ ρ F μ S H Q, SR X.K T F μ S H → EnvR X.K F μ ρ σ → GP X.K T F μ (a ρ S) (OkV X.K false Q) (ErW X.K X.mg fun cls dd H' => W cls dd σ H') → ta σ H Q)
    (fb : ∀ σ ρ F μ S H Q, SR X.K T F μ S H → EnvR X.K F μ ρ σ → GP X.K T F μ (b ρ S) (OkV X.K false Q) (ErW X.K X.mg fun cls dd H' => W cls dd σ H') → tb σ H Q)
    (ho : OpOk X T fr r o) {σ ρ F μ S H Q} (s : SR X.K T F μ S H) (hE : EnvR X.K F μ ρ σ) (g : GP X.K T F μ (cBin o a b ρ S) (OkV X.K fr Q) (ErW X.K X.mg fun cls dd H' => W cls dd σ H')) :
    ta σ H fun x H1 => tb σ H1 fun y H2 => r x y H2 Q := by
  refine fa σ ρ F μ S H _ s hE (GP.seq g fun x F1 μ1 H1 S1 e1 p1 s1 g1 v rx => ?_)
  refine fb σ ρ F1 μ1 S1 H1 _ s1 (hE.mono e1 p1) (GP.seq g1 fun y F2 μ2 H2 S2 e2 p2 s2 g2 u ry => ?_)
  exact ho F2 μ2 S2 H2 x y v u Q _ s2 (Rep.mono e2 p2 rx) ry g2
theorem re_bin {op : Operator} {r : R2} {o : Op2} {e1 e2 : Expr} {a b : EX} {pos : Pos} (hr : OpR X (binaryOp op) r) (ho : OpOk X T fr r o) (ha : RE T false X W e1 a) (hb : RE T false X W e2 b) : RE T fr X W (.BinOp e1 op e2 pos) (cBin o a b) := by
  obtain ⟨ta, pa, fa⟩ := ha
  obtain ⟨tb, pb, fb⟩ := hb
  exact ⟨_, pe_op hr pa pb, fun σ ρ F μ S H Q s hE g => two (e1 := e1) (e2 := e2) fa fb ho s hE g⟩
theorem re_cmp {op : CmpOp} {r : R2} {o : Op2} {e1 e2 : Expr} {a b : EX} {pos : Pos} (hr : OpR X (compareOp op) r) (ho : OpOk X T false r o) (ha : RE T false X W e1 a) (hb : RE T false X W e2 b) (hm : behindInMarks op e2 = false) : RE T false X W (.Compare e1 [op] [e2] pos) (cBin o a b) := by
  obtain ⟨ta, pa, fa⟩ := ha
  obtain ⟨tb, pb, fb⟩ := hb
  exact ⟨_, pe_cmpR hr pa pb hm, fun σ ρ F μ S H Q s hE g => two (e1 := e1) (e2 := e2) fa fb ho s hE g⟩
/-- a value as a test -/
def cTest (c : EX) : BX := fun ρ S => bindO (c ρ S) fun d S => match d with
  | .bl b => some (.ok b, S)
  | _ => none
theorem testV {t : TE} {c : EX} {σ ρ F μ S H} {Q : Bool → Hp → Prop} (f : ∀ σ ρ F μ S H Q, SR X.K T F μ S H → EnvR X.K F μ ρ σ → GP X.K T F μ (c ρ S) (OkV X.K false Q) (ErW X.K X.mg fun cls dd H' => W cls dd σ H') → t σ H Q)
    (s : SR X.K T F μ S H) (hE : EnvR X.K F μ ρ σ) (g : GP X.K T F μ (cTest c ρ S) (fun b _ _ H' _ => Q b H') (ErW X.K X.mg fun cls dd H' => W cls dd σ H')) : t σ H fun x H' => ∃ k, x = .bl k ∧ Q k H' := by
  refine f σ ρ F μ S H _ s hE (GP.seq g fun x F1 μ1 H1 S1 e1 p1 s1 g1 v rx => ?_)
  cases rx with
  | bl b => exact ⟨b, rfl, GP.here g1 s1⟩
  | _ => exact g1.elim
theorem rt_cmp {op : CmpOp} {r : R2} {o : Op2} {e1 e2 : Expr} {a b : EX} {pos : Pos} (hr : OpR X (compareOp op) r) (ho : OpOk X T false r o) (ha : RE T false X W e1 a) (hb : RE T false X W e2 b) (hm : behindInMarks op e2 = false) : RT T X W (.Compare e1 [op] [e2] pos) (cTest (cBin o a b)) := by
  obtain ⟨ta, pa, fa⟩ := ha
  obtain ⟨tb, pb, fb⟩ := hb
  exact ⟨_, pt_cmpR hr pa pb hm, fun σ ρ F μ S H Q s hE g => testV (fun σ ρ F μ S H Q s hE g => two (e1 := e1) (e2 := e2) fa fb ho s hE g) s hE g⟩
theorem rt_val {e : Expr} {c : EX} (h : RE T false X W e c) (he : ∀ whole, isTrue e X.env whole = (do let v ← whole; standAt e.pos; holding [v] (truthy v)) := by intro _; rfl) : RT T X W e (cTest c) := by
  obtain ⟨t, p, f⟩ := h
  exact ⟨_, pt_val p he, fun σ ρ F μ S H Q s hE g => testV f s hE g⟩
/-- a < b < c -/
def cChain (o o' : Op2) (a b c : EX) : EX := fun ρ S => bindO (a ρ S) fun x S => bindO (b ρ S) fun y S => bindO (o x y S) fun z S => match z with
  | .bl true => bindO (c ρ S) fun w S => o' y w S
  | .bl false => some (.ok (.bl false), S)
  | _ => none
theorem chain3 {a b c : EX} {ta tb tc : TE} {r r' : R2} {o o' : Op2}
    (fa : ∀ σ ρ F μ S H Q, SR X.K T F μ S H → EnvR X.K F μ ρ σ → GP X.K T F μ (a ρ S) (OkV X.K false Q) (ErW X.K X.mg fun cls dd H' => W cls dd σ H') → ta σ H Q)
    (fb : ∀ σ ρ F μ S H Q, SR X.K T F μ S H → EnvR X.K F μ ρ σ → GP X.K T F μ (b ρ S) (OkV X.K false Q) (ErW X.K X.mg fun cls dd H' => W cls dd σ H') → tb σ H Q)
    (fc : ∀ σ ρ F μ S H Q, SR X.K T F μ S H → EnvR X.K F μ ρ σ → GP X.K T F μ (c ρ S) (OkV X.K false Q) (ErW X.K X.mg fun cls dd H' => W cls dd σ H') → tc σ H Q)
    (ho : OpOk X T false r o) (ho' : OpOk X T false r' o') {σ ρ F μ S H Q} (s : SR X.K T F μ S H) (hE : EnvR X.K F μ ρ σ) (g : GP X.K T F μ (cChain o o' a b c ρ S) (OkV X.K false Q) (ErW X.K X.mg fun cls dd H' => W cls dd σ H')) :
    tChain r r' ta tb tc σ H Q := by
  refine fa σ ρ F μ S H _ s hE (GP.seq g fun x F1 μ1 H1 S1 e1 p1 s1 g1 v rx => ?_)
  refine fb σ ρ F1 μ1 S1 H1 _ s1 (hE.mono e1 p1) (GP.seq g1 fun y F2 μ2 H2 S2 e2 p2 s2 g2 u ry => ?_)
  refine ho F2 μ2 S2 H2 x y v u _ _ s2 (Rep.mono e2 p2 rx) ry (GP.seq g2 fun z F3 μ3 H3 S3 e3 p3 s3 g3 w rz => ?_)
  cases rz with
  | bl k =>
    refine ⟨k, rfl, ?_⟩
    cases k with
    | true =>
      rw [if_pos rfl]
      refine fc σ ρ F3 μ3 S3 H3 _ s3 (((hE.mono e1 p1).mono e2 p2).mono e3 p3) (GP.seq g3 fun q F4 μ4 H4 S4 e4 p4 s4 g4 w' rw' => ?_)
      exact ho' F4 μ4 S4 H4 y q u w' Q _ s4 (Rep.mono e4 p4 (Rep.mono e3 p3 ry)) rw' g4
    | false =>
      rw [if_neg Bool.false_ne_true]
      exact gp_val g3 s3 (.bl false)
  | _ => exact g3.elim
theorem re_chain {op op' : CmpOp} {r r' : R2} {o o' : Op2} {e1 e2 e3 : Expr} {a b c : EX} {pos : Pos} (hr : OpR X (compareOp op) r) (hr' : OpR X (compareOp op') r') (ho : OpOk X T false r o) (ho' : OpOk X T false r' o')
    (ha : RE T false X W e1 a) (hb : RE T false X W e2 b) (hc : RE T false X W e3 c) (hm : lastMarks [op, op'] [e2, e3] = false := by with_unfolding_all rfl) : RE T false X W (.Compare e1 [op, op'] [e2, e3] pos) (cChain o o' a b c) := by
  obtain ⟨ta, pa, fa⟩ := ha
  obtain ⟨tb, pb, fb⟩ := hb
  obtain ⟨tc, pc, fc⟩ := hc
  exact ⟨_, pe_chain hr hr' pa pb pc hm, fun σ ρ F μ S H Q s hE g => chain3 fa fb fc ho ho' s hE g⟩
theorem rt_chain {op op' : CmpOp} {r r' : R2} {o o' : Op2} {e1 e2 e3 : Expr} {a b c : EX} {pos : Pos} (hr : OpR X (compareOp op) r) (hr' : OpR X (compareOp op') r') (ho : OpOk X T false r o) (ho' : OpOk X T false r' o')
    (ha : RE T false X W e1 a) (hb : RE T false X W e2 b) (hc : RE T false X W e3 c) (hm : lastMarks [op, op'] [e2, e3] = false := by with_unfolding_all rfl) : RT T X W (.Compare e1 [op, op'] [e2, e3] pos) (cTest (cChain o o' a b c)) := by
  obtain ⟨ta, pa, fa⟩ := ha
  obtain ⟨tb, pb, fb⟩ := hb
  obtain ⟨tc, pc, fc⟩ := hc
  exact ⟨_, pt_chain hr hr' pa pb pc hm, fun σ ρ F μ S H Q s hE g => testV (fun σ ρ F μ S H Q s hE g => chain3 fa fb fc ho ho' s hE g) s hE g⟩

/-! ### and, or, not -/
def bAnd (a b : BX) : BX := fun ρ S => bindO (a ρ S) fun x S => match x with
  | true => b ρ S
  | false => some (.ok false, S)
def bOr (a b : BX) : BX := fun ρ S => bindO (a ρ S) fun x S => match x with
  | true => some (.ok true, S)
  | false => b ρ S
def bNot (a : BX) : BX := fun ρ S => bindO (a ρ S) fun x S => some (.ok (!x), S)
theorem rw_and1 {e : Expr} {c : BX} {pos : Pos} (h : RT T X W e c) : RW T X W (.BoolOp .And [e] pos) c := let ⟨t, p, f⟩ := h; ⟨t, pw_and1 p, f⟩
theorem rw_or1 {e : Expr} {c : BX} {pos : Pos} (h : RT T X W e c) : RW T X W (.BoolOp .Or [e] pos) c := let ⟨t, p, f⟩ := h; ⟨t, pw_or1 p, f⟩
theorem rw_and {e e2 : Expr} {es : List Expr} {a b : BX} {pos : Pos} (h : RT T X W e a) (h2 : RW T X W (.BoolOp .And (e2 :: es) pos) b) : RW T X W (.BoolOp .And (e :: e2 :: es) pos) (bAnd a b) := by
  obtain ⟨ta, pa, fa⟩ := h
  obtain ⟨tb, pb, fb⟩ := h2
  refine ⟨_, pw_and pa pb, fun σ ρ F μ S H Q s hE g => ?_⟩
  refine fa σ ρ F μ S H _ s hE (GP.seq g fun x F1 μ1 H1 S1 e1 p1 s1 g1 => ?_)
  cases x with
  | true => rw [if_pos rfl]; exact fb σ ρ F1 μ1 S1 H1 Q s1 (hE.mono e1 p1) g1
  | false => rw [if_neg Bool.false_ne_true]; exact GP.here g1 s1
theorem rw_or {e e2 : Expr} {es : List Expr} {a b : BX} {pos : Pos} (h : RT T X W e a) (h2 : RW T X W (.BoolOp .Or (e2 :: es) pos) b) : RW T X W (.BoolOp .Or (e :: e2 :: es) pos) (bOr a b) := by
  obtain ⟨ta, pa, fa⟩ := h
  obtain ⟨tb, pb, fb⟩ := h2
  refine ⟨_, pw_or pa pb, fun σ ρ F μ S H Q s hE g => ?_⟩
  refine fa σ ρ F μ S H _ s hE (GP.seq g fun x F1 μ1 H1 S1 e1 p1 s1 g1 => ?_)
  cases x with
  | true => rw [if_pos rfl]; exact GP.here g1 s1
  | false => rw [if_neg Bool.false_ne_true]; exact fb σ ρ F1 μ1 S1 H1 Q s1 (hE.mono e1 p1) g1
theorem RW.t {e : Expr} {c : BX} (h : RW T X W e c) : RT T X W e c := let ⟨t, p, f⟩ := h; ⟨t, p.pt, f⟩
theorem rt_not {e : Expr} {c : BX} {pos : Pos} (h : RT T X W e c) : RT T X W (.UnaryOp .Not e pos) (bNot c) := by
  obtain ⟨ta, pa, fa⟩ := h
  refine ⟨_, pt_not pa, fun σ ρ F μ S H Q s hE g => ?_⟩
  exact fa σ ρ F μ S H _ s hE (GP.seq g fun x F1 μ1 H1 S1 e1 p1 s1 g1 => GP.here g1 s1)
/-- as values: the first ones are bools -/
def cAnd (a b : EX) : EX := fun ρ S => bindO (a ρ S) fun x S => match x with
  | .bl true => b ρ S
  | .bl false => some (.ok (.bl false), S)
  | _ => none
def cOr (a b : EX) : EX := fun ρ S => bindO (a ρ S) fun x S => match x with
  | .bl true => some (.ok (.bl true), S)
  | .bl false => b ρ S
  | _ => none
def cNot (a : EX) : EX := fun ρ S => bindO (a ρ S) fun x S => match x with
  | .bl b => some (.ok (.bl (!b)), S)
  | _ => none
theorem re_one {e : Expr} {c : EX} {op} {pos : Pos} (h : RE T false X W e c) : RE T false X W (.BoolOp op [e] pos) c := let ⟨t, p, f⟩ := h; ⟨t, pe_one p, f⟩
theorem re_and {e e2 : Expr} {es : List Expr} {a b : EX} {pos : Pos} (h : RE T false X W e a) (h2 : RE T false X W (.BoolOp .And (e2 :: es) pos) b) : RE T false X W (.BoolOp .And (e :: e2 :: es) pos) (cAnd a b) := by
  obtain ⟨ta, pa, fa⟩ := h
  obtain ⟨tb, pb, fb⟩ := h2
  refine ⟨_, pe_and pa pb, fun σ ρ F μ S H Q s hE g => ?_⟩
  refine fa σ ρ F μ S H _ s hE (GP.seq g fun x F1 μ1 H1 S1 e1 p1 s1 g1 v rv => ?_)
  cases rv with
  | bl k =>
    refine ⟨k, rfl, ?_⟩
    cases k with
    | true => rw [if_pos rfl]; exact fb σ ρ F1 μ1 S1 H1 Q s1 (hE.mono e1 p1) g1
    | false => rw [if_neg Bool.false_ne_true]; exact gp_val g1 s1 (.bl false)
  | _ => exact g1.elim
theorem re_or {e e2 : Expr} {es : List Expr} {a b : EX} {pos : Pos} (h : RE T false X W e a) (h2 : RE T false X W (.BoolOp .Or (e2 :: es) pos) b) : RE T false X W (.BoolOp .Or (e :: e2 :: es) pos) (cOr a b) := by
  obtain ⟨ta, pa, fa⟩ := h
  obtain ⟨tb, pb, fb⟩ := h2
  refine ⟨_, pe_or pa pb, fun σ ρ F μ S H Q s hE g => ?_⟩
  refine fa σ ρ F μ S H _ s hE (GP.seq g fun x F1 μ1 H1 S1 e1 p1 s1 g1 v rv => ?_)
  cases rv with
  | bl k =>
    refine ⟨k, rfl, ?_⟩
    cases k with
    | true => rw [if_pos rfl]; exact gp_val g1 s1 (.bl true)
    | false => rw [if_neg Bool.false_ne_true]; exact fb σ ρ F1 μ1 S1 H1 Q s1 (hE.mono e1 p1) g1
  | _ => exact g1.elim
theorem re_not {e : Expr} {c : EX} {pos : Pos} (h : RE T false X W e c) : RE T false X W (.UnaryOp .Not e pos) (cNot c) := by
  obtain ⟨ta, pa, fa⟩ := h
  refine ⟨_, pe_not pa, fun σ ρ F μ S H Q s hE g => ?_⟩
  refine fa σ ρ F μ S H _ s hE (GP.seq g fun x F1 μ1 H1 S1 e1 p1 s1 g1 v rv => ?_)
  cases rv with
  | bl k => exact ⟨k, rfl, gp_val g1 s1 (.bl _)⟩
  | _ => exact g1.elim
def cIfE (c : BX) (a b : EX) : EX := fun ρ S => bindO (c ρ S) fun x S => match x with
  | true => a ρ S
  | false => b ρ S
theorem re_if {t e1 e2 : Expr} {c : BX} {a b : EX} {pos : Pos} (h : RT T X W t c) (ha : RE T fr X W e1 a) (hb : RE T fr X W e2 b) : RE T fr X W (.IfExp t e1 e2 pos) (cIfE c a b) := by
  obtain ⟨tc, pc, fc⟩ := h
  obtain ⟨ta, pa, fa⟩ := ha
  obtain ⟨tb, pb, fb⟩ := hb
  refine ⟨_, pe_ifExp pc pa pb, fun σ ρ F μ S H Q s hE g => ?_⟩
  refine fc σ ρ F μ S H _ s hE (GP.seq g fun x F1 μ1 H1 S1 e1 p1 s1 g1 => ?_)
  cases x with
  | true => rw [if_pos rfl]; exact fa σ ρ F1 μ1 S1 H1 Q s1 (hE.mono e1 p1) g1
  | false => rw [if_neg Bool.false_ne_true]; exact fb σ ρ F1 μ1 S1 H1 Q s1 (hE.mono e1 p1) g1
/-- -a -/
def oNeg : D → Store → Out D
  | .int i, S => some (.ok (.int (-i)), S)
  | _, _ => none
def cUn (o : D → Store → Out D) (a : EX) : EX := fun ρ S => bindO (a ρ S) fun x S => o x S
theorem re_neg {e : Expr} {c : EX} {pos : Pos} (h : RE T false X W e c) : RE T false X W (.UnaryOp .USub e pos) (cUn oNeg c) := by
  obtain ⟨ta, pa, fa⟩ := h
  refine ⟨_, pe_un un_neg pa, fun σ ρ F μ S H Q s hE g => ?_⟩
  refine fa σ ρ F μ S H _ s hE (GP.seq g fun x F1 μ1 H1 S1 e1 p1 s1 g1 v rv => ?_)
  cases rv with
  | int i => exact ⟨i, rfl, gp_val g1 s1 (.int _)⟩
  | _ => exact g1.elim

/-! ### argument lists, displays -/
def aNil : AX := fun _ S => some (.ok [], S)
def aCons (a : EX) (r : AX) : AX := fun ρ S => bindO (a ρ S) fun x S => bindO (r ρ S) fun xs S => some (.ok (x :: xs), S)
theorem ra_nil : RA T X W [] aNil := ⟨_, pa_nil, fun σ ρ F μ S H Q s hE g => GP.here g s [] .nil⟩
theorem acons {a : EX} {r : AX} {ta : TE} {tr : TA}
    (fa : ∀ σ ρ F μ S H Q, SR X.K T F μ S H → EnvR X.K F μ ρ σ → GP X.K T F μ (a ρ S) (OkV X.K false Q) (ErW X.K X.mg fun cls dd H' => W cls dd σ H') → ta σ H Q)
    (fr : ∀ σ ρ F μ S H Q, SR X.K T F μ S H → EnvR X.K F μ ρ σ → GP X.K T F μ (r ρ S) (OkA X.K Q) (ErW X.K X.mg fun cls dd H' => W cls dd σ H') → tr σ H Q)
    {σ ρ F μ S H Q} (s : SR X.K T F μ S H) (hE : EnvR X.K F μ ρ σ) (g : GP X.K T F μ (aCons a r ρ S) (OkA X.K Q) (ErW X.K X.mg fun cls dd H' => W cls dd σ H')) : tCons ta tr σ H Q := by
  refine fa σ ρ F μ S H _ s hE (GP.seq g fun x F1 μ1 H1 S1 e1 p1 s1 g1 v rx => ?_)
  refine fr σ ρ F1 μ1 S1 H1 _ s1 (hE.mono e1 p1) (GP.seq g1 fun xs F2 μ2 H2 S2 e2 p2 s2 g2 vs rs => ?_)
  exact GP.here g2 s2 _ (.cons (Rep.mono e2 p2 rx) rs)
theorem ra_cons {e : Expr} {es : List Expr} {a : EX} {r : AX} (h : RE T false X W e a) (hr : RA T X W es r) (hs : starEach (e :: es) X.env = (false, eval e X.env) :: starEach es X.env := by rfl) : RA T X W (e :: es) (aCons a r) := by
  obtain ⟨ta, pa, fa⟩ := h
  obtain ⟨tr, pr, fr⟩ := hr
  exact ⟨_, pa_cons pa pr hs, fun σ ρ F μ S H Q s hE g => acons fa fr s hE g⟩
theorem rk_nil : RK T X W [] aNil := ⟨_, pk_nil, fun σ ρ F μ S H Q s hE g => GP.here g s [] .nil⟩
theorem rk_cons {e : Expr} {nm : Option Str} {kpos : Pos} {es : List Keyword} {a : EX} {r : AX} (h : RE T false X W e a) (hr : RK T X W es r) : RK T X W (⟨nm, e, kpos⟩ :: es) (aCons a r) := by
  obtain ⟨ta, pa, fa⟩ := h
  obtain ⟨tr, pr, fr⟩ := hr
  exact ⟨_, pk_cons pa pr, fun σ ρ F μ S H Q s hE g => acons fa fr s hE g⟩
/-- sizes that are let -/
abbrev lim : Nat := 1000000
theorem lim_ok {n : Nat} (h : n ≤ lim) : n ≤ sizeLine := Nat.le_trans h (by decide)
def cTup (r : AX) : EX := fun ρ S => bindO (r ρ S) fun xs S => if xs.length ≤ lim then some (.ok (.tup xs), S) else none
def cLst (r : AX) : EX := fun ρ S => bindO (r ρ S) fun xs S => if xs.length ≤ lim then some (.ok (.lst xs), S) else none
theorem re_tup {es : List Expr} {x1 : Nat} {pos : Pos} {r : AX} (h : RA T X W es r) : RE T false X W (.Tuple es x1 pos) (cTup r) := by
  obtain ⟨t, p, f⟩ := h
  refine ⟨_, pe_tup p, fun σ ρ F μ S H Q s hE g => ?_⟩
  refine f σ ρ F μ S H _ s hE (GP.seq g fun xs F1 μ1 H1 S1 e1 p1 s1 g1 vs rs => ?_)
  split at g1
  · rename_i hz
    exact ⟨by rw [← rs.length]; exact lim_ok hz, gp_tup g1 s1 rs⟩
  · exact g1.elim
theorem re_lst {es : List Expr} {pos : Pos} {r : AX} (h : RA T X W es r) : RE T true X W (.List es pos) (cLst r) := by
  obtain ⟨t, p, f⟩ := h
  refine ⟨_, pe_lst p, fun σ ρ F μ S H Q s hE g => ?_⟩
  refine f σ ρ F μ S H _ s hE (GP.seq g fun xs F1 μ1 H1 S1 e1 p1 s1 g1 vs rs => ?_)
  split at g1
  · rename_i hz
    exact ⟨by rw [← rs.length]; exact lim_ok hz, gp_lst g1 s1 rs⟩
  · exact g1.elim
end
end PF
set_option Elab.async false
set_option linter.all false
set_option maxRecDepth 100000
set_option maxHeartbeats 4000000
/-! PF3: operators by data, indexes, slices, built-in functions. -/
namespace PF
open PySem L2 Evl
/-! ### sequences -/
def asL : D → Store → Option (List D)
  | .lst xs, _ => some xs
  | .loc n, S => S[n]?
  | .fz xs, _ => some xs
  | _, _ => none
def asT : D → Option (List D)
  | .tup xs => some xs
  | _ => none
def asS : D → Store → Option (List D)
  | .tup xs, _ => some xs
  | d, S => asL d S
section
variable {K : PySem.W.Frag} {T : List (Addr × Str)} {F H : Hp} {μ : List MA} {S : Store} {d : D} {v : V} {ds : List D}
theorem asL_ok (s : SR K T F μ S H) (r : Rep K F μ d v) (h : asL d S = some ds) : ∃ a vs, v = .ref a ∧ SqL K H a vs ∧ Reps K F μ ds vs := by
  cases r with
  | lst hq rs => simp [asL] at h; subst h; exact ⟨_, _, rfl, sq_of (s.ex _ _ hq), rs⟩
  | fz hq rs => simp [asL] at h; subst h; exact ⟨_, _, rfl, s.sqL hq, rs⟩
  | loc hm =>
    simp [asL] at h
    obtain ⟨es, vs, h1, h2, h3, _⟩ := s.get hm
    rw [h1] at h; cases h
    exact ⟨_, vs, rfl, sq_of h2, h3⟩
  | _ => simp [asL] at h
theorem asT_ok (s : SR K T F μ S H) (r : Rep K F μ d v) (h : asT d = some ds) : ∃ a vs, v = .ref a ∧ SqT K H a vs ∧ Reps K F μ ds vs := by
  cases r with
  | tup hq rs => simp [asT] at h; subst h; exact ⟨_, _, rfl, s.sqT hq, rs⟩
  | _ => simp [asT] at h
theorem asS_ok (s : SR K T F μ S H) (r : Rep K F μ d v) (h : asS d S = some ds) : ∃ a vs, v = .ref a ∧ (SqL K H a vs ∨ SqT K H a vs) ∧ Reps K F μ ds vs := by
  cases r with
  | tup hq rs => simp [asS] at h; subst h; exact ⟨_, _, rfl, .inr (s.sqT hq), rs⟩
  | lst hq rs =>
    obtain ⟨a, vs, h1, h2, h3⟩ := asL_ok s (.lst hq rs) (ds := ds) (by simpa [asS] using h)
    exact ⟨a, vs, h1, .inl h2, h3⟩
  | fz hq rs =>
    obtain ⟨a, vs, h1, h2, h3⟩ := asL_ok s (.fz hq rs) (ds := ds) (by simpa [asS] using h)
    exact ⟨a, vs, h1, .inl h2, h3⟩
  | loc hm =>
    obtain ⟨a, vs, h1, h2, h3⟩ := asL_ok s (.loc hm) (ds := ds) (by simpa [asS] using h)
    exact ⟨a, vs, h1, .inl h2, h3⟩
  | _ => simp [asS, asL] at h
end
section
variable {X : Cx} {T : List (Addr × Str)}
/-! ### numbers -/
def oI (C : Int → Int → Bool) (g : Int → Int → D) : Op2 := fun x y S => match x, y with
  | .int i, .int j => if C i j = true then some (.ok (g i j), S) else none
  | _, _ => none
theorem oI_ok {C : Int → Int → Bool} {P : Int → Int → Prop} {g : Int → Int → V} {g' : Int → Int → D} (hC : ∀ i j, C i j = true → P i j) (hg : ∀ K F μ i j, Rep K F μ (g' i j) (g i j)) : OpOk X T false (rI P g) (oI C g') := by
  intro F μ S H x y v u Q er s rx ry h
  unfold oI at h
  cases rx with
  | int i =>
    cases ry with
    | int j =>
      dsimp only at h
      split at h
      · rename_i hc
        exact ⟨i, j, rfl, rfl, hC i j hc, gp_val h s (hg _ _ _ i j)⟩
      · exact h.elim
    | _ => exact h.elim
  | _ => exact h.elim
theorem oI0_ok {g : Int → Int → V} {g' : Int → Int → D} (hg : ∀ K F μ i j, Rep K F μ (g' i j) (g i j)) : OpOk X T false (rI0 g) (oI (fun _ _ => true) g') := by
  intro F μ S H x y v u Q er s rx ry h
  unfold oI at h
  cases rx with
  | int i =>
    cases ry with
    | int j => exact ⟨i, j, rfl, rfl, gp_val h s (hg _ _ _ i j)⟩
    | _ => exact h.elim
  | _ => exact h.elim
abbrev lim64 : Nat := 18446744073709551616
def oSub : Op2 := oI (fun _ _ => true) fun i j => .int (i - j)
theorem oSub_ok : OpOk X T false (rI0 fun i j => .int (i - j)) oSub := oI0_ok fun _ _ _ _ _ => .int _
def oMul : Op2 := oI (fun i j => decide (i.natAbs < lim64 ∨ j.natAbs < lim64)) fun i j => .int (i * j)
theorem oMul_ok : OpOk X T false (rI CMul fun i j => .int (i * j)) oMul := oI_ok (fun i j h => by
  have h := of_decide_eq_true h
  unfold CMul
  unfold lim64 at h
  rcases h with h | h
  · left; omega
  · right; omega) fun _ _ _ _ _ => .int _
def oDiv : Op2 := oI (fun _ j => decide (j ≠ 0 ∧ j.natAbs < 1073741824)) fun i j => .int (i.fdiv j)
theorem oDiv_ok : OpOk X T false (rI CDivN fun i j => .int (i.fdiv j)) oDiv := oI_ok (fun i j h => (of_decide_eq_true h : j ≠ 0 ∧ j.natAbs < 1073741824)) fun _ _ _ _ _ => .int _
def oMod : Op2 := oI (fun _ j => decide (j ≠ 0)) fun i j => .int (i.fmod j)
theorem oMod_ok : OpOk X T false (rI (fun _ j => j ≠ 0) fun i j => .int (i.fmod j)) oMod := oI_ok (fun i j h => of_decide_eq_true h) fun _ _ _ _ _ => .int _
def oPow : Op2 := oI (fun i j => decide (0 ≤ j ∧ j ≤ 1000 ∧ i.natAbs < lim64)) fun i j => .int (i ^ j.toNat)
theorem oPow_ok : OpOk X T false (rI CPow fun i j => .int (i ^ j.toNat)) oPow := oI_ok (fun i j h => by
  have h := of_decide_eq_true h
  unfold lim64 at h
  exact ⟨h.1, by omega, by omega⟩) fun _ _ _ _ _ => .int _
def oLt : Op2 := oI (fun _ _ => true) fun i j => .bl (decide (i < j))
theorem oLt_ok : OpOk X T false (rI0 fun i j => .bl (decide (i < j))) oLt := oI0_ok fun _ _ _ _ _ => .bl _
def oLe : Op2 := oI (fun _ _ => true) fun i j => .bl (decide (i ≤ j))
theorem oLe_ok : OpOk X T false (rI0 fun i j => .bl (decide (i ≤ j))) oLe := oI0_ok fun _ _ _ _ _ => .bl _
def oGt : Op2 := oI (fun _ _ => true) fun i j => .bl (decide (j < i))
theorem oGt_ok : OpOk X T false (rI0 fun i j => .bl (decide (j < i))) oGt := oI0_ok fun _ _ _ _ _ => .bl _
def oGe : Op2 := oI (fun _ _ => true) fun i j => .bl (decide (j ≤ i))
theorem oGe_ok : OpOk X T false (rI0 fun i j => .bl (decide (j ≤ i))) oGe := oI0_ok fun _ _ _ _ _ => .bl _
theorem OpOk.or {fr : Bool} {r r' : R2} {o o' : Op2} {o2 : Op2} (h : OpOk X T fr r o) (h' : OpOk X T fr r' o') (e : ∀ x y S, o2 x y S = o x y S ∨ o2 x y S = o' x y S) : OpOk X T fr (fun x y H Q => r x y H Q ∨ r' x y H Q) o2 := by
  intro F μ S H x y v u Q er s rx ry g
  rcases e x y S with q | q
  · rw [q] at g; exact .inl (h F μ S H x y v u Q er s rx ry g)
  · rw [q] at g; exact .inr (h' F μ S H x y v u Q er s rx ry g)
/-! ### + -/
def oAdd : Op2 := fun x y S => match x, y with
  | .int i, .int j => some (.ok (.int (i + j)), S)
  | .str i, .str j => if i.length + j.length ≤ lim then some (.ok (.str (i ++ j)), S) else none
  | .tup i, .tup j => if i.length + j.length ≤ lim then some (.ok (.tup (i ++ j)), S) else none
  | _, _ => none
def rAdd3 (K : PySem.W.Frag) : R2 := fun x y H Q => (∃ i j, x = .int i ∧ y = .int j ∧ Q (.int (i + j)) H) ∨ (∃ i j, x = .str i ∧ y = .str j ∧ i.length + j.length ≤ sizeLine ∧ Q (.str (i ++ j)) H) ∨ rCatA K x y H Q
theorem op_add3 : OpR X (binaryOp .Add) (rAdd3 X.K) := op_add.or (op_add_str.or op_catA)
theorem oAdd_ok : OpOk X T false (rAdd3 X.K) oAdd := by
  intro F μ S H x y v u Q er s rx ry h
  unfold oAdd at h
  cases rx with
  | int i =>
    cases ry with
    | int j => exact .inl ⟨i, j, rfl, rfl, gp_val h s (.int _)⟩
    | _ => exact h.elim
  | str i =>
    cases ry with
    | str j =>
      dsimp only at h
      split at h
      · rename_i hz
        exact .inr (.inl ⟨i, j, rfl, rfl, lim_ok hz, gp_val h s (.str _)⟩)
      · exact h.elim
    | _ => exact h.elim
  | @tup a xs ds h1 r1 =>
    cases ry with
    | @tup b ys es h2 r2 =>
      dsimp only at h
      split at h
      · rename_i hz
        refine .inr (.inr ⟨a, b, xs, ys, rfl, rfl, s.sqT h1, s.sqT h2, by rw [← r1.length, ← r2.length]; exact lim_ok hz, fun z => ?_, fun _ z => ?_, fun _ _ => gp_tup h s (r1.append r2)⟩)
        · subst z
          have e : ds = [] := by cases r1; rfl
          subst e
          exact gp_val h s (.tup h2 (by simpa using r2))
        · subst z
          have e : es = [] := by cases r2; rfl
          subst e
          exact gp_val h s (.tup h1 (by simpa using r1))
      · exact h.elim
    | _ => exact h.elim
  | _ => exact h.elim
/-- two lists: a new one -/
def asM : D → Store → Option (List D)
  | .lst xs, _ => some xs
  | .loc n, S => S[n]?
  | _, _ => none
theorem asM_ok {K : PySem.W.Frag} {F H : Hp} {μ : List MA} {S : Store} {d : D} {v : V} {ds : List D} (s : SR K T F μ S H) (r : Rep K F μ d v) (h : asM d S = some ds) : ∃ a vs, v = .ref a ∧ H a = some (.lst vs) ∧ Reps K F μ ds vs := by
  cases r with
  | lst hq rs => simp [asM] at h; subst h; exact ⟨_, _, rfl, s.ex _ _ hq, rs⟩
  | loc hm =>
    simp [asM] at h
    obtain ⟨es, vs, h1, h2, h3, _⟩ := s.get hm
    rw [h1] at h; cases h
    exact ⟨_, vs, rfl, h2, h3⟩
  | _ => simp [asM] at h
def oCat : Op2 := fun x y S => match asM x S with
  | some i => (match asM y S with
    | some j => if i.length + j.length ≤ lim then some (.ok (.lst (i ++ j)), S) else none
    | none => none)
  | none => none
theorem oCat_ok : OpOk X T true rCat oCat := by
  intro F μ S H x y v u Q er s rx ry h
  unfold oCat at h
  split at h
  · rename_i i hi
    split at h
    · rename_i j hj
      split at h
      · rename_i hz
        obtain ⟨a, xs, rfl, h1, r1⟩ := asM_ok s rx hi
        obtain ⟨b, ys, rfl, h2, r2⟩ := asM_ok s ry hj
        exact ⟨a, b, xs, ys, rfl, rfl, h1, h2, by rw [← r1.length, ← r2.length]; exact lim_ok hz, gp_lst h s (r1.append r2)⟩
      · exact h.elim
    · exact h.elim
  · exact h.elim
/-- xs * k -/
def oRepL : Op2 := fun x y S => match asM x S, y with
  | some i, .int k => if k ≤ 10000 ∧ -10000 ≤ k ∧ i.length * k.toNat ≤ lim then some (.ok (.lst (List.replicate k.toNat i).flatten), S) else none
  | _, _ => none
theorem Reps.rep {K : PySem.W.Frag} {F : Hp} {μ : List MA} {ds : List D} {vs : List V} (r : Reps K F μ ds vs) : ∀ k : Nat, Reps K F μ (List.replicate k ds).flatten (List.replicate k vs).flatten
  | 0 => .nil
  | k + 1 => by
    rw [List.replicate_succ, List.replicate_succ, List.flatten_cons, List.flatten_cons]
    exact r.append (Reps.rep r k)
theorem oRepL_ok : OpOk X T true rRep oRepL := by
  intro F μ S H x y v u Q er s rx ry h
  unfold oRepL at h
  split at h
  · rename_i i k hi
    split at h
    · rename_i hz
      obtain ⟨a, xs, rfl, h1, r1⟩ := asM_ok s rx hi
      cases ry
      exact ⟨a, k, xs, rfl, rfl, h1, by omega, by omega, by rw [← r1.length]; exact lim_ok hz.2.2, gp_lst h s (r1.rep _)⟩
    · exact h.elim
  · exact h.elim
/-! ### == -/
mutual
def D.eqv : D → D → Bool
  | .non, .non => true
  | .bl a, .bl b => a == b
  | .bl a, .int j => (if a then 1 else 0) == j
  | .int i, .bl b => i == (if b then 1 else 0)
  | .int i, .int j => i == j
  | .str x, .str y => x == y
  | .lst xs, .lst ys => D.eqvs xs ys
  | .tup xs, .tup ys => D.eqvs xs ys
  | .tpn xs, .tpn ys => D.eqvs xs ys
  | .tup xs, .tpn ys => D.eqvs xs ys
  | .tpn xs, .tup ys => D.eqvs xs ys
  | _, _ => false
def D.eqvs : List D → List D → Bool
  | [], [] => true
  | x :: xs, y :: ys => D.eqv x y && D.eqvs xs ys
  | _, _ => false
end
mutual
def D.py : D → PyData
  | .non => .none
  | .bl b => .bool b
  | .int i => .int i
  | .str x => .str x
  | .tup xs => .tuple (D.pys xs)
  | .lst xs => .list (D.pys xs)
  | .loc _ => .none
  | .fz _ => .none
  | .fn _ => .none
  | .tpn xs => .tuple (D.pys xs)
  | .dct _ => .none
  | .ins _ _ _ => .none
  | .dks _ _ => .none
  | .obj _ _ => .none
  | .dkc _ => .none
  | .gfn _ => .none
def D.pys : List D → List PyData
  | [] => []
  | x :: xs => D.py x :: D.pys xs
end
mutual
theorem py_eqv : ∀ (d e : D), d.pure = true → e.pure = true → PyData.eqv d.py e.py = D.eqv d e
  | .tup xs, .tup ys, h, k => by
    rw [D.pure] at h k
    simp only [D.py, PyData.eqv, D.eqv]; exact pys_eqv xs ys h k
  | .lst xs, .lst ys, h, k => by
    rw [D.pure] at h k
    simp only [D.py, PyData.eqv, D.eqv]; exact pys_eqv xs ys h k
  | .non, e, h, k => by cases e <;> simp [D.py, PyData.eqv, D.eqv, D.pure] at k ⊢
  | .bl b, e, h, k => by cases e <;> simp [D.py, PyData.eqv, D.eqv, D.pure] at k ⊢
  | .int b, e, h, k => by cases e <;> simp [D.py, PyData.eqv, D.eqv, D.pure] at k ⊢
  | .str b, e, h, k => by cases e <;> simp [D.py, PyData.eqv, D.eqv, D.pure] at k ⊢
  | .loc n, e, h, k => by simp [D.pure] at h
  | .fz n, e, h, k => by simp [D.pure] at h
  | .fn n, e, h, k => by simp [D.pure] at h
  | .dct n, e, h, k => by simp [D.pure] at h
  | .ins n n2 n3, e, h, k => by simp [D.pure] at h
  | .dks n n2, e, h, k => by simp [D.pure] at h
  | .obj n n2, e, h, k => by simp [D.pure] at h
  | .dkc n, e, h, k => by simp [D.pure] at h
  | .gfn n, e, h, k => by simp [D.pure] at h
  | .tup xs, .dct b, h, k => by simp [D.pure] at k
  | .tup xs, .ins b _ _, h, k => by simp [D.pure] at k
  | .tup xs, .dks b _, h, k => by simp [D.pure] at k
  | .tup xs, .obj b _, h, k => by simp [D.pure] at k
  | .tup xs, .dkc b, h, k => by simp [D.pure] at k
  | .tup xs, .gfn b, h, k => by simp [D.pure] at k
  | .lst xs, .dct b, h, k => by simp [D.pure] at k
  | .lst xs, .ins b _ _, h, k => by simp [D.pure] at k
  | .lst xs, .dks b _, h, k => by simp [D.pure] at k
  | .lst xs, .obj b _, h, k => by simp [D.pure] at k
  | .lst xs, .dkc b, h, k => by simp [D.pure] at k
  | .lst xs, .gfn b, h, k => by simp [D.pure] at k
  | .tpn xs, .dct b, h, k => by simp [D.pure] at k
  | .tpn xs, .ins b _ _, h, k => by simp [D.pure] at k
  | .tpn xs, .dks b _, h, k => by simp [D.pure] at k
  | .tpn xs, .obj b _, h, k => by simp [D.pure] at k
  | .tpn xs, .dkc b, h, k => by simp [D.pure] at k
  | .tpn xs, .gfn b, h, k => by simp [D.pure] at k
  | .tup xs, .fn b, h, k => by simp [D.pure] at k
  | .lst xs, .fn b, h, k => by simp [D.pure] at k
  | .tup xs, .fz b, h, k => by simp [D.pure] at k
  | .lst xs, .fz b, h, k => by simp [D.pure] at k
  | .tup xs, .non, h, k => by simp [D.py, PyData.eqv, D.eqv]
  | .tup xs, .bl b, h, k => by simp [D.py, PyData.eqv, D.eqv]
  | .tup xs, .int b, h, k => by simp [D.py, PyData.eqv, D.eqv]
  | .tup xs, .str b, h, k => by simp [D.py, PyData.eqv, D.eqv]
  | .tup xs, .lst b, h, k => by simp [D.py, PyData.eqv, D.eqv]
  | .tup xs, .loc b, h, k => by simp [D.pure] at k
  | .lst xs, .non, h, k => by simp [D.py, PyData.eqv, D.eqv]
  | .lst xs, .bl b, h, k => by simp [D.py, PyData.eqv, D.eqv]
  | .lst xs, .int b, h, k => by simp [D.py, PyData.eqv, D.eqv]
  | .lst xs, .str b, h, k => by simp [D.py, PyData.eqv, D.eqv]
  | .lst xs, .tup b, h, k => by simp [D.py, PyData.eqv, D.eqv]
  | .lst xs, .loc b, h, k => by simp [D.pure] at k
  | .tpn xs, .tpn ys, h, k => by
    rw [D.pure] at h k
    simp only [D.py, PyData.eqv, D.eqv]; exact pys_eqv xs ys h k
  | .tup xs, .tpn ys, h, k => by
    rw [D.pure] at h
    rw [D.pure] at k
    simp only [D.py, PyData.eqv, D.eqv]; exact pys_eqv xs ys h k
  | .tpn xs, .tup ys, h, k => by
    rw [D.pure] at h
    rw [D.pure] at k
    simp only [D.py, PyData.eqv, D.eqv]; exact pys_eqv xs ys h k
  | .lst xs, .tpn b, h, k => by simp [D.py, PyData.eqv, D.eqv]
  | .tpn xs, .lst b, h, k => by simp [D.py, PyData.eqv, D.eqv]
  | .tpn xs, .non, h, k => by simp [D.py, PyData.eqv, D.eqv]
  | .tpn xs, .bl b, h, k => by simp [D.py, PyData.eqv, D.eqv]
  | .tpn xs, .int b, h, k => by simp [D.py, PyData.eqv, D.eqv]
  | .tpn xs, .str b, h, k => by simp [D.py, PyData.eqv, D.eqv]
  | .tpn xs, .loc b, h, k => by simp [D.pure] at k
  | .tpn xs, .fz b, h, k => by simp [D.pure] at k
  | .tpn xs, .fn b, h, k => by simp [D.pure] at k
theorem pys_eqv : ∀ (xs ys : List D), D.pures xs = true → D.pures ys = true → PyData.eqvAll (D.pys xs) (D.pys ys) = D.eqvs xs ys
  | [], [], _, _ => by simp [D.pys, PyData.eqvAll, D.eqvs]
  | [], y :: ys, _, _ => by simp [D.pys, PyData.eqvAll, D.eqvs]
  | x :: xs, [], _, _ => by simp [D.pys, PyData.eqvAll, D.eqvs]
  | x :: xs, y :: ys, h, k => by
    simp only [D.pures, Bool.and_eq_true] at h k
    simp only [D.pys, PyData.eqvAll, D.eqvs]
    rw [py_eqv x y h.1 k.1, pys_eqv xs ys h.2 k.2]
end
/-- the datum with the store's list at its top told -/
def told (S : Store) : D → D
  | .loc n => match S[n]? with
    | some ds => .lst ds
    | none => .loc n
  | d => d
mutual
theorem dp_of {K : PySem.W.Frag} {F H : Hp} {μ : List MA} (e : Ex F H) : ∀ {d : D} {v : V}, Rep K F μ d v → d.pure = true → Dp K H v d.py
  | _, _, .non, _ => by rw [D.py]; exact .non
  | _, _, .bl b, _ => by rw [D.py]; exact .bl b
  | _, _, .int i, _ => by rw [D.py]; exact .int i
  | _, _, .str x, _ => by rw [D.py]; exact .str x
  | _, _, .tup h r, p => by rw [D.pure] at p; rw [D.py]; exact .tup (ex_t e h) (dps_of e r p)
  | _, _, .lst h r, p => by rw [D.pure] at p; rw [D.py]; exact .lst (sq_of (e _ _ h)) (dps_of e r p)
  | _, _, .loc h, p => by simp [D.pure] at p
  | _, _, .fz h r, p => by simp [D.pure] at p
  | _, _, .fn h r, p => by simp [D.pure] at p
  | _, _, .dct h, p => by simp [D.pure] at p
  | _, _, .ins h k r, p => by simp [D.pure] at p
  | _, _, .dks h k r, p => by simp [D.pure] at p
  | _, _, .obj h, p => by simp [D.pure] at p
  | _, _, .dkc h, p => by simp [D.pure] at p
  | _, _, .gfn, p => by simp [D.pure] at p
  | _, _, .tpn h k r, p => by rw [D.pure] at p; rw [D.py]; exact .tup (ex_t e (.inl (.inr ⟨_, h⟩))) (dps_of e r p)
theorem dps_of {K : PySem.W.Frag} {F H : Hp} {μ : List MA} (e : Ex F H) : ∀ {ds : List D} {vs : List V}, Reps K F μ ds vs → D.pures ds = true → DpAll K H vs (D.pys ds)
  | _, _, .nil, _ => by rw [D.pys]; exact .nil
  | _, _, .cons h r, p => by
    simp only [D.pures, Bool.and_eq_true] at p
    rw [D.pys]; exact .cons (dp_of e h p.1) (dps_of e r p.2)
end
theorem dp_told {K : PySem.W.Frag} {F H : Hp} {μ : List MA} {S : Store} {d : D} {v : V} (s : SR K T F μ S H) (r : Rep K F μ d v) (p : (told S d).pure = true) : Dp K H v (told S d).py := by
  cases r with
  | loc hm =>
    obtain ⟨es, vs, h1, h2, h3, _⟩ := s.get hm
    simp only [told, h1] at p ⊢
    rw [D.pure] at p
    rw [D.py]
    exact .lst (sq_of h2) (dps_of s.ex h3 p)
  | tup h r => exact dp_of s.ex (.tup h r) p
  | tpn h k r => exact dp_of s.ex (.tpn h k r) p
  | lst h r => exact dp_of s.ex (.lst h r) p
  | fz h r => simp [told, D.pure] at p
  | fn h r => simp [told, D.pure] at p
  | dct h => simp [told, D.pure] at p
  | ins h k r => simp [told, D.pure] at p
  | dks h k r => simp [told, D.pure] at p
  | obj h => simp [told, D.pure] at p
  | dkc h => simp [told, D.pure] at p
  | gfn => simp [told, D.pure] at p
  | non => exact dp_of (μ := μ) s.ex .non p
  | bl b => exact dp_of (μ := μ) s.ex (.bl b) p
  | int b => exact dp_of (μ := μ) s.ex (.int b) p
  | str b => exact dp_of (μ := μ) s.ex (.str b) p
def eqOk (d : D) : Bool := d.pure && SeqAt.shaped d.py
def oEq : Op2 := fun x y S => if eqOk (told S x) = true ∧ eqOk (told S y) = true then some (.ok (.bl (D.eqv (told S x) (told S y))), S) else none
def oNe : Op2 := fun x y S => if eqOk (told S x) = true ∧ eqOk (told S y) = true then some (.ok (.bl (!D.eqv (told S x) (told S y))), S) else none
theorem oEq_ok : OpOk X T false (rEqD X.K) oEq := by
  intro F μ S H x y v u Q er s rx ry h
  unfold oEq at h
  split at h
  · rename_i hc
    obtain ⟨h1, h2⟩ := hc
    unfold eqOk at h1 h2
    rw [Bool.and_eq_true] at h1 h2
    refine ⟨_, _, dp_told s rx h1.1, dp_told s ry h2.1, h1.2, h2.2, ?_⟩
    rw [py_eqv _ _ h1.1 h2.1]
    exact gp_val h s (.bl _)
  · exact h.elim
theorem oNe_ok : OpOk X T false (rNeD X.K) oNe := by
  intro F μ S H x y v u Q er s rx ry h
  unfold oNe at h
  split at h
  · rename_i hc
    obtain ⟨h1, h2⟩ := hc
    unfold eqOk at h1 h2
    rw [Bool.and_eq_true] at h1 h2
    refine ⟨_, _, dp_told s rx h1.1, dp_told s ry h2.1, h1.2, h2.2, ?_⟩
    rw [py_eqv _ _ h1.1 h2.1]
    exact gp_val h s (.bl _)
  · exact h.elim
/-- is None, is not None -/
def oIsN : Op2 := fun x y S => match y with
  | .non => some (.ok (.bl (match x with | .non => true | _ => false)), S)
  | _ => none
def oNotN : Op2 := fun x y S => match y with
  | .non => some (.ok (.bl (match x with | .non => false | _ => true)), S)
  | _ => none
theorem oIsN_ok : OpOk X T false (fun x y H Q => y = .non ∧ Q (.bl (decide (x = .non))) H) oIsN := by
  intro F μ S H x y v u Q er s rx ry h
  unfold oIsN at h
  cases ry with
  | non =>
    refine ⟨rfl, ?_⟩
    cases rx <;> exact gp_val h s (.bl _)
  | _ => exact h.elim
theorem oNotN_ok : OpOk X T false (fun x y H Q => y = .non ∧ Q (.bl (!decide (x = .non))) H) oNotN := by
  intro F μ S H x y v u Q er s rx ry h
  unfold oNotN at h
  cases ry with
  | non =>
    refine ⟨rfl, ?_⟩
    cases rx <;> exact gp_val h s (.bl _)
  | _ => exact h.elim
/-! ### in, not in: flat things -/
def flatD : D → Bool
  | .non => true
  | .bl _ => true
  | .int _ => true
  | .str _ => true
  | _ => false
theorem flat_rep {K : PySem.W.Frag} {F : Hp} {μ : List MA} {d : D} {v : V} (r : Rep K F μ d v) (h : flatD d = true) : flatV v = true := by cases r <;> first | rfl | cases h
theorem flats_rep {K : PySem.W.Frag} {F : Hp} {μ : List MA} : ∀ {ds : List D} {vs : List V}, Reps K F μ ds vs → ds.all flatD = true → vs.all flatV = true
  | _, _, .nil, _ => rfl
  | _, _, .cons h r, p => by
    simp only [List.all_cons, Bool.and_eq_true] at p ⊢
    exact ⟨flat_rep h p.1, flats_rep r p.2⟩
theorem eqv_flat {K : PySem.W.Frag} {F : Hp} {μ : List MA} {d e : D} {v u : V} (r : Rep K F μ d v) (q : Rep K F μ e u) (h : flatD d = true) (k : flatD e = true) : eqV v u = D.eqv d e := by
  cases r <;> cases q <;> first | cases h | cases k | skip
  all_goals simp [eqV, D.eqv]
theorem inV_rep {K : PySem.W.Frag} {F : Hp} {μ : List MA} {d : D} {v : V} (r : Rep K F μ d v) (h : flatD d = true) : ∀ {ds : List D} {vs : List V}, Reps K F μ ds vs → ds.all flatD = true → inV v vs = ds.any fun e => D.eqv e d
  | _, _, .nil, _ => rfl
  | _, _, .cons h1 r1, p => by
    simp only [List.all_cons, Bool.and_eq_true] at p
    have ih := inV_rep r h r1 p.2
    unfold inV at ih ⊢
    simp only [List.any_cons, ih, eqv_flat h1 r p.1 h]
def oIn (neg : Bool) : Op2 := fun x y S => match asS y S with
  | some ds => if flatD x = true ∧ ds.all flatD = true then some (.ok (.bl (if neg then !(ds.any fun e => D.eqv e x) else ds.any fun e => D.eqv e x)), S) else none
  | none => none
theorem oIn_ok {neg : Bool} : OpOk X T false (rIn X.K neg) (oIn neg) := by
  intro F μ S H x y v u Q er s rx ry h
  unfold oIn at h
  split at h
  · rename_i ds hq
    split at h
    · rename_i hc
      obtain ⟨a, vs, rfl, h1, h2⟩ := asS_ok s ry hq
      refine ⟨a, vs, rfl, h1, flat_rep rx hc.1, flats_rep h2 hc.2, ?_⟩
      rw [inV_rep rx hc.1 h2 hc.2]
      exact gp_val h s (.bl _)
    · exact h.elim
  · exact h.elim
/-- a sign in a text -/
def oInS (neg : Bool) : Op2 := fun x y S => match x, y with
  | .str i, .str j => some (.ok (.bl (if neg then !(!(Builtin.Str.occurrences j i 0 j.length 1).isEmpty) else !(Builtin.Str.occurrences j i 0 j.length 1).isEmpty)), S)
  | _, _ => none

/-! ### indexes -/
def oIx : Op2 := fun x y S => match y with
  | .int i => (match x with
    | .str z => if z.length ≤ lim then (match atI z.cps.toList i with
      | some c => some (.ok (.str ⟨#[c]⟩), S)
      | none => none) else none
    | x => match asS x S with
      | some ds => (match atI ds i with
        | some d => some (.ok d, S)
        | none => none)
      | none => none)
  | _ => none
theorem atI_rep {K : PySem.W.Frag} {F : Hp} {μ : List MA} {ds : List D} {vs : List V} {i : Int} {d : D} (r : Reps K F μ ds vs) (h : atI ds i = some d) : ∃ v, atI vs i = some v ∧ Rep K F μ d v := by
  unfold atI at h ⊢
  rw [← r.length]
  cases q : ixN ds.length i with
  | none => rw [q] at h; cases h
  | some j =>
    rw [q] at h
    exact r.get (i := j) (by simpa using h)
theorem oIx_ok : OpOk X T false (rIx X.K) oIx := by
  intro F μ S H x y v u Q er s rx ry h
  unfold oIx at h
  cases ry with
  | int i =>
    dsimp only at h
    split at h
    · rename_i z
      cases rx
      split at h
      · rename_i hz
        split at h
        · rename_i c hc
          exact .inr (.inr ⟨z, i, c, rfl, rfl, lim_ok hz, hc, gp_val h s (.str _)⟩)
        · exact h.elim
      · exact h.elim
    · split at h
      · rename_i ds hq
        split at h
        · rename_i d hd
          obtain ⟨a, vs, rfl, h1, h2⟩ := asS_ok s rx hq
          obtain ⟨w, e1, e2⟩ := atI_rep h2 hd
          rcases h1 with h1 | h1
          · exact .inl ⟨a, vs, i, w, rfl, rfl, h1, e1, gp_val h s e2⟩
          · exact .inr (.inl ⟨a, vs, i, w, rfl, rfl, h1, e1, gp_val h s e2⟩)
        · exact h.elim
      · exact h.elim
  | _ => exact h.elim
variable {W : WX}
theorem re_ix {e1 e2 : Expr} {a b : EX} {pos : Pos} (ha : RE T false X W e1 a) (hb : RE T false X W e2 b) (hs : PlainIx e2) : RE T false X W (.Subscript e1 e2 pos) (cBin oIx a b) := by
  obtain ⟨ta, pa, fa⟩ := ha
  obtain ⟨tb, pb, fb⟩ := hb
  exact ⟨_, pe_ix ix_seq pa pb hs, fun σ ρ F μ S H Q s hE g => two (e1 := e1) (e2 := e2) fa fb oIx_ok s hE g⟩

/-! ### slices -/
def cutL {α : Type} (xs : List α) (lo hi : Option Int) : List α := (xs.drop (HT.sIx xs.length 0 lo)).take (HT.sIx xs.length xs.length hi - HT.sIx xs.length 0 lo)
abbrev OX := Env → Store → Out (Option Int)
def RO (T : List (Addr × Str)) (X : Cx) (W : WX) (e : Option Expr) (c : OX) : Prop := ∃ t, PO X e t ∧
  ∀ σ ρ F μ S H (Q : Option Int → Hp → Prop), SR X.K T F μ S H → EnvR X.K F μ ρ σ → GP X.K T F μ (c ρ S) (fun o _ _ H' _ => Q o H') (ErW X.K X.mg fun cls dd H' => W cls dd σ H') → t σ H Q
def cNo : OX := fun _ S => some (.ok none, S)
def cPart (c : EX) : OX := fun ρ S => bindO (c ρ S) fun d S => match d with
  | .int i => some (.ok (some i), S)
  | _ => none
theorem ro_none : RO T X W none cNo := ⟨_, po_none, fun σ ρ F μ S H Q s hE g => GP.here g s⟩
theorem ro_some {e : Expr} {c : EX} (h : RE T false X W e c) : RO T X W (some e) (cPart c) := by
  obtain ⟨t, p, f⟩ := h
  refine ⟨_, po_some p, fun σ ρ F μ S H Q s hE g => f σ ρ F μ S H _ s hE (GP.seq g fun d F1 μ1 H1 S1 e1 p1 s1 g1 v r => ?_)⟩
  cases r with
  | int i => exact ⟨i, rfl, GP.here g1 s1⟩
  | _ => exact g1.elim
/-- t[lo:hi], a tuple or a text -/
def cSlice (a : EX) (lo hi : OX) : EX := fun ρ S => bindO (a ρ S) fun x S => bindO (lo ρ S) fun l S => bindO (hi ρ S) fun h S => match x with
  | .tup xs => some (.ok (.tup (cutL xs l h)), S)
  | .str z => if z.length ≤ lim then some (.ok (.str (cutS z l h)), S) else none
  | _ => none
/-- xs[lo:hi], a list: a new one -/
def cSliceL (a : EX) (lo hi : OX) : EX := fun ρ S => bindO (a ρ S) fun x S => bindO (lo ρ S) fun l S => bindO (hi ρ S) fun h S => match asL x S with
  | some xs => some (.ok (.lst (cutL xs l h)), S)
  | none => none
theorem sIx_all {n : Nat} {lo hi : Option Int} (h : HT.sIx n 0 lo = 0 ∧ HT.sIx n n hi = n) {α : Type} {xs : List α} (e : xs.length = n) : cutL xs lo hi = xs := by
  unfold cutL
  rw [e, h.1, h.2, List.drop_zero, Nat.sub_zero, ← e, List.take_length]
theorem Reps.cut {K : PySem.W.Frag} {F : Hp} {μ : List MA} {ds : List D} {vs : List V} (r : Reps K F μ ds vs) (lo hi : Option Int) : Reps K F μ (cutL ds lo hi) (cutV vs lo hi) := by
  unfold cutL cutV
  rw [r.length]
  exact (r.drop _).take _
theorem re_slice {e : Expr} {lo hi : Option Expr} {a : EX} {cl ch : OX} {pos p2 : Pos} (ha : RE T false X W e a) (hl : RO T X W lo cl) (hh : RO T X W hi ch) : RE T false X W (.Subscript e (.Slice lo hi none p2) pos) (cSlice a cl ch) := by
  obtain ⟨ta, pa, fa⟩ := ha
  obtain ⟨tl, pl, fl⟩ := hl
  obtain ⟨th, ph, fh⟩ := hh
  refine ⟨_, pe_slice (sl_tupA.or sl_str) pa pl ph, fun σ ρ F μ S H Q s hE g => ?_⟩
  refine fa σ ρ F μ S H _ s hE (GP.seq g fun x F1 μ1 H1 S1 e1 p1 s1 g1 v rx => ?_)
  refine fl σ ρ F1 μ1 S1 H1 _ s1 (hE.mono e1 p1) (GP.seq g1 fun l F2 μ2 H2 S2 e2 p2 s2 g2 => ?_)
  refine fh σ ρ F2 μ2 S2 H2 _ s2 ((hE.mono e1 p1).mono e2 p2) (GP.seq g2 fun h F3 μ3 H3 S3 e3 p3 s3 g3 => ?_)
  have rx := Rep.mono e3 p3 (Rep.mono e2 p2 rx)
  cases rx with
  | @tup a xs ds hq rs =>
    refine .inl ⟨a, xs, rfl, s3.sqT hq, fun hw => ?_, fun _ => gp_tup g3 s3 (rs.cut _ _)⟩
    dsimp only at g3
    rw [sIx_all hw rs.length] at g3
    exact gp_val g3 s3 (.tup hq rs)
  | str z =>
    dsimp only at g3
    split at g3
    · rename_i hz
      exact .inr ⟨z, rfl, lim_ok hz, gp_val g3 s3 (.str _)⟩
    · exact g3.elim
  | _ => exact g3.elim
theorem re_sliceL {e : Expr} {lo hi : Option Expr} {a : EX} {cl ch : OX} {pos p2 : Pos} (ha : RE T false X W e a) (hl : RO T X W lo cl) (hh : RO T X W hi ch) : RE T true X W (.Subscript e (.Slice lo hi none p2) pos) (cSliceL a cl ch) := by
  obtain ⟨ta, pa, fa⟩ := ha
  obtain ⟨tl, pl, fl⟩ := hl
  obtain ⟨th, ph, fh⟩ := hh
  refine ⟨_, pe_slice sl_list pa pl ph, fun σ ρ F μ S H Q s hE g => ?_⟩
  refine fa σ ρ F μ S H _ s hE (GP.seq g fun x F1 μ1 H1 S1 e1 p1 s1 g1 v rx => ?_)
  refine fl σ ρ F1 μ1 S1 H1 _ s1 (hE.mono e1 p1) (GP.seq g1 fun l F2 μ2 H2 S2 e2 p2 s2 g2 => ?_)
  refine fh σ ρ F2 μ2 S2 H2 _ s2 ((hE.mono e1 p1).mono e2 p2) (GP.seq g2 fun h F3 μ3 H3 S3 e3 p3 s3 g3 => ?_)
  have rx := Rep.mono e3 p3 (Rep.mono e2 p2 rx)
  split at g3
  · rename_i xs hq
    obtain ⟨a, vs, rfl, h1, h2⟩ := asL_ok s3 rx hq
    exact ⟨a, vs, rfl, h1, gp_lst g3 s3 (h2.cut _ _)⟩
  · exact g3.elim

/-! ### built-in functions -/
abbrev OpB := List D → Store → Out D
def BltOk (X : Cx) (T : List (Addr × Str)) (fr : Bool) (r : List V → Hp → VK → Prop) (o : OpB) : Prop := ∀ F μ S H ds vs Q er, SR X.K T F μ S H → Reps X.K F μ ds vs → GP X.K T F μ (o ds S) (OkV X.K fr Q) er → r vs H Q
def cBlt (o : OpB) (r : AX) : EX := fun ρ S => bindO (r ρ S) fun ds S => o ds S
section
variable {x : Str} {p pos : Pos} {e : Expr} {es : List Expr} {c : AX} {fr : Bool} {id Ty : String} {r : List V → Hp → VK → Prop} {o : OpB}
theorem re_callB (hc : CallR X (.builtin id) r) (ho : BltOk X T fr r o) (hm : X.mg x = none) (hv : bootBuiltins x = some (.builtin id)) (ha : RA T X W (e :: es) c) (hg : Gl X x := by rfl) (hn : x ≠ "__name__" := by decide) (hdb : (x == ("__debug__" : Str)) = false := by decide)
    (he : starEach (e :: es) X.env = (false, eval e X.env) :: starEach es X.env := by rfl) (hpl : (backTo pos (starEach es X.env)).any (·.1) = false := by rfl) : RE T fr X W (.Call (.Name x p) (e :: es) [] pos) (cBlt o c) := by
  obtain ⟨t, pa, f⟩ := ha
  exact ⟨_, pe_callB hc hg hm hv pa hn hdb he hpl, fun σ ρ F μ S H Q s hE g => f σ ρ F μ S H _ s hE (GP.seq g fun ds F1 μ1 H1 S1 e1 p1 s1 g1 vs rs => ho F1 μ1 S1 H1 ds vs Q _ s1 rs g1)⟩
theorem re_callTy (hc : CallR X (.type Ty) r) (ho : BltOk X T fr r o) (hm : X.mg x = none) (hv : bootBuiltins x = some (.type Ty)) (ha : RA T X W (e :: es) c) (hg : Gl X x := by rfl) (hn : x ≠ "__name__" := by decide) (hdb : (x == ("__debug__" : Str)) = false := by decide)
    (he : starEach (e :: es) X.env = (false, eval e X.env) :: starEach es X.env := by rfl) (hpl : (backTo pos (starEach es X.env)).any (·.1) = false := by rfl) : RE T fr X W (.Call (.Name x p) (e :: es) [] pos) (cBlt o c) := by
  obtain ⟨t, pa, f⟩ := ha
  exact ⟨_, pe_callTy hc hg hm hv pa hn hdb he hpl, fun σ ρ F μ S H Q s hE g => f σ ρ F μ S H _ s hE (GP.seq g fun ds F1 μ1 H1 S1 e1 p1 s1 g1 vs rs => ho F1 μ1 S1 H1 ds vs Q _ s1 rs g1)⟩
end
def bLen : OpB := fun ds S => match ds with
  | [.str z] => if z.length ≤ lim then some (.ok (.int z.length), S) else none
  | [d] => (match asS d S with
    | some xs => some (.ok (.int xs.length), S)
    | none => none)
  | _ => none
theorem Reps.inv1 {K : PySem.W.Frag} {F : Hp} {μ : List MA} {d : D} {vs : List V} (h : Reps K F μ [d] vs) : ∃ v, vs = [v] ∧ Rep K F μ d v := by
  cases h with
  | cons h r => cases r; exact ⟨_, rfl, h⟩
theorem Reps.inv2 {K : PySem.W.Frag} {F : Hp} {μ : List MA} {d e : D} {vs : List V} (h : Reps K F μ [d, e] vs) : ∃ v u, vs = [v, u] ∧ Rep K F μ d v ∧ Rep K F μ e u := by
  cases h with
  | cons h r =>
    obtain ⟨u, rfl, h2⟩ := r.inv1
    exact ⟨_, u, rfl, h, h2⟩
theorem bLen_ok : BltOk X T false (fun xs H Q => ∃ x n, xs = [x] ∧ LenV X.K x H n ∧ Q (.int n) H) bLen := by
  intro F μ S H ds vs Q er s rs h
  unfold bLen at h
  split at h
  · rename_i z
    obtain ⟨v, rfl, r⟩ := rs.inv1
    cases r
    split at h
    · rename_i hz
      exact ⟨_, z.length, rfl, ⟨lim_ok hz, rfl⟩, gp_val h s (.int _)⟩
    · exact h.elim
  · rename_i d _
    obtain ⟨v, rfl, r⟩ := rs.inv1
    split at h
    · rename_i xs hq
      obtain ⟨a, ws, rfl, h1, h2⟩ := asS_ok s r hq
      refine ⟨_, xs.length, rfl, ?_, gp_val h s (.int _)⟩
      rcases h1 with h1 | h1
      · exact .inl ⟨ws, h1, h2.length⟩
      · exact .inr ⟨ws, h1, h2.length⟩
    · exact h.elim
  · exact h.elim
def bAbs : OpB := fun ds S => match ds with
  | [.int i] => some (.ok (.int (if i < 0 then -i else i)), S)
  | _ => none
theorem bAbs_ok : BltOk X T false (fun xs H Q => ∃ i, xs = [.int i] ∧ Q (.int (if i < 0 then -i else i)) H) bAbs := by
  intro F μ S H ds vs Q er s rs h
  unfold bAbs at h
  split at h
  · obtain ⟨v, rfl, r⟩ := rs.inv1
    cases r
    exact ⟨_, rfl, gp_val h s (.int _)⟩
  · exact h.elim
def bInt : OpB := fun ds S => match ds with
  | [.int i] => some (.ok (.int i), S)
  | [.bl k] => some (.ok (.int (if k then 1 else 0)), S)
  | _ => none
theorem bInt_ok : BltOk X T false (fun xs H Q => (∃ i, xs = [.int i] ∧ Q (.int i) H) ∨ ∃ k, xs = [.bl k] ∧ Q (.int (if k then 1 else 0)) H) bInt := by
  intro F μ S H ds vs Q er s rs h
  unfold bInt at h
  split at h
  · obtain ⟨v, rfl, r⟩ := rs.inv1
    cases r
    exact .inl ⟨_, rfl, gp_val h s (.int _)⟩
  · obtain ⟨v, rfl, r⟩ := rs.inv1
    cases r
    exact .inr ⟨_, rfl, gp_val h s (.int _)⟩
  · exact h.elim
def bMin2 : OpB := fun ds S => match ds with
  | [.int i, .int j] => some (.ok (.int (if j < i then j else i)), S)
  | _ => none
def bMax2 : OpB := fun ds S => match ds with
  | [.int i, .int j] => some (.ok (.int (if j > i then j else i)), S)
  | _ => none
theorem bMin2_ok : BltOk X T false (fun xs H Q => ∃ i j, xs = [.int i, .int j] ∧ Q (.int (if j < i then j else i)) H) bMin2 := by
  intro F μ S H ds vs Q er s rs h
  unfold bMin2 at h
  split at h
  · obtain ⟨v, u, rfl, r1, r2⟩ := rs.inv2
    cases r1; cases r2
    exact ⟨_, _, rfl, gp_val h s (.int _)⟩
  · exact h.elim
theorem bMax2_ok : BltOk X T false (fun xs H Q => ∃ i j, xs = [.int i, .int j] ∧ Q (.int (if j > i then j else i)) H) bMax2 := by
  intro F μ S H ds vs Q er s rs h
  unfold bMax2 at h
  split at h
  · obtain ⟨v, u, rfl, r1, r2⟩ := rs.inv2
    cases r1; cases r2
    exact ⟨_, _, rfl, gp_val h s (.int _)⟩
  · exact h.elim
/-- lists of ints, of bools -/
def intsOf : List D → Option (List Int)
  | [] => some []
  | .int i :: ds => (intsOf ds).map (i :: ·)
  | _ => none
def blsOf : List D → Option (List Bool)
  | [] => some []
  | .bl i :: ds => (blsOf ds).map (i :: ·)
  | _ => none
theorem ints_rep {K : PySem.W.Frag} {F : Hp} {μ : List MA} : ∀ {ds : List D} {vs : List V} {ns : List Int}, Reps K F μ ds vs → intsOf ds = some ns → vs = ns.map V.int
  | _, _, _, .nil, h => by simp [intsOf] at h; subst h; rfl
  | _, _, _, .cons h1 r, h => by
    cases h1 with
    | int i =>
      simp only [intsOf, Option.map_eq_some_iff] at h
      obtain ⟨ms, h2, rfl⟩ := h
      rw [ints_rep r h2]; rfl
    | _ => simp [intsOf] at h
theorem bls_rep {K : PySem.W.Frag} {F : Hp} {μ : List MA} : ∀ {ds : List D} {vs : List V} {ns : List Bool}, Reps K F μ ds vs → blsOf ds = some ns → vs = ns.map V.bl
  | _, _, _, .nil, h => by simp [blsOf] at h; subst h; rfl
  | _, _, _, .cons h1 r, h => by
    cases h1 with
    | bl i =>
      simp only [blsOf, Option.map_eq_some_iff] at h
      obtain ⟨ms, h2, rfl⟩ := h
      rw [bls_rep r h2]; rfl
    | _ => simp [blsOf] at h
theorem reps_ints {K : PySem.W.Frag} {F : Hp} {μ : List MA} : ∀ (ns : List Int), Reps K F μ (ns.map D.int) (ns.map V.int)
  | [] => .nil
  | n :: ns => .cons (.int n) (reps_ints ns)
/-- a list by its ints -/
def bL1 {α : Type} (of : List D → Option (List α)) (g : List α → Option D) : OpB := fun ds S => match ds with
  | [d] => (match asL d S with
    | some xs => (match of xs with
      | some ns => (match g ns with
        | some z => some (.ok z, S)
        | none => none)
      | none => none)
    | none => none)
  | _ => none
theorem bL1_ok {α : Type} {of : List D → Option (List α)} {g : List α → Option D} {F : Hp} {μ : List MA} {S : Store} {H : Hp} {ds : List D} {vs : List V} {fr : Bool} {Q : VK} {er}
    (s : SR X.K T F μ S H) (rs : Reps X.K F μ ds vs) (h : GP X.K T F μ (bL1 of g ds S) (OkV X.K fr Q) er) :
    ∃ a ws xs ns z, vs = [.ref a] ∧ SqL X.K H a ws ∧ Reps X.K F μ xs ws ∧ of xs = some ns ∧ g ns = some z ∧ GP X.K T F μ (some (.ok z, S)) (OkV X.K fr Q) er := by
  unfold bL1 at h
  split at h
  · obtain ⟨v, rfl, r⟩ := rs.inv1
    split at h
    · rename_i xs hq
      split at h
      · rename_i ns hn
        split at h
        · rename_i z hz
          obtain ⟨a, ws, rfl, h1, h2⟩ := asL_ok s r hq
          exact ⟨a, ws, xs, ns, z, rfl, h1, h2, hn, hz, h⟩
        · exact h.elim
      · exact h.elim
    · exact h.elim
  · exact h.elim
def bSum : OpB := bL1 intsOf fun ns => some (.int ns.sum)
theorem bSum_ok : BltOk X T false (rSum X.K) bSum := by
  intro F μ S H ds vs Q er s rs h
  obtain ⟨a, ws, xs, ns, z, rfl, h1, h2, h3, h4, h5⟩ := bL1_ok s rs h
  cases h4
  rw [ints_rep h2 h3] at h1
  exact ⟨a, ns, rfl, h1, gp_val h5 s (.int _)⟩
def bAll : OpB := bL1 blsOf fun ns => some (.bl (ns.all id))
theorem bAll_ok : BltOk X T false (rAll X.K) bAll := by
  intro F μ S H ds vs Q er s rs h
  obtain ⟨a, ws, xs, ns, z, rfl, h1, h2, h3, h4, h5⟩ := bL1_ok s rs h
  cases h4
  rw [bls_rep h2 h3] at h1
  exact ⟨a, ns, rfl, h1, gp_val h5 s (.bl _)⟩
def bAny : OpB := bL1 blsOf fun ns => some (.bl (ns.any id))
theorem bAny_ok : BltOk X T false (rAny X.K) bAny := by
  intro F μ S H ds vs Q er s rs h
  obtain ⟨a, ws, xs, ns, z, rfl, h1, h2, h3, h4, h5⟩ := bL1_ok s rs h
  cases h4
  rw [bls_rep h2 h3] at h1
  exact ⟨a, ns, rfl, h1, gp_val h5 s (.bl _)⟩
def bMax : OpB := bL1 intsOf fun ns => ns.max?.map D.int
def bMin : OpB := bL1 intsOf fun ns => ns.min?.map D.int
theorem bMax_ok : BltOk X T false (rMax X.K) bMax := by
  intro F μ S H ds vs Q er s rs h
  obtain ⟨a, ws, xs, ns, z, rfl, h1, h2, h3, h4, h5⟩ := bL1_ok s rs h
  rw [Option.map_eq_some_iff] at h4
  obtain ⟨m, h6, rfl⟩ := h4
  rw [ints_rep h2 h3] at h1
  obtain ⟨q1, q2⟩ := List.max?_eq_some_iff.mp h6
  refine ⟨a, ns, rfl, h1, List.length_pos_of_mem q1, fun m' k1 k2 => ?_⟩
  have e : m' = m := Int.le_antisymm (q2 m' k1) (k2 m q1)
  subst e
  exact gp_val h5 s (.int _)
theorem bMin_ok : BltOk X T false (rMin X.K) bMin := by
  intro F μ S H ds vs Q er s rs h
  obtain ⟨a, ws, xs, ns, z, rfl, h1, h2, h3, h4, h5⟩ := bL1_ok s rs h
  rw [Option.map_eq_some_iff] at h4
  obtain ⟨m, h6, rfl⟩ := h4
  rw [ints_rep h2 h3] at h1
  obtain ⟨q1, q2⟩ := List.min?_eq_some_iff.mp h6
  refine ⟨a, ns, rfl, h1, List.length_pos_of_mem q1, fun m' k1 k2 => ?_⟩
  have e : m' = m := Int.le_antisymm (k2 m q1) (q2 m' k1)
  subst e
  exact gp_val h5 s (.int _)
/-- sorted ints -/
def insI (x : Int) : List Int → List Int
  | [] => [x]
  | y :: ys => if x ≤ y then x :: y :: ys else y :: insI x ys
def sortI : List Int → List Int
  | [] => []
  | x :: xs => insI x (sortI xs)
theorem insI_perm (x : Int) : ∀ ys, (insI x ys).Perm (x :: ys)
  | [] => .refl _
  | y :: ys => by
    unfold insI
    split
    · exact .refl _
    · exact ((insI_perm x ys).cons y).trans (.swap x y ys)
theorem sortI_perm : ∀ xs, (sortI xs).Perm xs
  | [] => .refl _
  | x :: xs => (insI_perm x _).trans ((sortI_perm xs).cons x)
theorem insI_sorted (x : Int) : ∀ {ys : List Int}, ys.Pairwise (· ≤ ·) → (insI x ys).Pairwise (· ≤ ·)
  | [], _ => by simp [insI]
  | y :: ys, h => by
    unfold insI
    split
    · rename_i hxy
      rw [List.pairwise_cons] at h ⊢
      refine ⟨fun z hz => ?_, List.pairwise_cons.mpr h⟩
      rcases List.mem_cons.mp hz with e | hz
      · rw [e]; exact hxy
      · exact Int.le_trans hxy (h.1 z hz)
    · rename_i hxy
      rw [List.pairwise_cons] at h ⊢
      refine ⟨fun z hz => ?_, insI_sorted x h.2⟩
      rcases List.mem_cons.mp ((insI_perm x ys).mem_iff.mp hz) with e | hz
      · rw [e]; omega
      · exact h.1 z hz
theorem sortI_sorted : ∀ xs, (sortI xs).Pairwise (· ≤ ·)
  | [] => .nil
  | x :: xs => insI_sorted x (sortI_sorted xs)
theorem sorted_unique {xs ys : List Int} (h : xs.Perm ys) (h1 : xs.Pairwise (· ≤ ·)) (h2 : ys.Pairwise (· ≤ ·)) : xs = ys :=
  h.eq_of_pairwise (fun a b _ _ h1 h2 => Int.le_antisymm h1 h2) h1 h2
def bSorted : OpB := bL1 intsOf fun ns => some (.lst ((sortI ns).map D.int))
theorem bSorted_ok : BltOk X T true (rSortedI X.K) bSorted := by
  intro F μ S H ds vs Q er s rs h
  obtain ⟨a, ws, xs, ns, z, rfl, h1, h2, h3, h4, h5⟩ := bL1_ok s rs h
  cases h4
  rw [ints_rep h2 h3] at h1
  refine ⟨a, ns, rfl, h1, fun ns' p k1 k2 hp => ?_⟩
  have e : ns' = sortI ns := sorted_unique (k1.trans (sortI_perm ns).symm) k2 (sortI_sorted ns)
  subst e
  exact gp_lst h5 s (reps_ints _) p hp
/-- list(xs), tuple(xs) -/
def bList : OpB := fun ds S => match ds with
  | [d] => (match asS d S with
    | some xs => some (.ok (.lst xs), S)
    | none => none)
  | _ => none
def bTuple : OpB := fun ds S => match ds with
  | [d] => (match asS d S with
    | some xs => some (.ok (.tup xs), S)
    | none => none)
  | _ => none
theorem bList_ok : BltOk X T true (fun xs H Q => ∃ p ys, xs = [.ref p] ∧ (SqL X.K H p ys ∨ SqT X.K H p ys) ∧ ∀ l, H l = none → Q (.ref l) (upd H l (.lst ys))) bList := by
  intro F μ S H ds vs Q er s rs h
  unfold bList at h
  split at h
  · obtain ⟨v, rfl, r⟩ := rs.inv1
    split at h
    · rename_i xs hq
      obtain ⟨a, ws, rfl, h1, h2⟩ := asS_ok s r hq
      exact ⟨a, ws, rfl, h1, gp_lst h s h2⟩
    · exact h.elim
  · exact h.elim
theorem bTuple_ok : BltOk X T false (fun xs H Q => ∃ p ys, xs = [.ref p] ∧ ((SqL X.K H p ys ∧ ∀ l, H l = none → Q (.ref l) (upd H l (.tup ys))) ∨ (SqT X.K H p ys ∧ Q (.ref p) H))) bTuple := by
  intro F μ S H ds vs Q er s rs h
  unfold bTuple at h
  split at h
  · obtain ⟨v, rfl, r⟩ := rs.inv1
    split at h
    · rename_i xs hq
      cases r with
      | @tup a ws es hT r2 =>
        simp [asS] at hq
        subst hq
        exact ⟨a, ws, rfl, .inr ⟨s.sqT hT, gp_val h s (.tup hT r2)⟩⟩
      | lst hl r2 =>
        obtain ⟨a, ws, e, h1, h2⟩ := asL_ok s (.lst hl r2) (ds := xs) (by simpa [asS] using hq)
        cases e
        exact ⟨_, ws, rfl, .inl ⟨h1, gp_tup h s h2⟩⟩
      | fz hl r2 =>
        obtain ⟨a, ws, e, h1, h2⟩ := asL_ok s (.fz hl r2) (ds := xs) (by simpa [asS] using hq)
        cases e
        exact ⟨_, ws, rfl, .inl ⟨h1, gp_tup h s h2⟩⟩
      | loc hl =>
        obtain ⟨a, ws, e, h1, h2⟩ := asL_ok s (.loc hl) (ds := xs) (by simpa [asS] using hq)
        cases e
        exact ⟨_, ws, rfl, .inl ⟨h1, gp_tup h s h2⟩⟩
      | _ => simp [asS, asL] at hq
    · exact h.elim
  · exact h.elim
def bDivmod : OpB := fun ds S => match ds with
  | [.int i, .int j] => if 0 < j ∧ j < 1073741824 then some (.ok (.tup [.int (i / j), .int (i % j)]), S) else none
  | _ => none
theorem bDivmod_ok : BltOk X T false (fun xs H Q => ∃ i j, xs = [.int i, .int j] ∧ CDiv i j ∧ ∀ p, H p = none → Q (.ref p) (upd H p (.tup [.int (i / j), .int (i % j)]))) bDivmod := by
  intro F μ S H ds vs Q er s rs h
  unfold bDivmod at h
  split at h
  · obtain ⟨v, u, rfl, r1, r2⟩ := rs.inv2
    cases r1; cases r2
    split at h
    · rename_i hc
      exact ⟨_, _, rfl, hc, gp_tup h s (.cons (.int _) (.cons (.int _) .nil))⟩
    · exact h.elim
  · exact h.elim
/-! isinstance of the built-in types -/
inductive Ty where | int | bool | str | tuple | list | dict
def Ty.nm : Ty → String
  | .int => "int" | .bool => "bool" | .str => "str" | .tuple => "tuple" | .list => "list" | .dict => "dict"
def isTy : D → Ty → Bool
  | .int _, .int => true
  | .bl _, .int => true
  | .bl _, .bool => true
  | .str _, .str => true
  | .tup _, .tuple => true
  | .tpn _, .tuple => true
  | .lst _, .list => true
  | .loc _, .list => true
  | .fz _, .list => true
  | _, _ => false
def tyNm : D → String
  | .non => "NoneType" | .bl _ => "bool" | .int _ => "int" | .str _ => "str" | .tup _ => "tuple" | .lst _ => "list" | .loc _ => "list" | .fz _ => "list" | .fn _ => "function" | .tpn _ => "tuple" | .dct _ => "dict" | .ins _ _ _ => "object" | .dks _ _ => "dict" | .obj _ _ => "object" | .dkc _ => "dict" | .gfn _ => "function"
def D.isFn : D → Bool
  | .fn _ => true
  | .dct _ => true
  | .ins _ _ _ => true
  | .dks _ _ => true
  | .obj _ _ => true
  | .dkc _ => true
  | .gfn _ => true
  | _ => false
theorem kit_is (d : D) (t : Ty) (hf : d.isFn = false) : kitB (tyNm d) t.nm = some (isTy d t) := by
  cases d <;> first | (cases hf; done) | (cases t <;> (dsimp only [tyNm, isTy, Ty.nm]; decide +kernel))
theorem tyx_of {K : PySem.W.Frag} {F H : Hp} {μ : List MA} {S : Store} {d : D} {v : V} (s : SR K T F μ S H) (r : Rep K F μ d v) (hf : d.isFn = false) : TyX K H v (.type (tyNm d)) := by
  cases r with
  | fn h _ => cases hf
  | dct h => cases hf
  | ins h k r => cases hf
  | dks h k r => cases hf
  | obj h => cases hf
  | dkc h => cases hf
  | gfn => cases hf
  | tpn h _ _ => exact .fTuple (s.ex _ _ h)
  | non => exact .base .non
  | bl b => exact .base (.bl b)
  | int i => exact .base (.int i)
  | str x => exact .base (.str x)
  | tup h _ =>
    rcases h with (h | ⟨o, h⟩) | ⟨o, its, n, h1, h2, _⟩
    · exact .base (.tup (s.ex _ _ h))
    · exact .fTuple (s.ex _ _ h)
    · exact .kTuple h1 h2
  | lst h _ => exact .base (.lst (s.ex _ _ h))
  | fz h _ =>
    rcases h with (h | ⟨o, h⟩) | ⟨o, its, n, h1, h2, _⟩
    · exact .base (.lst (s.ex _ _ h))
    · exact .base (.frz (s.ex _ _ h))
    · exact .kList h1 h2
  | loc hm =>
    obtain ⟨es, vs, h1, h2, _⟩ := s.get hm
    exact .base (.lst h2)
def cIsi (t : Ty) (a : EX) : EX := fun ρ S => bindO (a ρ S) fun x S => if x.isFn = false then some (.ok (.bl (isTy x t)), S) else none
theorem re_isi {t : Ty} {tn : Str} {e : Expr} {a : EX} {p p2 pos : Pos} (ha : RE T false X W e a) (hm : X.mg "isinstance" = none) (hmt : X.mg tn = none) (hbt : bootBuiltins tn = some (.type t.nm)) (hg : Gl X "isinstance" := by rfl) (hgt : Gl X tn := by rfl)
    (hdt : (tn == ("__debug__" : Str)) = false := by decide) (hnt : tn ≠ "__name__" := by decide)
    (he : starEach [e, .Name tn p2] X.env = (false, eval e X.env) :: starEach [.Name tn p2] X.env := by rfl) (hpl : (backTo pos (starEach [.Name tn p2] X.env)).any (·.1) = false := by rfl) :
    RE T false X W (.Call (.Name "isinstance" p) [e, .Name tn p2] [] pos) (cIsi t a) := by
  obtain ⟨ta, pa, fa⟩ := ha
  refine ⟨_, pe_callB call_isi hg hm (by decide +kernel) (pa_cons pa (pa_cons (pe_bltn (v := .ty t.nm) hgt hmt hbt rfl hnt hdt) pa_nil) he) (by decide) (by decide) he hpl, fun σ ρ F μ S H Q s hE g => ?_⟩
  refine fa σ ρ F μ S H _ s hE (GP.seq g fun x F1 μ1 H1 S1 e1 p1 s1 g1 v rx => ?_)
  split at g1
  · rename_i hf
    exact ⟨v, .ty t.nm, _, _, isTy x t, rfl, .ty _, tyx_of s1 rx hf, kit_ty (kit_is x t hf), gp_val g1 s1 (.bl _)⟩
  · exact g1.elim
end
end PF
set_option Elab.async false
set_option linter.all false
set_option maxRecDepth 100000
set_option maxHeartbeats 4000000
/-! PF4: what a def promises (told while no text of an object is under way: the repr of data needs that), calls, repr. -/
namespace PF
open PySem L2 Evl PySem.Spec PyProof.Rows
/-- like the layer's FnOk, asked where no repr is running -/
structure FnG (P : Program) (w : World) (K : PySem.W.Frag) (mg : Str → Option Value) (base : Heap) (k : Nat) (f : Addr) (fd : FuncData) (ps : List Str) (sp : Sp) : Prop where
  len : ∀ vs H Q E, sp vs H Q E → vs.length = ps.length
  run : ∀ (A : Around) (outer : List PySem.Env) (s : Shared) (H : Hp) (args : Args) (us : List Value) (vs : List V) (Q : VK) (E : XK), Room k A → A.guards = some [] →
    Env0 P w K mg base A outer s H → BindsTo s fd args (ps.zip us) → Vals vs us → sp vs H Q E → codeAny (model P w) A (.call (.ref f) args) (CR (L2.CX P w) outer P w H s Q E) s
section
variable {P : Program} {w : World} {K : PySem.W.Frag} {mg : Str → Option Value} {base : Heap} {f : Addr} {ps : List Str} {sp : Sp} {k : Nat}
theorem FnG.mono {fd : FuncData} {j : Nat} (F : FnG P w K mg base j f fd ps sp) (h : j ≤ k) : FnG P w K mg base k f fd ps sp :=
  { len := F.len, run := fun A outer s H args us vs Q E r => F.run A outer s H args us vs Q E (Room.mono r h) }
/-- a def of the text, by its body -/
theorem fn_gT {x qual : Str} {params : Arguments} {body : List Stmt} {scope : Scope} {dvs : List V} {kws : List (Str × V)} {fd : FuncData} {N : List Str} (D : FunD K x qual params body scope dvs kws f fd) (sc : FnScope N ps scope) (hl : ∀ vs H Q E, sp vs H Q E → vs.length = ps.length)
    (bd : ∀ (cdv : Value) (A : Around) (outer : List PySem.Env) (s : Shared) (H : Hp) (vs : List V) (Q : VK) (E : XK), fd.code = cdv → Room k (A.deeper (envOfC qual scope s.heap.objs.size f cdv)) → A.guards = some [] → sp vs H Q E →
      ∃ t, PSs (cxOf (L2.CX P w) P w K mg base N qual scope f cdv A outer s H E) body t ∧ t { nx := fun _ H' => Q .non H', rt := Q } (start N vs) H) : FnG P w K mg base (k + 1) f fd ps sp := by
  obtain ⟨oc, od, dV, kV, doc, pm, an, cdv, ct, osl, rfl, lk, hcode, _, _⟩ := D.ex
  refine ⟨hl, fun A outer s H args us vs Q E room gu env bi rel want => ?_⟩
  have inK : K.In s.heap := PySem.W.Frag.In.keeps env.mod.kin fun b o q => (env.bs b o q).1
  have nolim : s.heap.NoLimit := Heap.NoLimit.keeps env.mod.nolimit fun b o q => (env.bs b o q).1
  have kinds : ∀ z ∈ ps.zip us, scope.names.lookup z.1 = some .local ∨ (scope.names.lookup z.1 = some .cell ∧ ((cellsFrom (s.heap.objs.size + 1) scope.names []).lookup z.1).isSome = true) := by
    rintro ⟨n, v⟩ hz
    have hn : n ∈ ps := (List.of_mem_zip hz).1
    cases sc.par n hn with
    | inl q => exact Or.inl q
    | inr q => exact Or.inr ⟨q, PySem.W.cellsFrom_some _ _ _ (Or.inl q)⟩
  refine codeAny_call_function room.depth (inK _ _ lk) rfl sc.co sc.gen rfl (PySem.W.codeRec_of inK hcode) (bi _ _ _ _ ?_)
  refine wpAny_newFunctionEnv_cells sc.kind kinds fun env' he s1 hs1 => ?_
  subst he
  refine ⟨Heap.NoLimit.keeps nolim hs1.toInCall.keep, codeAny_func ?_⟩
  obtain ⟨t, pt, rd⟩ := bd cdv A outer s H vs Q E rfl (Room.deeper room _) gu want
  have I0 := inv_start (CX := L2.CX P w) (mg := mg) (qual := qual) (f := f) (cd := cdv) (E := E) sc room.hd env (hl _ _ _ _ want) rel hs1
  refine wpAny_mono (pt.run [] s1 _ H _ I0 rd) ?_ (fun e s' q => q)
  intro fl s' q
  have close : ∀ (σ' : L2.St) (H' : Hp) (v : V) (u : Value), Inv (cxOf (L2.CX P w) P w K mg base N qual scope f cdv A outer s H E) [] σ' H' s' → RelV v u → Q v H' → CE outer P w H s Q u s' :=
    fun σ' H' v u J rv qq => Exists.intro v (Exists.intro H' ⟨J.os, J.bare, J.base, J.hok, rv, qq⟩)
  match fl, q with
  | .ret u, ⟨v, σ', H', J, rv, qq⟩ => exact close σ' H' v u J rv qq
  | .next, ⟨σ', H', J, qq⟩ => exact close σ' H' .non Value.none J rfl qq
  | .brk, ⟨_, _, _, z⟩ => exact z.elim
  | .cont, ⟨_, _, _, z⟩ => exact z.elim
end
/-- the callee runs -/
theorem run_g {X : Cx} {k : Nat} {f : Addr} {fd : FuncData} {ps : List Str} {sp : Sp} {E : XK} {pins : List (Addr × Obj)} {σ : L2.St} {H : Hp} {s : Shared} {Q : VK} {pos us : List Value} {kw : List (Str × Value)} {vs : List V}
    (F : FnG X.prog X.w X.K X.mg X.base k f fd ps sp) (hr : Room k X.A) (hg : X.A.guards = some []) (hb : BindsTo s fd ⟨pos, kw⟩ (ps.zip us)) (hx : PassesAt (L2.CX X.prog X.w) X σ E) (I : Inv X pins σ H s) (r : Vals vs us) (h : sp vs H Q E) :
    wpAny (model X.prog X.w) X.A (call (.ref f) pos kw) (EP X pins σ Q) X.xe s := by
  refine wpAny_call (codeAny_mono (F.run X.A X.stack s H ⟨pos, kw⟩ us vs Q E hr hg I.env0 hb r h) ?_)
  intro r s' q
  match r, q with
  | .error e, q => exact hx pins H s e s' I q
  | .ok (.ret u), q => exact Inv.after I q
  | .ok .next, q => exact q.elim
  | .ok .brk, q => exact q.elim
  | .ok .cont, q => exact q.elim

/-! ### the promise by a function of data -/
def spOf (K : PySem.W.Frag) (mg : Str → Option Value) (T : List (Addr × Str)) (fr : Bool) (n : Nat) (f : OpB) : Sp := fun vs H Q E =>
  ∃ F μ S ds, SR K T F μ S H ∧ Reps K F μ ds vs ∧ vs.length = n ∧ GP K T F μ (f ds S) (OkV K fr Q) (ErW K mg E)
/-- the def x of the module (no defaults) does f -/
structure DefG (P : Program) (w : World) (K : PySem.W.Frag) (mg : Str → Option Value) (base : Heap) (T : List (Addr × Str)) (k : Nat) (x : Str) (params : Arguments) (body : List Stmt) (scope : Scope) (ps : List Str) (fr : Bool) (o : OpB) : Prop where
  ex : ∃ f fd, FunD K x x params body scope [] [] f fd ∧ mg x = some (.ref f) ∧ FnG P w K mg base k f fd ps (spOf K mg T fr ps.length o)
theorem DefG.mono {P : Program} {w : World} {K : PySem.W.Frag} {mg : Str → Option Value} {base : Heap} {T : List (Addr × Str)} {j k : Nat} {x : Str} {params : Arguments} {body : List Stmt} {scope : Scope} {ps : List Str} {fr : Bool} {o : OpB}
    (h : DefG P w K mg base T j x params body scope ps fr o) (l : j ≤ k) : DefG P w K mg base T k x params body scope ps fr o := by
  obtain ⟨f, fd, a, b, c⟩ := h.ex
  exact ⟨f, fd, a, b, c.mono l⟩
/-- how positional values bind -/
def Posn (params : Arguments) (body : List Stmt) (scope : Scope) (x : Str) (ps : List Str) : Prop := ∀ (kV doc pm : Value) (an : Option Addr) (cdv ct : Value) (us : List Value), us.length = ps.length → bindArgs (PySem.W.fnOf x x params body scope .none kV doc pm an cdv ct) ⟨us, []⟩ = pure (ps.zip us)
/-- how keywords bind: g puts positional values and keywords' values in the parameters' order -/
def Keyn (params : Arguments) (body : List Stmt) (scope : Scope) (x : Str) (ps ks : List Str) (n : Nat) (g : {α : Type} → List α → List α → List α) : Prop := ∀ (kV doc pm : Value) (an : Option Addr) (cdv ct : Value) (us ws : List Value), us.length = n → ws.length = ks.length →
  bindArgs (PySem.W.fnOf x x params body scope .none kV doc pm an cdv ct) ⟨us, ks.zip ws⟩ = pure (ps.zip (g us ws))
theorem FunD.to {K : PySem.W.Frag} {x qual : Str} {params : Arguments} {body : List Stmt} {scope : Scope} {f : Addr} {fd : FuncData} (F : FunD K x qual params body scope [] [] f fd) : ∃ kV doc pm an cdv ct, fd = PySem.W.fnOf x qual params body scope .none kV doc pm an cdv ct := by
  obtain ⟨oc, od, dV, kV, doc, pm, an, cdv, ct, osl, rfl, lk, hcd, hD, hK⟩ := F.ex
  rcases hD with ⟨_, rfl⟩ | ⟨e, _⟩
  · exact ⟨kV, doc, pm, an, cdv, ct, rfl⟩
  · exact absurd rfl e
section
variable {X : Cx} {T : List (Addr × Str)} {W : WX} {k : Nat} {x : Str} {params : Arguments} {body : List Stmt} {scope : Scope} {ps ks : List Str} {fr : Bool} {o : OpB} {p pos : Pos} {e : Expr} {es : List Expr} {kws : List Keyword} {c cs : AX}
def cCall (n : Nat) (o : OpB) (r : AX) : EX := fun ρ S => bindO (r ρ S) fun ds S => if ds.length = n then o ds S else none
/-- f(e, ..) -/
theorem re_call (G : DefG X.prog X.w X.K X.mg X.base T k x params body scope ps fr o) (hp : Posn params body scope x ps) (hr : Room k X.A) (hgu : X.A.guards = some []) (hx : ∀ σ, PassesAt (L2.CX X.prog X.w) X σ fun cls d H => W cls d σ H)
    (ha : RA T X W (e :: es) c) (hg : Gl X x := by rfl) (hdb : (x == ("__debug__" : Str)) = false := by decide) (he : starEach (e :: es) X.env = (false, eval e X.env) :: starEach es X.env := by rfl) (hpl : (backTo pos (starEach es X.env)).any (·.1) = false := by rfl) :
    RE T fr X W (.Call (.Name x p) (e :: es) [] pos) (cCall ps.length o c) := by
  obtain ⟨f, fd, FD, hm, FG⟩ := G.ex
  obtain ⟨t, pa, rd⟩ := ha
  refine ⟨fun σ H Q => t σ H fun vs H1 => spOf X.K X.mg T fr ps.length o vs H1 Q (fun cls d H => W cls d σ H), ⟨fun pins s σ H Q I h => ?_⟩, fun σ ρ F μ S H Q s hE g => ?_⟩
  · refine wpAny_Call_Name_kw (ld_glob I hg hm ?_ hdb)
    refine PySem.W.callWith_K (h₀ := X.base) I.ok.mod.kin FD.kp (thn (pa.run pos pins s σ H _ I h) fun us s1 ⟨vs, H1, I1, r, q⟩ => ⟨I1.kIn, ?_⟩) he hpl
    obtain ⟨kV, doc, pm, an, cdv, ct, rfl⟩ := FunD.to FD
    have hl : us.length = ps.length := by
      obtain ⟨_, _, _, _, _, _, hl, _⟩ := id q
      rw [← r.length]; exact hl
    exact run_g (us := us) FG hr hgu (.of_eq (hp _ _ _ _ _ _ us hl)) (hx σ) I1 r q
  · refine rd σ ρ F μ S H _ s hE (GP.seq g fun ds F1 μ1 H1 S1 e1 p1 s1 g1 vs rs => ?_)
    split at g1
    · rename_i hn
      exact ⟨F1, μ1, S1, ds, s1, rs, by rw [← rs.length]; exact hn, g1⟩
    · exact g1.elim
/-- f(e, .., k = v, ..); n positional values -/
def cCallK (n m : Nat) (g : List D → List D → List D) (o : OpB) (r rk : AX) : EX := fun ρ S => bindO (r ρ S) fun ds S => bindO (rk ρ S) fun es S => if ds.length = n ∧ es.length = m then o (g ds es) S else none
theorem re_callK {n : Nat} {g : {α : Type} → List α → List α → List α} (G : DefG X.prog X.w X.K X.mg X.base T k x params body scope ps fr o) (hp : Keyn params body scope x ps ks n g) (hgr : ∀ {K F μ} {ds es : List D} {vs us : List V}, ds.length = n → es.length = ks.length → Reps K F μ ds vs → Reps K F μ es us → Reps K F μ (g ds es) (g vs us))
    (hgv : ∀ {vs us : List V} {ws zs : List Value}, vs.length = n → us.length = ks.length → Vals vs ws → Vals us zs → Vals (g vs us) (g ws zs)) (hgl : ∀ {ds es : List V}, ds.length = n → es.length = ks.length → (g ds es).length = ps.length)
    (hr : Room k X.A) (hgu : X.A.guards = some []) (hx : ∀ σ, PassesAt (L2.CX X.prog X.w) X σ fun cls d H => W cls d σ H)
    (ha : RA T X W (e :: es) c) (hkw : RK T X W kws cs) (hg : Gl X x := by rfl) (hall : (backToKw pos (keywordEach kws X.env)).all (·.1.isSome) = true := by rfl) (hks : (backToKw pos (keywordEach kws X.env)).filterMap (·.1) = ks := by rfl)
    (hdb : (x == ("__debug__" : Str)) = false := by decide) (he : starEach (e :: es) X.env = (false, eval e X.env) :: starEach es X.env := by rfl)
    (hpl : ((backTo pos (starEach (e :: es) X.env)).any (·.1) || (backToKw pos (keywordEach kws X.env)).any (·.1.isNone)) = false := by rfl) :
    RE T fr X W (.Call (.Name x p) (e :: es) kws pos) (cCallK n ks.length g o c cs) := by
  obtain ⟨f, fd, FD, hm, FG⟩ := G.ex
  obtain ⟨t, pa, rd⟩ := ha
  obtain ⟨t2, pk, rd2⟩ := hkw
  refine ⟨fun σ H Q => t σ H fun vs H1 => t2 σ H1 fun us H2 => vs.length = n ∧ us.length = ks.length ∧ spOf X.K X.mg T fr ps.length o (g vs us) H2 Q (fun cls d H => W cls d σ H), ⟨fun pins s σ H Q I h => ?_⟩, fun σ ρ F μ S H Q s hE g => ?_⟩
  · refine wpAny_Call_Name_kw (ld_glob I hg hm ?_ hdb)
    refine PySem.W.callWith_KW (h₀ := X.base) I.ok.mod.kin FD.kp hall (thn (pa.run pos pins s σ H _ I h) fun us s1 ⟨vs, H1, I1, r, q⟩ => ?_) hpl he
    refine thn (pk.run pos pins s1 σ H1 _ I1 q) fun ws s2 ⟨zs, H2, I2, rz, l1, l2, q2⟩ => ⟨I2.kIn, ?_⟩
    obtain ⟨kV, doc, pm, an, cdv, ct, rfl⟩ := FunD.to FD
    rw [hks]
    exact run_g (us := g us ws) FG hr hgu (.of_eq (hp _ _ _ _ _ _ us ws (by rw [← r.length]; exact l1) (by rw [← rz.length]; exact l2))) (hx σ) I2 (hgv l1 l2 r rz) q2
  · refine rd σ ρ F μ S H _ s hE (GP.seq g fun ds F1 μ1 H1 S1 e1 p1 s1 g1 vs rs => ?_)
    refine rd2 σ ρ F1 μ1 S1 H1 _ s1 (hE.mono e1 p1) (GP.seq g1 fun es F2 μ2 H2 S2 e2 p2 s2 g2 us ru => ?_)
    split at g2
    · rename_i hn
      have l1 : vs.length = n := by rw [← rs.length]; exact hn.1
      have l2 : us.length = ks.length := by rw [← ru.length]; exact hn.2
      exact ⟨l1, l2, F2, μ2, S2, _, s2, hgr hn.1 hn.2 (rs.mono e2 p2) ru, hgl l1 l2, g2⟩
    · exact g2.elim
/-- f(k = v, ..) -/
theorem re_callK0 {g : {α : Type} → List α → List α → List α} (G : DefG X.prog X.w X.K X.mg X.base T k x params body scope ps fr o) (hp : Keyn params body scope x ps ks 0 g) (hgr : ∀ {K F μ} {ds es : List D} {vs us : List V}, ds.length = 0 → es.length = ks.length → Reps K F μ ds vs → Reps K F μ es us → Reps K F μ (g ds es) (g vs us))
    (hgv : ∀ {vs us : List V} {ws zs : List Value}, vs.length = 0 → us.length = ks.length → Vals vs ws → Vals us zs → Vals (g vs us) (g ws zs)) (hgl : ∀ {ds es : List V}, ds.length = 0 → es.length = ks.length → (g ds es).length = ps.length)
    (hr : Room k X.A) (hgu : X.A.guards = some []) (hx : ∀ σ, PassesAt (L2.CX X.prog X.w) X σ fun cls d H => W cls d σ H)
    (hkw : RK T X W kws cs) (hg : Gl X x := by rfl) (hall : (backToKw pos (keywordEach kws X.env)).all (·.1.isSome) = true := by rfl) (hks : (backToKw pos (keywordEach kws X.env)).filterMap (·.1) = ks := by rfl)
    (hdb : (x == ("__debug__" : Str)) = false := by decide)
    (hpl : ((backTo pos (starEach [] X.env)).any (·.1) || (backToKw pos (keywordEach kws X.env)).any (·.1.isNone)) = false := by rfl) :
    RE T fr X W (.Call (.Name x p) [] kws pos) (cCallK 0 ks.length g o aNil cs) := by
  obtain ⟨f, fd, FD, hm, FG⟩ := G.ex
  obtain ⟨t2, pk, rd2⟩ := hkw
  refine ⟨fun σ H Q => t2 σ H fun us H2 => us.length = ks.length ∧ spOf X.K X.mg T fr ps.length o (g [] us) H2 Q (fun cls d H => W cls d σ H), ⟨fun pins s σ H Q I h => ?_⟩, fun σ ρ F μ S H Q s hE g => ?_⟩
  · refine wpAny_Call_Name_kw (ld_glob I hg hm ?_ hdb)
    refine PySem.W.callWith_KW0 (h₀ := X.base) I.ok.mod.kin FD.kp hall ?_ hpl
    refine thn (pk.run pos pins s σ H _ I h) fun ws s2 ⟨zs, H2, I2, rz, l2, q2⟩ => ⟨I2.kIn, ?_⟩
    obtain ⟨kV, doc, pm, an, cdv, ct, rfl⟩ := FunD.to FD
    rw [hks]
    exact run_g (us := g [] ws) FG hr hgu (.of_eq (hp _ _ _ _ _ _ [] ws rfl (by rw [← rz.length]; exact l2))) (hx σ) I2 (hgv rfl l2 .nil rz) q2
  · have g0 := g
    unfold cCallK aNil at g
    rw [bindO_ok] at g
    refine rd2 σ ρ F μ S H _ s hE (GP.seq g fun es F2 μ2 H2 S2 e2 p2 s2 g2 us ru => ?_)
    split at g2
    · rename_i hn
      have l2 : us.length = ks.length := by rw [← ru.length]; exact hn.2
      exact ⟨l2, F2, μ2, S2, _, s2, hgr rfl hn.2 .nil ru, hgl rfl l2, g2⟩
    · exact g2.elim
/-- the orders that come up: two by two -/
def kSwap {α : Type} : List α → List α → List α
  | [], [a, b] => [b, a]
  | xs, ys => xs ++ ys
def kSame {α : Type} (xs ys : List α) : List α := xs ++ ys
end

/-! ### repr -/
def reprOk (d : D) : Bool := d.pure && d.py.showable && decide (d.py.depth ≤ 60) && decide (d.py.shown.length ≤ sizeLine)
def bRepr : OpB := fun ds S => match ds with
  | [d] => if reprOk (told S d) = true then some (.ok (.str (told S d).py.shown), S) else none
  | _ => none
mutual
theorem py_nodict : ∀ d : D, d.py.hasDict = false
  | .non => by simp [D.py, PyData.hasDict]
  | .bl b => by simp [D.py, PyData.hasDict]
  | .int i => by simp [D.py, PyData.hasDict]
  | .str x => by simp [D.py, PyData.hasDict]
  | .tup xs => by simp [D.py, PyData.hasDict, pys_nodict xs]
  | .lst xs => by simp [D.py, PyData.hasDict, pys_nodict xs]
  | .loc n => by simp [D.py, PyData.hasDict]
  | .fz n => by simp [D.py, PyData.hasDict]
  | .fn n => by simp [D.py, PyData.hasDict]
  | .dct n => by simp [D.py, PyData.hasDict]
  | .ins n _ _ => by simp [D.py, PyData.hasDict]
  | .dks n _ => by simp [D.py, PyData.hasDict]
  | .obj n _ => by simp [D.py, PyData.hasDict]
  | .dkc n => by simp [D.py, PyData.hasDict]
  | .gfn n => by simp [D.py, PyData.hasDict]
  | .tpn xs => by simp [D.py, PyData.hasDict, pys_nodict xs]
theorem pys_nodict : ∀ xs : List D, PyData.hasDictAll (D.pys xs) = false
  | [] => by simp [D.pys, PyData.hasDictAll]
  | x :: xs => by simp [D.pys, PyData.hasDictAll, py_nodict x, pys_nodict xs]
end
/-- the text of data -/
def rRepr (K : PySem.W.Frag) : List V → Hp → VK → Prop := fun vs H Q => ∃ v d, vs = [v] ∧ Dp K H v d ∧ d.showable = true ∧ d.hasDict = false ∧ d.depth ≤ 60 ∧ d.shown.length ≤ sizeLine ∧ Q (.str d.shown) H
theorem call_repr {X : Cx} (hg : X.A.guards = some []) (hu : X.A.units + 64 < cLine) : CallR X (.builtin "repr") (rRepr X.K) := by
  intro pins s σ H xs us Q I r h
  obtain ⟨v, d, rfl, hd, h1, h2, h3, h4, q⟩ := h
  obtain ⟨u, rfl, ru⟩ := vals1 r
  have fin : ∀ (t : Tok) (s' : Shared), Inv X pins σ H s' → EP X pins σ Q (.str d.shown t) s' := fun t s' J => ⟨.str d.shown, H, J, ⟨t, rfl⟩, q⟩
  cases hd with
  | non => cases ru; exact PySem.P.repr_of_none (fin _ _ (I.tok _))
  | bl b =>
    cases ru
    refine PySem.P.repr_of_bool ?_
    cases b <;> exact fin _ _ (I.tok _)
  | int i =>
    obtain ⟨t, rfl⟩ := ru
    have h1' : i.natAbs.log2 < 1920 := by simpa [PyData.showable] using h1
    exact PySem.P.repr_of_int h1' (fin _ _ (I.tok _))
  | str x =>
    obtain ⟨t, rfl⟩ := ru
    exact PySem.P.repr_of_str (fin _ _ (I.tok _)) h4
  | lst hs ha =>
    have rv := ru
    cases ru
    obtain ⟨as, rd⟩ := Dp.reads I _ _ _ (.lst hs ha) rv
    exact repr_of_reads' rd h1 (fun z => by rw [h2] at z; cases z) hg (by omega) (fun b o e => e) (fun h' t tk kk => fin _ _ (I.kept kk)) h4
  | tup hs ha =>
    have rv := ru
    cases ru
    obtain ⟨as, rd⟩ := Dp.reads I _ _ _ (.tup hs ha) rv
    exact repr_of_reads' rd h1 (fun z => by rw [h2] at z; cases z) hg (by omega) (fun b o e => e) (fun h' t tk kk => fin _ _ (I.kept kk)) h4
theorem bRepr_ok {X : Cx} {T : List (Addr × Str)} : BltOk X T false (rRepr X.K) bRepr := by
  intro F μ S H ds vs Q er s rs h
  unfold bRepr at h
  split at h
  · obtain ⟨v, rfl, r⟩ := rs.inv1
    split at h
    · rename_i d hc
      unfold reprOk at hc
      simp only [Bool.and_eq_true, decide_eq_true_eq] at hc
      obtain ⟨⟨⟨h1, h2⟩, h3⟩, h4⟩ := hc
      exact ⟨v, _, rfl, dp_told s r h1, h2, py_nodict _, h3, h4, gp_val h s (.str _)⟩
    · exact h.elim
  · exact h.elim
end PF
set_option Elab.async false
set_option linter.all false
set_option maxRecDepth 100000
set_option maxHeartbeats 4000000
/-! PF5: what is walked, targets, comprehensions. -/
namespace PF
open PySem L2 Evl PySem.Spec PyProof.Rows
/-! ### what is walked -/
inductive Src where
  | items (ds : List D) | cell (n : Nat) | enum (s : Src) | zip (a b : Src)
def numb : Nat → List D → List D
  | _, [] => []
  | i, d :: ds => .tup [.int i, d] :: numb (i + 1) ds
theorem numb_get : ∀ (ds : List D) (k i : Nat), (numb k ds)[i]? = (ds[i]?).map fun d => .tup [.int ((k + i : Nat) : Int), d]
  | [], _, _ => by simp [numb]
  | d :: ds, k, 0 => by simp [numb]
  | d :: ds, k, i + 1 => by
    simp only [numb, List.getElem?_cons_succ, numb_get ds (k + 1) i]
    have : k + 1 + i = k + (i + 1) := by omega
    rw [this]
theorem numb_len : ∀ (ds : List D) (k : Nat), (numb k ds).length = ds.length
  | [], _ => rfl
  | d :: ds, k => by simp [numb, numb_len ds (k + 1)]
def zipD : List D → List D → List D
  | d :: ds, e :: es => .tup [d, e] :: zipD ds es
  | _, _ => []
theorem zipD_get : ∀ (ds es : List D) (i : Nat) (x : D), (zipD ds es)[i]? = some x → ∃ d e, ds[i]? = some d ∧ es[i]? = some e ∧ x = .tup [d, e]
  | d :: ds, e :: es, 0, x, h => by simp [zipD] at h; exact ⟨d, e, rfl, rfl, h.symm⟩
  | d :: ds, e :: es, i + 1, x, h => by
    simp only [zipD, List.getElem?_cons_succ] at h ⊢
    exact zipD_get ds es i x h
  | [], _, i, x, h => by simp [zipD] at h
  | _ :: _, [], i, x, h => by simp [zipD] at h
theorem zipD_len : ∀ (ds es : List D), (zipD ds es).length = min ds.length es.length
  | d :: ds, e :: es => by simp [zipD, zipD_len ds es]
  | [], es => by simp [zipD]
  | _ :: _, [] => by simp [zipD]
def srcAt : Src → Store → Option (List D)
  | .items ds, _ => some ds
  | .cell n, S => S[n]?
  | .enum s, S => (srcAt s S).map (numb 0)
  | .zip a b, S => match srcAt a S, srcAt b S with
    | some xs, some ys => some (zipD xs ys)
    | _, _ => none
/-- J walks it, whatever has happened meanwhile -/
def Walks (K : PySem.W.Frag) (T : List (Addr × Str)) (F0 : Hp) (μ0 : List MA) (src : Src) (J : It) : Prop :=
  ∀ F μ S H ds i, Ex F0 F → μ0 <+: μ → SR K T F μ S H → srcAt src S = some ds →
    (∀ d, ds[i]? = some d → J.go i H ∧ ∀ x H', J.yld i H x H' → ∃ F', Ex F F' ∧ SR K T F' μ S H' ∧ Rep K F' μ d x) ∧ (ds.length ≤ i → J.stop i H)
abbrev IX := PF.Env → Store → Out Src
def RI (T : List (Addr × Str)) (X : Cx) (W : WX) (tg e : Expr) (c : IX) : Prop := ∃ wi, PI X tg e wi ∧
  ∀ σ ρ F μ S H (R : It → Hp → Prop), SR X.K T F μ S H → EnvR X.K F μ ρ σ → GP X.K T F μ (c ρ S) (fun src F' μ' H' _ => ∀ J, Walks X.K T F' μ' src J → R J H') (ErW X.K X.mg fun cls dd H' => W cls dd σ H') → wi σ H R
/-- a list or a tuple as a value tells what is walked -/
def srcOf : D → Option Src
  | .tup ds => some (.items ds)
  | .lst ds => some (.items ds)
  | .fz ds => some (.items ds)
  | .loc n => some (.cell n)
  | _ => none
section
variable {K : PySem.W.Frag} {T : List (Addr × Str)} {F H : Hp} {μ : List MA} {S : Store} {d : D} {v : V} {src src2 : Src} {a b : Addr}
/-- at each later state a is a list (a tuple) of what src has -/
def StandL (K : PySem.W.Frag) (T : List (Addr × Str)) (F0 : Hp) (μ0 : List MA) (src : Src) (a : Addr) : Prop := ∀ F μ S H ds, Ex F0 F → μ0 <+: μ → SR K T F μ S H → srcAt src S = some ds → ∃ vs, SqL K H a vs ∧ Reps K F μ ds vs
def StandT (K : PySem.W.Frag) (T : List (Addr × Str)) (F0 : Hp) (μ0 : List MA) (src : Src) (a : Addr) : Prop := ∀ F μ S H ds, Ex F0 F → μ0 <+: μ → SR K T F μ S H → srcAt src S = some ds → ∃ vs, SqT K H a vs ∧ Reps K F μ ds vs
theorem StandL.mono {F' : Hp} {μ' : List MA} (h : StandL K T F μ src a) (e : Ex F F') (p : μ <+: μ') : StandL K T F' μ' src a := fun F2 μ2 S H ds e2 p2 s q => h F2 μ2 S H ds (e.trans e2) (p.trans p2) s q
theorem StandT.mono {F' : Hp} {μ' : List MA} (h : StandT K T F μ src a) (e : Ex F F') (p : μ <+: μ') : StandT K T F' μ' src a := fun F2 μ2 S H ds e2 p2 s q => h F2 μ2 S H ds (e.trans e2) (p.trans p2) s q
theorem walks_l (h : StandL K T F μ src a) : Walks K T F μ src (Itl K a) := by
  intro F' μ' S H ds i e p s q
  obtain ⟨vs, h1, h2⟩ := h F' μ' S H ds e p s q
  refine ⟨fun d hd => ?_, fun hl => ⟨vs, h1, by rw [← h2.length]; exact hl⟩⟩
  obtain ⟨v, k1, k2⟩ := h2.get hd
  refine ⟨⟨vs, v, h1, k1⟩, fun x H' y => ?_⟩
  obtain ⟨rfl, y⟩ := y
  have := (y vs h1).symm.trans k1
  cases this
  exact ⟨F', Ex.refl _, s, k2⟩
theorem walks_t (h : StandT K T F μ src a) : Walks K T F μ src (Itt K a) := by
  intro F' μ' S H ds i e p s q
  obtain ⟨vs, h1, h2⟩ := h F' μ' S H ds e p s q
  refine ⟨fun d hd => ?_, fun hl => ⟨vs, h1, by rw [← h2.length]; exact hl⟩⟩
  obtain ⟨v, k1, k2⟩ := h2.get hd
  refine ⟨⟨vs, v, h1, k1⟩, fun x H' y => ?_⟩
  obtain ⟨rfl, y⟩ := y
  have := (y vs h1).symm.trans k1
  cases this
  exact ⟨F', Ex.refl _, s, k2⟩
def ranged (lo : Int) : Nat → List D
  | 0 => []
  | n + 1 => .int lo :: ranged (lo + 1) n
theorem ranged_get : ∀ (n : Nat) (lo : Int) (i : Nat), i < n → (ranged lo n)[i]? = some (.int (lo + i))
  | n + 1, lo, 0, _ => by simp [ranged]
  | n + 1, lo, i + 1, h => by
    simp only [ranged, List.getElem?_cons_succ]
    rw [ranged_get n (lo + 1) i (by omega)]
    have : lo + 1 + (i : Int) = lo + ((i + 1 : Nat) : Int) := by omega
    rw [this]
theorem ranged_len : ∀ (n : Nat) (lo : Int), (ranged lo n).length = n
  | 0, _ => rfl
  | n + 1, lo => by simp [ranged, ranged_len n]
theorem walks_r {lo : Int} {n : Nat} : Walks K T F μ (.items (ranged lo n)) (Itr lo n) := by
  intro F' μ' S H ds i e p s q
  cases q
  refine ⟨fun d hd => ?_, fun hl => by rw [ranged_len] at hl; exact hl⟩
  have hi : i < n := by
    have := (List.getElem?_eq_some_iff.mp hd).1
    rw [ranged_len] at this; exact this
  rw [ranged_get n lo i hi] at hd
  cases hd
  refine ⟨hi, fun x H' y => ?_⟩
  obtain ⟨rfl, rfl⟩ := y
  exact ⟨F', Ex.refl _, s, .int _⟩
theorem walks_e (h : StandL K T F μ src a) : Walks K T F μ (.enum src) (Ite K a) := by
  intro F' μ' S H ds i e p s q
  simp only [srcAt, Option.map_eq_some_iff] at q
  obtain ⟨es, q, rfl⟩ := q
  obtain ⟨vs, h1, h2⟩ := h F' μ' S H es e p s q
  refine ⟨fun d hd => ?_, fun hl => ⟨vs, h1, by rw [← h2.length]; rw [numb_len] at hl; exact hl⟩⟩
  rw [numb_get, Option.map_eq_some_iff] at hd
  obtain ⟨d', hd, rfl⟩ := hd
  obtain ⟨v, k1, k2⟩ := h2.get hd
  refine ⟨⟨vs, v, h1, k1⟩, fun x H' y => ?_⟩
  obtain ⟨A, w, rfl, hA, rfl, y⟩ := y
  have := (y vs h1).symm.trans k1
  cases this
  have hF := fresh_back s.ex hA
  rw [Nat.zero_add]
  exact ⟨upd F' A (.tup [.int (i : Nat), _]), Ex.new hF, s.new hA, .tup (st_of upd_same) (.cons (.int _) (.cons (k2.mono (Ex.new hF) (List.prefix_refl _)) .nil))⟩
theorem walks_z (h : StandL K T F μ src a) (k : StandL K T F μ src2 b) : Walks K T F μ (.zip src src2) (Itz K a b) := by
  intro F' μ' S H ds i e p s q
  simp only [srcAt] at q
  split at q
  · rename_i es fs q1 q2
    cases q
    obtain ⟨vs, h1, h2⟩ := h F' μ' S H es e p s q1
    obtain ⟨us, k1, k2⟩ := k F' μ' S H fs e p s q2
    refine ⟨fun d hd => ?_, fun hl => ⟨vs, us, h1, k1, by rw [zipD_len] at hl; rw [← h2.length, ← k2.length]; omega⟩⟩
    obtain ⟨x, y, e1, e2, rfl⟩ := zipD_get _ _ _ _ hd
    obtain ⟨v, a1, a2⟩ := h2.get e1
    obtain ⟨u, b1, b2⟩ := k2.get e2
    refine ⟨⟨vs, us, v, u, h1, k1, a1, b1⟩, fun x H' z => ?_⟩
    obtain ⟨A, x', y', rfl, hA, rfl, z1, z2⟩ := z
    have t1 := (z1 vs h1).symm.trans a1
    have t2 := (z2 us k1).symm.trans b1
    cases t1; cases t2
    have hF := fresh_back s.ex hA
    exact ⟨upd F' A (.tup [_, _]), Ex.new hF, s.new hA, .tup (st_of upd_same) (.cons (a2.mono (Ex.new hF) (List.prefix_refl _)) (.cons (b2.mono (Ex.new hF) (List.prefix_refl _)) .nil))⟩
  · cases q
theorem walks_zT (h : StandT K T F μ src a) (k : StandT K T F μ src2 b) : Walks K T F μ (.zip src src2) (RZ.ItzT K a b) := by
  intro F' μ' S H ds i e p s q
  simp only [srcAt] at q
  split at q
  · rename_i es fs q1 q2
    cases q
    obtain ⟨vs, h1, h2⟩ := h F' μ' S H es e p s q1
    obtain ⟨us, k1, k2⟩ := k F' μ' S H fs e p s q2
    refine ⟨fun d hd => ?_, fun hl => ⟨vs, us, h1, k1, by rw [zipD_len] at hl; rw [← h2.length, ← k2.length]; omega⟩⟩
    obtain ⟨x, y, e1, e2, rfl⟩ := zipD_get _ _ _ _ hd
    obtain ⟨v, a1, a2⟩ := h2.get e1
    obtain ⟨u, b1, b2⟩ := k2.get e2
    refine ⟨⟨vs, us, v, u, h1, k1, a1, b1⟩, fun x H' z => ?_⟩
    obtain ⟨A, x', y', rfl, hA, rfl, z1, z2⟩ := z
    have t1 := (z1 vs h1).symm.trans a1
    have t2 := (z2 us k1).symm.trans b1
    cases t1; cases t2
    have hF := fresh_back s.ex hA
    exact ⟨upd F' A (.tup [_, _]), Ex.new hF, s.new hA, .tup (st_of upd_same) (.cons (a2.mono (Ex.new hF) (List.prefix_refl _)) (.cons (b2.mono (Ex.new hF) (List.prefix_refl _)) .nil))⟩
  · cases q
/-- a list or tuple value stands -/
theorem stand (s : SR K T F μ S H) (r : Rep K F μ d v) (h : srcOf d = some src) : ∃ a, v = .ref a ∧ (((∃ vs, SqL K H a vs) ∧ StandL K T F μ src a) ∨ ((∃ vs, SqT K H a vs) ∧ StandT K T F μ src a)) := by
  cases r with
  | @tup a xs ds hq rs =>
    cases h
    exact ⟨a, rfl, .inr ⟨⟨xs, s.sqT hq⟩, fun F' μ' S' H' es e p s' q => by cases q; exact ⟨xs, s'.sqT (ex_t e hq), rs.mono e p⟩⟩⟩
  | @lst a xs ds hq rs =>
    cases h
    exact ⟨a, rfl, .inl ⟨⟨xs, sq_of (s.ex _ _ hq)⟩, fun F' μ' S' H' es e p s' q => by cases q; exact ⟨xs, sq_of (s'.ex _ _ (e _ _ hq)), rs.mono e p⟩⟩⟩
  | @fz a xs ds hq rs =>
    cases h
    exact ⟨a, rfl, .inl ⟨⟨xs, s.sqL hq⟩, fun F' μ' S' H' es e p s' q => by cases q; exact ⟨xs, s'.sqL (ex_l e hq), rs.mono e p⟩⟩⟩
  | @loc n a hm =>
    cases h
    obtain ⟨ds, vs, h1, h2, h3, _⟩ := s.get hm
    refine ⟨a, rfl, .inl ⟨⟨vs, sq_of h2⟩, fun F' μ' S' H' es e p s' q => ?_⟩⟩
    obtain ⟨ds', vs', k1, k2, k3, _⟩ := s'.get (pre_get p hm)
    simp only [srcAt] at q
    rw [k1] at q; cases q
    exact ⟨vs', sq_of k2, k3⟩
  | _ => cases h
end
/-! ### what a for, a comprehension walks -/
section
variable {X : Cx} {T : List (Addr × Str)} {W : WX} {tg e e2 : Expr} {c : EX} {ca : AX} {p pos : Pos}
def cSeqI (c : EX) : IX := fun ρ S => bindO (c ρ S) fun d S => match srcOf d with
  | some src => some (.ok src, S)
  | none => none
theorem ri_seq (h : RE T false X W e c) : RI T X W tg e (cSeqI c) := by
  obtain ⟨t, pe, f⟩ := h
  refine ⟨fun σ H R => t σ H fun x H1 => ∃ a, x = .ref a ∧ (((∃ vs, SqL X.K H1 a vs) ∧ R (Itl X.K a) H1) ∨ ((∃ vs, SqT X.K H1 a vs) ∧ R (Itt X.K a) H1)), ⟨fun pins s σ H R I h => ?_⟩, fun σ ρ F μ S H R s hE g => ?_⟩
  · refine thn (pe.run pins s σ H _ I h) ?_
    rintro v s1 ⟨x, H1, I1, r1, a, rfl, q1⟩
    cases r1
    have newest : ∀ (ob : Obj), Inv X pins σ H1 { s1 with heap := s1.heap.push ob } := fun ob => Inv.kept (t' := s1.toks) I1 fun b o q => Heap.get?_push_of_some _ q
    have foot : ∀ b ∈ [s1.heap.objs.size], FpOk X pins H1 b := fun b hb => by
      rw [List.mem_singleton] at hb
      subst hb
      exact Inv.fpOk I1 (Nat.le_refl _) (HOk.fresh I1.hok (Nat.le_refl _))
    rcases q1 with ⟨⟨vs, hq⟩, q⟩ | ⟨⟨vs, hq⟩, q⟩
    · obtain ⟨its, _, pl, _⟩ := Inv.list I1 hq
      exact wpAny_pyIter_list pl.isList ⟨_, _, _, _, H1, rfl, newest _, turn_list a _, ⟨_, Heap.get?_push_size _ rfl, rfl, rfl⟩, foot, q⟩
    · obtain ⟨its, _, pt, _⟩ := Inv.tuple I1 hq
      exact wpAny_pyIter_tuple (items := its.toArray) pt ⟨_, _, _, _, H1, rfl, newest _, turn_tuple a _, ⟨_, Heap.get?_push_size _ rfl, rfl, rfl⟩, foot, q⟩
  · refine f σ ρ F μ S H _ s hE (GP.seq g fun d F1 μ1 H1 S1 e1 p1 s1 g1 v rv => ?_)
    split at g1
    · rename_i src hs
      obtain ⟨a, rfl, hh⟩ := stand s1 rv hs
      have fin := GP.here g1 s1
      refine ⟨a, rfl, ?_⟩
      rcases hh with ⟨h1, h2⟩ | ⟨h1, h2⟩
      · exact .inl ⟨h1, fin _ (walks_l h2)⟩
      · exact .inr ⟨h1, fin _ (walks_t h2)⟩
    · exact g1.elim
/-- range(n) -/
def cRange1 (c : AX) : IX := fun ρ S => bindO (c ρ S) fun ds S => match ds with
  | [.int n] => if n < 1000000000 ∧ -1000000000 < n then some (.ok (.items (ranged 0 n.toNat)), S) else none
  | _ => none
def cRange2 (c : AX) : IX := fun ρ S => bindO (c ρ S) fun ds S => match ds with
  | [.int m, .int n] => if (n < 1000000000 ∧ -1000000000 < n) ∧ (m < 1000000000 ∧ -1000000000 < m) then some (.ok (.items (ranged m (n - m).toNat)), S) else none
  | _ => none
theorem ri_range1 (ha : RA T X W [e] ca) (hm : X.mg "range" = none) (hg : Gl X "range" := by rfl) (hs : starEach [e] X.env = [(false, eval e X.env)] := by rfl) : RI T X W tg (.Call (.Name "range" p) [e] [] pos) (cRange1 ca) := by
  obtain ⟨t, pa, f⟩ := ha
  refine ⟨_, pi_range1 hg hm pa hs, fun σ ρ F μ S H R s hE g => f σ ρ F μ S H _ s hE (GP.seq g fun ds F1 μ1 H1 S1 e1 p1 s1 g1 vs rs => ?_)⟩
  split at g1
  · rename_i n
    split at g1
    · rename_i hn
      obtain ⟨v, rfl, rv⟩ := rs.inv1
      cases rv
      exact ⟨n, rfl, by omega, by omega, GP.here g1 s1 _ walks_r⟩
    · exact g1.elim
  · exact g1.elim
theorem ri_range2 (ha : RA T X W [e, e2] ca) (hm : X.mg "range" = none) (hg : Gl X "range" := by rfl) (hs : starEach [e, e2] X.env = [(false, eval e X.env), (false, eval e2 X.env)] := by rfl) (hs2 : starEach [e2] X.env = [(false, eval e2 X.env)] := by rfl) :
    RI T X W tg (.Call (.Name "range" p) [e, e2] [] pos) (cRange2 ca) := by
  obtain ⟨t, pa, f⟩ := ha
  refine ⟨_, pi_range2 hg hm pa hs hs2, fun σ ρ F μ S H R s hE g => f σ ρ F μ S H _ s hE (GP.seq g fun ds F1 μ1 H1 S1 e1 p1 s1 g1 vs rs => ?_)⟩
  split at g1
  · rename_i m n
    split at g1
    · rename_i hn
      obtain ⟨v, u, rfl, rv, ru⟩ := rs.inv2
      cases rv; cases ru
      exact ⟨m, n, rfl, ⟨by omega, by omega, by omega, by omega⟩, GP.here g1 s1 _ walks_r⟩
    · exact g1.elim
  · exact g1.elim
/-- enumerate(xs), a list -/
def isL : D → Bool
  | .lst _ => true
  | .fz _ => true
  | .loc _ => true
  | _ => false
def cEnumL (c : AX) : IX := fun ρ S => bindO (c ρ S) fun ds S => match ds with
  | [d] => if isL d = true then (match srcOf d with
    | some src => some (.ok (.enum src), S)
    | none => none) else none
  | _ => none
theorem stand_l {K : PySem.W.Frag} {F H : Hp} {μ : List MA} {S : Store} {d : D} {v : V} {src : Src} (s : SR K T F μ S H) (r : Rep K F μ d v) (h : srcOf d = some src) (hl : isL d = true) : ∃ a, v = .ref a ∧ (∃ vs, SqL K H a vs) ∧ StandL K T F μ src a := by
  cases r with
  | @lst a xs ds hq rs =>
    cases h
    exact ⟨a, rfl, ⟨xs, sq_of (s.ex _ _ hq)⟩, fun F' μ' S' H' es e p s' q => by cases q; exact ⟨xs, sq_of (s'.ex _ _ (e _ _ hq)), rs.mono e p⟩⟩
  | @fz a xs ds hq rs =>
    cases h
    exact ⟨a, rfl, ⟨xs, s.sqL hq⟩, fun F' μ' S' H' es e p s' q => by cases q; exact ⟨xs, s'.sqL (ex_l e hq), rs.mono e p⟩⟩
  | @loc n a hm =>
    cases h
    obtain ⟨ds, vs, h1, h2, h3, _⟩ := s.get hm
    refine ⟨a, rfl, ⟨vs, sq_of h2⟩, fun F' μ' S' H' es e p s' q => ?_⟩
    obtain ⟨ds', vs', k1, k2, k3, _⟩ := s'.get (pre_get p hm)
    simp only [srcAt] at q
    rw [k1] at q; cases q
    exact ⟨vs', sq_of k2, k3⟩
  | _ => cases hl
theorem ri_enumL {elts : List Expr} {kk : Nat} {tpos : Pos} (ha : RA T X W [e] ca) (hm : X.mg "enumerate" = none) (hg : Gl X "enumerate" := by rfl) (hs : starEach [e] X.env = [(false, eval e X.env)] := by rfl) : RI T X W (.Tuple elts kk tpos) (.Call (.Name "enumerate" p) [e] [] pos) (cEnumL ca) := by
  obtain ⟨t, pa, f⟩ := ha
  refine ⟨_, pi_enum hg hm pa hs, fun σ ρ F μ S H R s hE g => f σ ρ F μ S H _ s hE (GP.seq g fun ds F1 μ1 H1 S1 e1 p1 s1 g1 vs rs => ?_)⟩
  split at g1
  · rename_i d
    split at g1
    · rename_i hl
      split at g1
      · rename_i src hsrc
        obtain ⟨v, rfl, rv⟩ := rs.inv1
        obtain ⟨a, rfl, ⟨ws, h1⟩, h2⟩ := stand_l s1 rv hsrc hl
        exact ⟨a, ws, rfl, h1, GP.here g1 s1 _ (walks_e h2)⟩
      · exact g1.elim
    · exact g1.elim
  · exact g1.elim
/-- zip of two lists, of two tuples -/
def cZip (c : AX) : IX := fun ρ S => bindO (c ρ S) fun ds S => match ds with
  | [d, e] => if isL d = isL e then (match srcOf d with
    | some src => (match srcOf e with
      | some src2 => some (.ok (.zip src src2), S)
      | none => none)
    | none => none) else none
  | _ => none
theorem stand_t {K : PySem.W.Frag} {F H : Hp} {μ : List MA} {S : Store} {d : D} {v : V} {src : Src} (s : SR K T F μ S H) (r : Rep K F μ d v) (h : srcOf d = some src) (hl : isL d = false) : ∃ a, v = .ref a ∧ (∃ vs, SqT K H a vs) ∧ StandT K T F μ src a := by
  cases r with
  | @tup a xs ds hq rs =>
    cases h
    exact ⟨a, rfl, ⟨xs, s.sqT hq⟩, fun F' μ' S' H' es e p s' q => by cases q; exact ⟨xs, s'.sqT (ex_t e hq), rs.mono e p⟩⟩
  | lst => cases hl
  | fz => cases hl
  | loc => cases hl
  | _ => cases h
theorem ri_zip {elts : List Expr} {kk : Nat} {tpos : Pos} (ha : RA T X W [e, e2] ca) (hm : X.mg "zip" = none) (hg : Gl X "zip" := by rfl) (hs : starEach [e, e2] X.env = (false, eval e X.env) :: starEach [e2] X.env := by rfl) (hpl : (backTo pos (starEach [e2] X.env)).any (·.1) = false := by rfl) :
    RI T X W (.Tuple elts kk tpos) (.Call (.Name "zip" p) [e, e2] [] pos) (cZip ca) := by
  obtain ⟨t, pa, f⟩ := ha
  refine ⟨_, RZ.pi_zipA hg hm pa hs hpl, fun σ ρ F μ S H R s hE g => f σ ρ F μ S H _ s hE (GP.seq g fun ds F1 μ1 H1 S1 e1 p1 s1 g1 vs rs => ?_)⟩
  split at g1
  · rename_i d d2
    split at g1
    · rename_i hl
      split at g1
      · rename_i src hsrc
        split at g1
        · rename_i src2 hsrc2
          obtain ⟨v, u, rfl, rv, ru⟩ := rs.inv2
          cases hk : isL d2 with
          | true =>
            rw [hk] at hl
            obtain ⟨a, rfl, ⟨ws, h1⟩, h2⟩ := stand_l s1 rv hsrc hl
            obtain ⟨b, rfl, ⟨zs, k1⟩, k2⟩ := stand_l s1 ru hsrc2 hk
            exact ⟨a, b, ws, zs, rfl, .inl ⟨h1, k1, GP.here g1 s1 _ (walks_z h2 k2)⟩⟩
          | false =>
            rw [hk] at hl
            obtain ⟨a, rfl, ⟨ws, h1⟩, h2⟩ := stand_t s1 rv hsrc hl
            obtain ⟨b, rfl, ⟨zs, k1⟩, k2⟩ := stand_t s1 ru hsrc2 hk
            exact ⟨a, b, ws, zs, rfl, .inr ⟨h1, k1, GP.here g1 s1 _ (walks_zT h2 k2)⟩⟩
        · exact g1.elim
      · exact g1.elim
    · exact g1.elim
  · exact g1.elim
end

/-! ### targets -/
abbrev TX := D → PF.Env → Store → Out PF.Env
abbrev TXs := List D → PF.Env → Store → Out PF.Env
def NoEr : XV → Hp → List MA → Hp → Prop := fun _ _ _ _ => False
/-- σ' has other values at the slots js alone -/
def Agree (js : List Nat) (σ σ' : L2.St) : Prop := σ'.length = σ.length ∧ ∀ j, j ∉ js → σ'[j]? = σ[j]?
theorem Agree.refl {js : List Nat} {σ : L2.St} : Agree js σ σ := ⟨rfl, fun _ _ => rfl⟩
theorem Agree.trans {js : List Nat} {σ σ1 σ2 : L2.St} (a : Agree js σ σ1) (b : Agree js σ1 σ2) : Agree js σ σ2 := ⟨b.1.trans a.1, fun j h => (b.2 j h).trans (a.2 j h)⟩
theorem Agree.mono {js ks : List Nat} {σ σ1 : L2.St} (a : Agree js σ σ1) (h : ∀ j ∈ js, j ∈ ks) : Agree ks σ σ1 := ⟨a.1, fun j hj => a.2 j fun z => hj (h j z)⟩
def RG (T : List (Addr × Str)) (X : Cx) (js : List Nat) (tg : Expr) (c : TX) : Prop := ∃ g, PG X tg g ∧
  ∀ d v σ ρ F μ S H (Q : L2.St → Hp → Prop), SR X.K T F μ S H → EnvR X.K F μ ρ σ → Rep X.K F μ d v → GP X.K T F μ (c d ρ S) (fun ρ' F' μ' H' _ => ∀ σ', EnvR X.K F' μ' ρ' σ' → Agree js σ σ' → Q σ' H') NoEr → g v σ H Q
def RGs (T : List (Addr × Str)) (X : Cx) (js : List Nat) (tgs : List Expr) (c : TXs) : Prop := ∃ g, PGs X tgs g ∧
  ∀ ds vs σ ρ F μ S H (Q : L2.St → Hp → Prop), SR X.K T F μ S H → EnvR X.K F μ ρ σ → Reps X.K F μ ds vs → GP X.K T F μ (c ds ρ S) (fun ρ' F' μ' H' _ => ∀ σ', EnvR X.K F' μ' ρ' σ' → Agree js σ σ' → Q σ' H') NoEr → g vs σ H Q
section
variable {X : Cx} {T : List (Addr × Str)} {pos : Pos}
def tName (i : Nat) : TX := fun d ρ S => some (.ok (ρ.set i (some d)), S)
theorem rg_name {i : Nat} {x : Str} (hN : X.N.Nodup) (hi : X.N[i]? = some x := by rfl) (hx : Loc X.env.scope x := by first | exact Or.inl rfl | exact Or.inr rfl) (hf : X.fn x = true ∨ X.env.scope.names.lookup x = some .local := by first | exact .inl rfl | exact .inr rfl) : RG T X [i] (.Name x pos) (tName i) := by
  refine ⟨_, pg_name hN hi hx hf, fun d v σ ρ F μ S H Q s hE r g => ?_⟩
  refine GP.here g s _ (hE.set r) ⟨by simp, fun j hj => ?_⟩
  rw [List.getElem?_set_ne (by simp at hj; exact fun z => hj z.symm)]
def tsNil : TXs := fun ds ρ S => match ds with
  | [] => some (.ok ρ, S)
  | _ => none
def tsCons (t : TX) (r : TXs) : TXs := fun ds ρ S => match ds with
  | d :: ds => bindO (t d ρ S) fun ρ1 S => r ds ρ1 S
  | [] => none
theorem rgs_nil : RGs T X [] [] tsNil := by
  refine ⟨_, pgs_nil, fun ds vs σ ρ F μ S H Q s hE r g => ?_⟩
  cases r with
  | nil => exact ⟨rfl, GP.here g s _ hE Agree.refl⟩
  | cons _ _ => exact g.elim
theorem rgs_cons {js ks : List Nat} {e : Expr} {es : List Expr} {t : TX} {r : TXs} (h : RG T X js e t) (hr : RGs T X ks es r) (hs : (assignEach (e :: es) X.env).map (·.2) = assign e X.env :: (assignEach es X.env).map (·.2) := by rfl) : RGs T X (js ++ ks) (e :: es) (tsCons t r) := by
  obtain ⟨g1, p1, f1⟩ := h
  obtain ⟨g2, p2, f2⟩ := hr
  refine ⟨_, pgs_cons p1 p2 hs, fun ds vs σ ρ F μ S H Q s hE rs g => ?_⟩
  cases rs with
  | nil => exact g.elim
  | cons rd rs =>
    refine ⟨_, _, rfl, f1 _ _ σ ρ F μ S H _ s hE rd (GP.seq g fun ρ1 F1 μ1 H1 S1 e1 q1 s1 gg σ1 hE1 a1 => ?_)⟩
    refine f2 _ _ σ1 ρ1 F1 μ1 S1 H1 Q s1 hE1 (rs.mono e1 q1) (GP.imp gg fun ρ2 F2 μ2 H2 S2 e2 q2 s2 k σ2 hE2 a2 => ?_)
    exact k σ2 hE2 ((a1.mono fun j hj => List.mem_append_left _ hj).trans (a2.mono fun j hj => List.mem_append_right _ hj))
/-- (a, b, ..) = a tuple -/
def tTup (n : Nat) (c : TXs) : TX := fun d ρ S => match d with
  | .tup ds => if ds.length = n then c ds ρ S else none
  | _ => none
theorem rg_tup {js : List Nat} {es : List Expr} {k n : Nat} {c : TXs} (hc : X.calm = true) (h : RGs T X js es c) (hn : (assignEach es X.env).length = n := by rfl) (hst : (assignEach es X.env).findIdx? (·.1) = none := by rfl) : RG T X js (.Tuple es k pos) (tTup n c) := by
  obtain ⟨g1, p1, f1⟩ := h
  refine ⟨_, pg_tup hc p1 hn hst, fun d v σ ρ F μ S H Q s hE r g => ?_⟩
  cases r with
  | @tup a xs ds hq rs =>
    unfold tTup at g
    dsimp only at g
    split at g
    · rename_i hl
      exact ⟨a, xs, rfl, s.sqT hq, by rw [← rs.length]; exact hl, f1 ds xs σ ρ F μ S H Q s hE rs g⟩
    · exact g.elim
  | _ => exact g.elim
/-- no exception -/
def noX {α : Type} (r : Out α) : Out α := match r with
  | some (.error _, _) => none
  | r => r
theorem GP.noX {α : Type} {K : PySem.W.Frag} {F : Hp} {μ : List MA} {r : Out α} {ok : α → Hp → List MA → Hp → Store → Prop} {er er' : XV → Hp → List MA → Hp → Prop} (h : GP K T F μ (noX r) ok er) : GP K T F μ r ok er' := by
  match r, h with
  | some (.ok a, S), h => exact h
/-- o[i] = .., a list of the store -/
def tSub (a b : EX) : TX := fun d ρ S => bindO (noX (a ρ S)) fun o S => bindO (noX (b ρ S)) fun i S => match o, i with
  | .loc n, .int k => (match S[n]? with
    | some ds => (match ixN ds.length k with
      | some j => if d.pure = true then some (.ok ρ, S.set n (ds.set j d)) else none
      | none => none)
    | none => none)
  | _, _ => none
theorem pures_set {ds : List D} {d : D} {j : Nat} (h : D.pures ds = true) (hd : d.pure = true) : D.pures (ds.set j d) = true := by
  rw [D.pures_iff] at h ⊢
  intro x hx
  rcases List.mem_or_eq_of_mem_set hx with hx | rfl
  · exact h x hx
  · exact hd
theorem rg_sub {o i : Expr} {a b : EX} (ho : RE T false X (fun _ _ _ _ => False) o a) (hi : RE T false X (fun _ _ _ _ => False) i b)
    (ha : ∀ v, assign (.Subscript o i pos) X.env v = (do
      let ov ← holding [v] (eval o X.env)
      let iv ← holding [v, ov] (eval i X.env)
      standAt pos
      holding [v, ov, iv] (setItem ov iv v)
      release [v, ov, iv] []) := by intro _; rfl) : RG T X [] (.Subscript o i pos) (tSub a b) := by
  obtain ⟨t1, p1, f1⟩ := ho
  obtain ⟨t2, p2, f2⟩ := hi
  refine ⟨_, pg_sub p1 p2 set_list ha, fun d v σ ρ F μ S H Q s hE r g => ?_⟩
  refine f1 σ ρ F μ S H _ s hE (GP.noX (GP.seq (er := NoEr) g fun x F1 μ1 H1 S1 e1 q1 s1 g1 w rw1 => ?_))
  refine f2 σ ρ F1 μ1 S1 H1 _ s1 (hE.mono e1 q1) (GP.noX (GP.seq (er := NoEr) g1 fun y F2 μ2 H2 S2 e2 q2 s2 g2 u ru => ?_))
  have rw1 := Rep.mono e2 q2 rw1
  cases rw1 with
  | @loc n A hm =>
    cases ru with
    | int k =>
      obtain ⟨ds, vs, h1, h2, h3, _, h5⟩ := s2.get hm
      dsimp only at g2
      rw [h1] at g2
      dsimp only at g2
      split at g2
      · rename_i j hj
        split at g2
        · rename_i hp
          refine ⟨A, vs, k, j, rfl, rfl, h2, by rw [← h3.length]; exact hj, ?_⟩
          have s3 := s2.put hm (h3.set j (Rep.mono e2 q2 (Rep.mono e1 q1 r))) (pures_set h5 hp)
          exact GP.here g2 s3 _ ((hE.mono e1 q1).mono e2 q2) Agree.refl
        · exact g2.elim
      · exact g2.elim
    | _ => exact g2.elim
  | _ => exact g2.elim
end
end PF
set_option Elab.async false
set_option linter.all false
set_option maxRecDepth 100000
set_option maxHeartbeats 4000000
/-! PF6: comprehensions, statements, a def. -/
namespace PF
open PySem L2 Evl PySem.Spec PyProof.Rows
/-! ### comprehensions -/
/-- k turns from the i-th on; the list that grows is the store's n-th -/
def compGo (src : Src) (n : Nat) (f : D → Store → Out (Option D)) : Nat → Nat → Store → Out Unit
  | 0, i, S => match srcAt src S with
    | some ds => if ds.length ≤ i then some (.ok (), S) else none
    | none => none
  | k + 1, i, S => match srcAt src S with
    | some ds => (match ds[i]? with
      | some d => bindO (noX (f d S)) fun o S1 => match o with
        | none => compGo src n f k (i + 1) S1
        | some y => (match S1[n]? with
          | some acc => if y.pure = true ∧ acc.length < lim then compGo src n f k (i + 1) (S1.set n (acc ++ [y])) else none
          | none => none)
      | none => none)
    | none => none
def cComp (src : IX) (js : List Nat) (tgt : TX) (test : BX) (elt : EX) : EX := fun ρ S => bindO (src ρ S) fun src S => match srcAt src S with
  | some ds => bindO (compGo src S.length (fun d S => bindO (tgt d (wipeE ρ js) S) fun ρ1 S => bindO (test ρ1 S) fun b S => match b with
      | true => bindO (elt ρ1 S) fun y S => some (.ok (some y), S)
      | false => some (.ok none, S)) ds.length 0 (S ++ [[]])) fun _ S' => (match S'[S.length]? with
    | some acc => some (.ok (.lst acc), S'.take S.length)
    | none => none)
  | none => none
def bYes : BX := fun _ S => some (.ok true, S)
def RTs (T : List (Addr × Str)) (X : Cx) (W : WX) (ifs : List Expr) (c : BX) : Prop := ∃ t, PTs X ifs t ∧
  ∀ σ ρ F μ S H (Q : Bool → Hp → Prop), SR X.K T F μ S H → EnvR X.K F μ ρ σ → GP X.K T F μ (c ρ S) (fun b _ _ H' _ => Q b H') (ErW X.K X.mg fun cls dd H' => W cls dd σ H') → t σ H Q
theorem rts_nil {T : List (Addr × Str)} {X : Cx} {W : WX} : RTs T X W [] bYes := ⟨_, pts_nil, fun σ ρ F μ S H Q s hE g => GP.here g s⟩
theorem rts_one {T : List (Addr × Str)} {X : Cx} {W : WX} {e : Expr} {c : BX} (h : RT T X W e c) : RTs T X W [e] c := let ⟨t, p, f⟩ := h; ⟨t, pts_one p, f⟩
theorem wipe_get {σ : L2.St} : ∀ {vs : List Nat} {j : Nat}, j ∉ vs → (wipe σ vs)[j]? = σ[j]?
  | [], _, _ => rfl
  | v :: vs, j, h => by
    simp only [List.mem_cons, not_or] at h
    unfold wipe
    rw [List.getElem?_set_ne (fun z => h.1 z.symm)]
    exact wipe_get h.2
theorem wipe_in {σ : L2.St} : ∀ {vs : List Nat} {j : Nat}, j ∈ vs → j < σ.length → (wipe σ vs)[j]? = some none
  | v :: vs, j, h, hl => by
    unfold wipe
    by_cases e : v = j
    · subst e
      rw [List.getElem?_set_self (by rw [wipe_length]; exact hl)]
    · rw [List.getElem?_set_ne e]
      rcases List.mem_cons.mp h with z | z
      · exact absurd z.symm e
      · exact wipe_in z hl
theorem wipe_agree {σ σ' : L2.St} {vs js : List Nat} (h : Agree js (wipe σ vs) σ') (hj : ∀ j ∈ js, j ∈ vs) : wipe σ' vs = wipe σ vs := by
  have hl : σ'.length = σ.length := by rw [h.1, wipe_length]
  apply List.ext_getElem?
  intro j
  by_cases hv : j ∈ vs
  · by_cases hlt : j < σ.length
    · rw [wipe_in hv (by omega), wipe_in hv hlt]
    · rw [List.getElem?_eq_none (by rw [wipe_length]; omega), List.getElem?_eq_none (by rw [wipe_length]; omega)]
  · rw [wipe_get hv, h.2 j (fun z => hv (hj j z)), wipe_get hv]
abbrev WF : WX := fun _ _ _ _ => False
theorem srcAt_app {src : Src} {S : Store} {L : List D} {ds : List D} : srcAt src S = some ds → srcAt src (S ++ [L]) = some ds := by
  induction src generalizing ds with
  | items es => exact id
  | cell n =>
    intro h
    simp only [srcAt] at h ⊢
    have := (List.getElem?_eq_some_iff.mp h).1
    rw [List.getElem?_append_left this]; exact h
  | enum s ih =>
    intro h
    simp only [srcAt, Option.map_eq_some_iff] at h ⊢
    obtain ⟨es, h, rfl⟩ := h
    exact ⟨es, ih h, rfl⟩
  | zip a b iha ihb =>
    intro h
    simp only [srcAt] at h ⊢
    split at h
    · rename_i xs ys h1 h2
      rw [iha h1, ihb h2]
      exact h
    · cases h
theorem GP.er {α : Type} {K : PySem.W.Frag} {T : List (Addr × Str)} {F : Hp} {μ : List MA} {r : Out α} {ok : α → Hp → List MA → Hp → Store → Prop} {er : XV → Hp → List MA → Hp → Prop} (h : GP K T F μ r ok NoEr) : GP K T F μ r ok er := by
  match r, h with
  | some (.ok a, S), h => exact h
  | some (.error x, S), h => exact fun F' μ' H' e p s => (h F' μ' H' e p s).elim
/-! the readings that data give, whatever the context -/
def tE (T : List (Addr × Str)) (fr : Bool) (K : PySem.W.Frag) (mg : Str → Option Value) (W : WX) (c : EX) : TE := fun σ H Q => ∃ ρ F μ S, SR K T F μ S H ∧ EnvR K F μ ρ σ ∧ GP K T F μ (c ρ S) (OkV K fr Q) (ErW K mg fun cls dd H' => W cls dd σ H')
def tTs (T : List (Addr × Str)) (K : PySem.W.Frag) (mg : Str → Option Value) (W : WX) (c : BX) : TT := fun σ H Q => ∃ ρ F μ S, SR K T F μ S H ∧ EnvR K F μ ρ σ ∧ GP K T F μ (c ρ S) (fun b _ _ H' _ => Q b H') (ErW K mg fun cls dd H' => W cls dd σ H')
def gE (T : List (Addr × Str)) (K : PySem.W.Frag) (js : List Nat) (c : TX) : TG := fun v σ H Q => ∃ d ρ F μ S, SR K T F μ S H ∧ EnvR K F μ ρ σ ∧ Rep K F μ d v ∧ GP K T F μ (c d ρ S) (fun ρ' F' μ' H' _ => ∀ σ', EnvR K F' μ' ρ' σ' → Agree js σ σ' → Q σ' H') NoEr
theorem RE.pe {T : List (Addr × Str)} {fr : Bool} {X : Cx} {W : WX} {e : Expr} {c : EX} (h : RE T fr X W e c) : PE X e (tE T fr X.K X.mg W c) := by
  obtain ⟨t, p, f⟩ := h
  exact ⟨fun pins s σ H Q I ⟨ρ, F, μ, S, a, b, g⟩ => p.run pins s σ H Q I (f σ ρ F μ S H Q a b g)⟩
theorem RTs.pts {T : List (Addr × Str)} {X : Cx} {W : WX} {e : List Expr} {c : BX} (h : RTs T X W e c) : PTs X e (tTs T X.K X.mg W c) := by
  obtain ⟨t, p, f⟩ := h
  exact ⟨fun pins s σ H Q I ⟨ρ, F, μ, S, a, b, g⟩ => p.run pins s σ H Q I (f σ ρ F μ S H Q a b g)⟩
theorem RG.pg {T : List (Addr × Str)} {X : Cx} {js : List Nat} {e : Expr} {c : TX} (h : RG T X js e c) : PG X e (gE T X.K js c) := by
  obtain ⟨t, p, f⟩ := h
  exact ⟨fun pins s σ H v u Q I r ⟨d, ρ, F, μ, S, a, b, rd, g⟩ => p.run pins s σ H v u Q I r (f d v σ ρ F μ S H Q a b rd g)⟩
section
variable {X : Cx} {T : List (Addr × Str)} {W : WX} {js : List Nat} {elt tg iter : Expr} {ifs : List Expr} {scope : Scope} {own : List (Str × Nat)} {pos : Pos} {ci : IX} {ct : TX} {cb : BX} {ce : EX}
/-- what a comprehension's reading asks -/
theorem comp_read {wi : TI} {g : TG} {tt : TT} {te : TE} {X' : Cx} (hjs : ∀ j ∈ js, j ∈ own.map (·.2)) (hK : X'.K = X.K)
    (fi : ∀ σ ρ F μ S H (R : It → Hp → Prop), SR X.K T F μ S H → EnvR X.K F μ ρ σ → GP X.K T F μ (ci ρ S) (fun src F' μ' H' _ => ∀ J, Walks X.K T F' μ' src J → R J H') (ErW X.K X.mg fun cls dd H' => W cls dd σ H') → wi σ H R)
    (fg : ∀ d v σ ρ F μ S H (Q : L2.St → Hp → Prop), SR X.K T F μ S H → EnvR X.K F μ ρ σ → Rep X.K F μ d v → GP X.K T F μ (ct d ρ S) (fun ρ' F' μ' H' _ => ∀ σ', EnvR X.K F' μ' ρ' σ' → Agree js σ σ' → Q σ' H') NoEr → g v σ H Q)
    (ft : ∀ σ ρ F μ S H (Q : Bool → Hp → Prop), SR X.K T F μ S H → EnvR X.K F μ ρ σ → GP X.K T F μ (cb ρ S) (fun b _ _ H' _ => Q b H') (ErW X.K X.mg fun cls dd H' => WF cls dd σ H') → tt σ H Q)
    (fe : ∀ σ ρ F μ S H Q, SR X.K T F μ S H → EnvR X.K F μ ρ σ → GP X.K T F μ (ce ρ S) (OkV X.K false Q) (ErW X.K X.mg fun cls dd H' => WF cls dd σ H') → te σ H Q)
    {σ ρ F μ S H Q} (s : SR X.K T F μ S H) (hE : EnvR X.K F μ ρ σ) (gg : GP X.K T F μ (cComp ci (own.map (·.2)) ct cb ce ρ S) (OkV X.K true Q) (ErW X.K X.mg fun cls dd H' => W cls dd σ H')) :
    tLc wi g tt te (own.map (·.2)) σ H Q := by
  refine fi σ ρ F μ S H _ s hE (GP.seq gg fun src F1 μ1 H1 S1 e1 p1 s1 g1 J hJ => ?_)
  have hE1 := hE.mono e1 p1
  split at g1
  case h_2 => exact g1.elim
  rename_i ds hds
  intro Dl hD
  have hF := fresh_back s1.ex hD
  have s2 : SR X.K T F1 (μ1 ++ [⟨Dl, .lst⟩]) (S1 ++ [[]]) (upd H1 Dl (.lst [])) := (s1.lay hD).alloc hF (s1.notin hD) upd_same .nil rfl
  have hn : (μ1 ++ [⟨Dl, .lst⟩])[S1.length]? = some ⟨Dl, .lst⟩ := by rw [← s1.len, List.getElem?_append_right (Nat.le_refl _)]; simp
  generalize hf : (fun d S => bindO (ct d (wipeE ρ (own.map (·.2))) S) fun ρ1 S => bindO (cb ρ1 S) fun b S => match b with
      | true => bindO (ce ρ1 S) fun y S => some (.ok (some y), S)
      | false => some (.ok none, S) : D → Store → Out (Option D)) = f at g1
  generalize hk : (fun _ S' => match S'[S1.length]? with
    | some acc => some (.ok (.lst acc), S'.take S1.length)
    | none => none : Unit → Store → Out D) = k at g1
  generalize hr : bindO (compGo src S1.length f ds.length 0 (S1 ++ [[]])) k = r at g1
  refine ⟨fun i m H' => ∃ F' μ' S', Ex F1 F' ∧ (μ1 ++ [⟨Dl, .lst⟩]) <+: μ' ∧ SR X.K T F' μ' S' H' ∧ bindO (compGo src S1.length f m i S') k = r,
    ⟨ds.length, F1, μ1 ++ [⟨Dl, .lst⟩], _, Ex.refl _, List.prefix_refl _, s2, hr⟩, ?_⟩
  rintro i m H2 ⟨F2, μ2, S2, e2, p2, s3, k2⟩
  have hDl2 := pre_get p2 hn
  have p12 : μ1 <+: μ2 := (List.prefix_append _ _).trans p2
  cases m with
  | zero =>
    left
    unfold compGo at k2
    split at k2
    case h_2 => rw [← k2] at g1; exact g1.elim
    rename_i es hes
    split at k2
    case isFalse => rw [← k2] at g1; exact g1.elim
    rename_i hl
    refine ⟨(hJ F2 μ2 S2 H2 es i e2 p12 s3 hes).2 hl, ?_⟩
    obtain ⟨acc, vs, a1, a2, a3, a4, a5⟩ := s3.get hDl2
    rw [bindO_ok, ← hk] at k2
    dsimp only at k2
    rw [a1] at k2
    dsimp only at k2
    rw [← k2] at g1
    have s4 := s3.cut S1.length
    have hcut : μ2.take S1.length = μ1 := by
      obtain ⟨t, rfl⟩ := p12
      rw [← s1.len]; simp
    rw [hcut] at s4
    exact g1 F2 μ1 H2 e2 (List.prefix_refl _) s4 _ ⟨acc, Dl, vs, rfl, rfl, a4, s1.notin hD, a2, a3.free a5⟩
  | succ m =>
    right
    unfold compGo at k2
    split at k2
    case h_2 => rw [← k2] at g1; exact g1.elim
    rename_i es hes
    split at k2
    case h_2 => rw [← k2] at g1; exact g1.elim
    rename_i d hd
    obtain ⟨hgo, hy⟩ := (hJ F2 μ2 S2 H2 es i e2 p12 s3 hes).1 d hd
    cases hfd : noX (f d S2) with
    | none => rw [hfd] at k2; rw [← k2] at g1; exact g1.elim
    | some q =>
      obtain ⟨q, S3⟩ := q
      cases q with
      | error x =>
        exfalso
        unfold noX at hfd
        split at hfd
        · cases hfd
        · rename_i hne
          exact hne _ _ hfd
      | ok o =>
        rw [hfd, bindO_ok] at k2
        have known : GP X.K T F2 μ2 (f d S2) (fun o' F' μ' H' S' => o' = o ∧ S' = S3 ∧ Ex F2 F' ∧ μ2 <+: μ' ∧ SR X.K T F' μ' S' H') NoEr := by
          apply GP.noX (er := NoEr)
          rw [hfd]
          exact fun F' μ' H' e p s' => ⟨rfl, rfl, e, p, s'⟩
        rw [← hf] at known
        refine ⟨hgo, fun H' => ∃ F' μ' S', Ex F1 F' ∧ (μ1 ++ [⟨Dl, .lst⟩]) <+: μ' ∧ SR X.K T F' μ' S' H' ∧ bindO (compGo src S1.length f m (i + 1) S') k = r, fun H' h => ⟨m, Nat.lt_succ_self _, h⟩, fun x H3 yl => ?_⟩
        obtain ⟨F3, e3, s5, rx⟩ := hy x H3 yl
        have hE3 : EnvR X.K F3 μ2 (wipeE ρ (own.map (·.2))) (wipe σ (own.map (·.2))) := (hE1.wipe _).mono (e2.trans e3) p12
        have known3 := GP.mono known e3 (List.prefix_refl _)
        dsimp only at known3
        refine fg d x _ _ F3 μ2 S2 H3 _ s5 hE3 rx (GP.seq known3 fun ρ1 F4 μ4 H4 S4 e4 p4 s4 k4 σ4 hE4 a4 => ?_)
        refine ⟨wipe_agree a4 hjs, ?_⟩
        refine ft σ4 ρ1 F4 μ4 S4 H4 _ s4 hE4 (GP.seq (GP.er k4) fun b F5 μ5 H5 S5 e5 p5 s5' k5 => ?_)
        cases b with
        | false =>
          rw [if_neg Bool.false_ne_true]
          obtain ⟨h1, h2, h3, h4, h5⟩ := GP.here k5 s5'
          subst h1; subst h2
          exact ⟨F5, μ5, S5, e2.trans h3, p2.trans h4, h5, k2⟩
        | true =>
          rw [if_pos rfl]
          refine fe σ4 ρ1 F5 μ5 S5 H5 _ s5' (hE4.mono e5 p5) (GP.seq k5 fun y F6 μ6 H6 S6 e6 p6 s6 k6 v rv => ?_)
          obtain ⟨h1, h2, h3, h4, h5⟩ := GP.here k6 s6
          subst h1; subst h2
          have hDl6 := pre_get h4 hDl2
          obtain ⟨acc, vs, a1, a2, a3, a4', a5⟩ := s6.get hDl6
          dsimp only at k2
          rw [a1] at k2
          dsimp only at k2
          split at k2
          case isFalse => rw [← k2] at g1; exact g1.elim
          rename_i hc
          refine ⟨vs, a2, by rw [← a3.length]; exact Nat.lt_of_lt_of_le hc.2 (by decide), F6, μ6, _, e2.trans h3, p2.trans h4, s6.put hDl6 (a3.append (Reps.one rv)) (by
            rw [D.pures_append, a5, Bool.true_and]
            simp [D.pures, hc.1]), k2⟩
/-- [elt for tg in iter if ..] -/
theorem re_comp {os : List Nat} (hc : X.calm = true) (hN : X.N.Nodup) (ok : BlkOk X.N X.env.scope scope own) (hos : own.map (·.2) = os) (hjs : ∀ j ∈ js, j ∈ os) (hi : RI T X W tg iter ci)
    (hg : ∀ (s : Shared) (H : Hp) (C : Addr) (cl : List (Str × Addr)) (fp : List Addr), RG T (X.blk s H scope (compEnvC scope cl C X.env) fp) js tg ct) (ht : ∀ (s : Shared) (H : Hp) (C : Addr) (cl : List (Str × Addr)) (fp : List Addr), RTs T (X.blk s H scope (compEnvC scope cl C X.env) fp) WF ifs cb)
    (he : ∀ (s : Shared) (H : Hp) (C : Addr) (cl : List (Str × Addr)) (fp : List Addr), RE T false (X.blk s H scope (compEnvC scope cl C X.env) fp) WF elt ce) (hs : ∀ x, foldedSetIterable iter X.env x = pure x := by intro _; rfl) :
    RE T true X W (.ListComp elt [⟨tg, iter, ifs, 0⟩] scope pos) (cComp ci os ct cb ce) := by
  subst hos
  obtain ⟨wi, pi, fi⟩ := hi
  refine ⟨_, pe_lc (g := gE T X.K js ct) (tt := tTs T X.K X.mg WF cb) (te := tE T false X.K X.mg WF ce) hc hN pi ok (fun s H C cl fp => (hg s H C cl fp).pg) (fun s H C cl fp => (ht s H C cl fp).pts) (fun s H C cl fp => (he s H C cl fp).pe) hs, fun σ ρ F μ S H Q s hE g => ?_⟩
  exact comp_read (X' := X) hjs rfl fi (fun d v σ ρ F μ S H Q a b c g => ⟨d, ρ, F, μ, S, a, b, c, g⟩) (fun σ ρ F μ S H Q a b g => ⟨ρ, F, μ, S, a, b, g⟩) (fun σ ρ F μ S H Q a b g => ⟨ρ, F, μ, S, a, b, g⟩) s hE g
end

/-! ### statements -/
inductive Fl where
  | nx (ρ : PF.Env) | brk (ρ : PF.Env) | ct (ρ : PF.Env) | ret (d : D) | exc (x : XV) (ρ : PF.Env)
abbrev SX := PF.Env → Store → Out Fl
def RetR (K : PySem.W.Frag) (fr : Bool) (F : Hp) (μ : List MA) (H : Hp) (d : D) (v : V) : Prop := match fr with
  | false => Rep K F μ d v
  | true => Fresh K F μ H d v ∨ ∃ n, d = .loc n ∧ Rep K F μ (.loc n) v
def OkF (K : PySem.W.Frag) (mg : Str → Option Value) (fr : Bool) (D : Ends) (W : WX) : Fl → Hp → List MA → Hp → Store → Prop := fun fl F μ H _ => match fl with
  | .nx ρ => ∀ σ, EnvR K F μ ρ σ → D.nx σ H
  | .brk ρ => ∀ σ, EnvR K F μ ρ σ → D.bk σ H
  | .ct ρ => ∀ σ, EnvR K F μ ρ σ → D.ct σ H
  | .ret d => ∀ v, RetR K fr F μ H d v → D.rt v H
  | .exc x ρ => ∀ σ cls dd, EnvR K F μ ρ σ → XRep K mg F μ x cls dd → W cls dd σ H
def RS (T : List (Addr × Str)) (fr : Bool) (X : Cx) (W : WX) (st : Stmt) (c : SX) : Prop := ∃ t, PS X st t ∧
  ∀ σ ρ F μ S H D, SR X.K T F μ S H → EnvR X.K F μ ρ σ → GP X.K T F μ (c ρ S) (OkF X.K X.mg fr D W) NoEr → t D σ H
def RSs (T : List (Addr × Str)) (fr : Bool) (X : Cx) (W : WX) (st : List Stmt) (c : SX) : Prop := ∃ t, PSs X st t ∧
  ∀ σ ρ F μ S H D, SR X.K T F μ S H → EnvR X.K F μ ρ σ → GP X.K T F μ (c ρ S) (OkF X.K X.mg fr D W) NoEr → t D σ H
/-- an expression's outcome in a statement -/
def stm {α : Type} (ρ : PF.Env) (r : Out α) (k : α → Store → Out Fl) : Out Fl := match r with
  | none => none
  | some (.ok a, S) => k a S
  | some (.error x, S) => some (.ok (.exc x ρ), S)
@[simp] theorem stm_ok {α : Type} (ρ : PF.Env) (a : α) (S : Store) (k : α → Store → Out Fl) : stm ρ (some (.ok a, S)) k = k a S := rfl
@[simp] theorem stm_err {α : Type} (ρ : PF.Env) (x : XV) (S : Store) (k : α → Store → Out Fl) : stm ρ (some (.error x, S)) k = some (.ok (.exc x ρ), S) := rfl
@[simp] theorem stm_none {α : Type} (ρ : PF.Env) (k : α → Store → Out Fl) : stm ρ none k = none := rfl
section
variable {X : Cx} {T : List (Addr × Str)} {W : WX} {fr : Bool}
theorem GP.stm {α : Type} {r : Out α} {k : α → Store → Out Fl} {σ : L2.St} {ρ : PF.Env} {F : Hp} {μ : List MA} {D : Ends} {ok2 : α → Hp → List MA → Hp → Store → Prop} (h : GP X.K T F μ (PF.stm ρ r k) (OkF X.K X.mg fr D W) NoEr) (hE : EnvR X.K F μ ρ σ)
    (f : ∀ a F' μ' H' S', Ex F F' → μ <+: μ' → SR X.K T F' μ' S' H' → GP X.K T F' μ' (k a S') (OkF X.K X.mg fr D W) NoEr → ok2 a F' μ' H' S') : GP X.K T F μ r ok2 (ErW X.K X.mg fun cls dd H' => W cls dd σ H') := by
  match r, h with
  | some (.ok a, S), h => exact fun F' μ' H' e p s => f a F' μ' H' S e p s (GP.mono h e p)
  | some (.error x, S), h => exact fun F' μ' H' e p s cls dd hx => h F' μ' H' e p s σ cls dd (hE.mono e p) hx
def sNil : SX := fun ρ S => some (.ok (.nx ρ), S)
def sSeq (a b : SX) : SX := fun ρ S => bindO (a ρ S) fun fl S => match fl with
  | .nx ρ' => b ρ' S
  | fl => some (.ok fl, S)
theorem rss_nil : RSs T fr X W [] sNil := ⟨_, pss_nil, fun σ ρ F μ S H D s hE g => GP.here g s σ hE⟩
theorem rss_one {st : Stmt} {c : SX} (h : RS T fr X W st c) : RSs T fr X W [st] c := let ⟨t, p, f⟩ := h; ⟨t, pss_one p, f⟩
theorem rss_cons {st : Stmt} {rest : List Stmt} {a b : SX} (h : RS T fr X W st a) (hr : RSs T fr X W rest b) : RSs T fr X W (st :: rest) (sSeq a b) := by
  obtain ⟨t1, p1, f1⟩ := h
  obtain ⟨t2, p2, f2⟩ := hr
  refine ⟨_, pss_cons p1 p2, fun σ ρ F μ S H D s hE g => ?_⟩
  refine f1 σ ρ F μ S H _ s hE (GP.seq g fun fl F1 μ1 H1 S1 e1 q1 s1 g1 => ?_)
  cases fl with
  | nx ρ' => exact fun σ' hE' => f2 σ' ρ' F1 μ1 S1 H1 D s1 hE' g1
  | brk ρ' => exact GP.here (er := NoEr) g1 s1
  | ct ρ' => exact GP.here (er := NoEr) g1 s1
  | ret d => exact GP.here (er := NoEr) g1 s1
  | exc x ρ' => exact GP.here (er := NoEr) g1 s1
theorem rs_pass {pos : Pos} : RS T fr X W (.Pass pos) sNil := ⟨_, ps_pass, fun σ ρ F μ S H D s hE g => GP.here g s σ hE⟩
def sBrk : SX := fun ρ S => some (.ok (.brk ρ), S)
def sCt : SX := fun ρ S => some (.ok (.ct ρ), S)
theorem rs_break {pos : Pos} : RS T fr X W (.Break pos) sBrk := ⟨_, ps_break, fun σ ρ F μ S H D s hE g => GP.here g s σ hE⟩
theorem rs_continue {pos : Pos} : RS T fr X W (.Continue pos) sCt := ⟨_, ps_continue, fun σ ρ F μ S H D s hE g => GP.here g s σ hE⟩
def sRet (c : EX) : SX := fun ρ S => stm ρ (c ρ S) fun d S => some (.ok (.ret d), S)
theorem rs_ret {e : Expr} {c : EX} {pos : Pos} (h : RE T fr X W e c) : RS T fr X W (.Return (some e) pos) (sRet c) := by
  obtain ⟨t, p, f⟩ := h
  refine ⟨_, ps_ret p, fun σ ρ F μ S H D s hE g => f σ ρ F μ S H _ s hE (GP.stm g hE fun d F1 μ1 H1 S1 e1 q1 s1 g1 v r => ?_)⟩
  refine GP.here g1 s1 v ?_
  cases fr with
  | false => exact r
  | true => exact .inl r
/-- a list of the store is handed back: its content goes -/
def sRetL (c : EX) : SX := fun ρ S => stm ρ (c ρ S) fun d S => match d with
  | .loc n => some (.ok (.ret (.loc n)), S)
  | _ => none
theorem rs_retL {e : Expr} {c : EX} {pos : Pos} (h : RE T false X W e c) : RS T true X W (.Return (some e) pos) (sRetL c) := by
  obtain ⟨t, p, f⟩ := h
  refine ⟨_, ps_ret p, fun σ ρ F μ S H D s hE g => f σ ρ F μ S H _ s hE (GP.stm g hE fun d F1 μ1 H1 S1 e1 q1 s1 g1 v r => ?_)⟩
  cases d with
  | loc n => exact GP.here g1 s1 v (.inr ⟨n, rfl, r⟩)
  | _ => exact g1.elim
theorem rs_retN {pos : Pos} : RS T false X W (.Return none pos) (sRet (cK .non)) := ⟨_, ps_retN, fun σ ρ F μ S H D s hE g => GP.here g s .non .non⟩
def sIf (c : BX) (a b : SX) : SX := fun ρ S => stm ρ (c ρ S) fun x S => match x with
  | true => a ρ S
  | false => b ρ S
theorem rs_if {e : Expr} {as bs : List Stmt} {c : BX} {a b : SX} {pos : Pos} (h : RT T X W e c) (ha : RSs T fr X W as a) (hb : RSs T fr X W bs b) : RS T fr X W (.If e as bs pos) (sIf c a b) := by
  obtain ⟨t, p, f⟩ := h
  obtain ⟨t1, p1, f1⟩ := ha
  obtain ⟨t2, p2, f2⟩ := hb
  refine ⟨_, ps_if p p1 p2, fun σ ρ F μ S H D s hE g => f σ ρ F μ S H _ s hE (GP.stm g hE fun x F1 μ1 H1 S1 e1 q1 s1 g1 => ?_)⟩
  cases x with
  | true => rw [if_pos rfl]; exact f1 σ ρ F1 μ1 S1 H1 D s1 (hE.mono e1 q1) g1
  | false => rw [if_neg Bool.false_ne_true]; exact f2 σ ρ F1 μ1 S1 H1 D s1 (hE.mono e1 q1) g1
def sExpr (c : EX) : SX := fun ρ S => stm ρ (c ρ S) fun _ S => some (.ok (.nx ρ), S)
theorem rs_expr {e : Expr} {c : EX} {pos : Pos} (h : RE T false X W e c) (hs : swapsWith e none pos.line X.env = pure false := by rfl) : RS T fr X W (.Expr e pos) (sExpr c) := by
  obtain ⟨t, p, f⟩ := h
  exact ⟨_, ps_expr p hs, fun σ ρ F μ S H D s hE g => f σ ρ F μ S H _ s hE (GP.stm g hE fun d F1 μ1 H1 S1 e1 q1 s1 g1 v r => GP.here g1 s1 σ (hE.mono e1 q1))⟩
/-- x = e -/
def sSet (i : Nat) (c : EX) : SX := fun ρ S => stm ρ (c ρ S) fun d S => some (.ok (.nx (ρ.set i (some d))), S)
theorem rs_set {i : Nat} {x : Str} {e : Expr} {c : EX} {pos pos' : Pos} (hN : X.N.Nodup) (h : RE T false X W e c) (hi : X.N[i]? = some x := by rfl) (hx : Loc X.env.scope x := by first | exact Or.inl rfl | exact Or.inr rfl) (hs : swapsWith e (some (.Name x pos')) pos.line X.env = pure false := by rfl)
    (hf : X.fn x = true ∨ X.env.scope.names.lookup x = some .local := by first | exact .inl rfl | exact .inr rfl) : RS T fr X W (.Assign [.Name x pos'] e pos) (sSet i c) := by
  obtain ⟨t, p, f⟩ := h
  exact ⟨_, ps_set hN hi hx p hs hf, fun σ ρ F μ S H D s hE g => f σ ρ F μ S H _ s hE (GP.stm g hE fun d F1 μ1 H1 S1 e1 q1 s1 g1 v r => GP.here g1 s1 _ ((hE.mono e1 q1).set r))⟩
/-- x = [..], a comprehension on one line -/
theorem rs_setLc {os : List Nat} {i : Nat} {y : Str} {elt tg iter : Expr} {ifs : List Expr} {scope : Scope} {own : List (Str × Nat)} {js : List Nat} {pos spos py : Pos} {ci : IX} {ct : TX} {cb : BX} {ce : EX} (hc : X.calm = true) (hN : X.N.Nodup)
    (ok : BlkOk X.N X.env.scope scope own) (hos : own.map (·.2) = os) (hjs : ∀ j ∈ js, j ∈ os) (hi : RI T X W tg iter ci)
    (hg : ∀ (s : Shared) (H : Hp) (C : Addr) (cl : List (Str × Addr)) (fp : List Addr), RG T (X.blk s H scope (compEnvC scope cl C X.env) fp) js tg ct) (ht : ∀ (s : Shared) (H : Hp) (C : Addr) (cl : List (Str × Addr)) (fp : List Addr), RTs T (X.blk s H scope (compEnvC scope cl C X.env) fp) WF ifs cb)
    (he : ∀ (s : Shared) (H : Hp) (C : Addr) (cl : List (Str × Addr)) (fp : List Addr), RE T false (X.blk s H scope (compEnvC scope cl C X.env) fp) WF elt ce) (c2 : EX) (hc2 : ∀ (t : TE), (∀ σ ρ F μ S H Q, SR X.K T F μ S H → EnvR X.K F μ ρ σ → GP X.K T F μ (cComp ci os ct cb ce ρ S) (OkV X.K true Q) (ErW X.K X.mg fun cls dd H' => W cls dd σ H') → t σ H Q) →
      ∀ σ ρ F μ S H Q, SR X.K T F μ S H → EnvR X.K F μ ρ σ → GP X.K T F μ (c2 ρ S) (OkV X.K false Q) (ErW X.K X.mg fun cls dd H' => W cls dd σ H') → t σ H Q)
    (hsw : swapsWith (.ListComp elt [⟨tg, iter, ifs, 0⟩] scope pos) (some (.Name y py)) spos.line X.env = pure true) (hy : X.N[i]? = some y := by rfl) (hyl : X.env.scope.names.lookup y = some .local := by rfl) (hs : ∀ x, foldedSetIterable iter X.env x = pure x := by intro _; rfl) :
    RS T fr X W (.Assign [.Name y py] (.ListComp elt [⟨tg, iter, ifs, 0⟩] scope pos) spos) (sSet i c2) := by
  subst hos
  obtain ⟨wi, pi, fi⟩ := hi
  refine ⟨_, ps_setLc (g := gE T X.K js ct) (tt := tTs T X.K X.mg WF cb) (te := tE T false X.K X.mg WF ce) hc hN hy hyl hsw pi ok (fun s H C cl fp => (hg s H C cl fp).pg) (fun s H C cl fp => (ht s H C cl fp).pts) (fun s H C cl fp => (he s H C cl fp).pe) hs, fun σ ρ F μ S H D s hE g => ?_⟩
  refine hc2 _ (fun σ ρ F μ S H Q s hE g => comp_read (X' := X) hjs rfl fi (fun d v σ ρ F μ S H Q a b c g => ⟨d, ρ, F, μ, S, a, b, c, g⟩) (fun σ ρ F μ S H Q a b g => ⟨ρ, F, μ, S, a, b, g⟩) (fun σ ρ F μ S H Q a b g => ⟨ρ, F, μ, S, a, b, g⟩) s hE g) σ ρ F μ S H _ s hE ?_
  exact GP.stm g hE fun d F1 μ1 H1 S1 e1 q1 s1 g1 v r => GP.here g1 s1 _ ((hE.mono e1 q1).set r)
/-- how the new list is held: as a value, or in the store -/
theorem hold_val {c : EX} : ∀ (t : TE), (∀ σ ρ F μ S H Q, SR X.K T F μ S H → EnvR X.K F μ ρ σ → GP X.K T F μ (c ρ S) (OkV X.K true Q) (ErW X.K X.mg fun cls dd H' => W cls dd σ H') → t σ H Q) →
      ∀ σ ρ F μ S H Q, SR X.K T F μ S H → EnvR X.K F μ ρ σ → GP X.K T F μ (c ρ S) (OkV X.K false Q) (ErW X.K X.mg fun cls dd H' => W cls dd σ H') → t σ H Q :=
  fun t f σ ρ F μ S H Q s hE g => f σ ρ F μ S H Q s hE (gp_freeze g)
theorem hold_loc {c : EX} : ∀ (t : TE), (∀ σ ρ F μ S H Q, SR X.K T F μ S H → EnvR X.K F μ ρ σ → GP X.K T F μ (c ρ S) (OkV X.K true Q) (ErW X.K X.mg fun cls dd H' => W cls dd σ H') → t σ H Q) →
      ∀ σ ρ F μ S H Q, SR X.K T F μ S H → EnvR X.K F μ ρ σ → GP X.K T F μ (cAlloc c ρ S) (OkV X.K false Q) (ErW X.K X.mg fun cls dd H' => W cls dd σ H') → t σ H Q := by
  refine fun t f σ ρ F μ S H Q s hE g => f σ ρ F μ S H Q s hE (GP.seq g fun d F' μ' H' S' e p s' q v hf => ?_)
  obtain ⟨ds, a, vs, rfl, rfl, hF, hm, hH, r⟩ := hf
  dsimp only at q
  split at q
  · rename_i hp
    exact q F' (μ' ++ [⟨a, .lst⟩]) H' (Ex.refl _) (List.prefix_append _ _) (s'.alloc hF hm hH r hp) _ (.loc (by rw [← s'.len, List.getElem?_append_right (Nat.le_refl _)]; simp))
  · exact q.elim
/-- a, b = x, y -/
def sPar (i j : Nat) (r : AX) : SX := fun ρ S => stm ρ (r ρ S) fun ds S => match ds with
  | [x, y] => some (.ok (.nx ((ρ.set i (some x)).set j (some y))), S)
  | _ => none
theorem rs_par {i j : Nat} {x y : Str} {a b : Expr} {c : AX} {px py pt : Pos} {kt k2 pt2} {pos : Pos} (hc : X.calm = true) (hN : X.N.Nodup) (ha : RA T X W [a, b] c) (hi : X.N[i]? = some x := by rfl) (hj : X.N[j]? = some y := by rfl) (hij : i ≠ j := by decide)
    (hx : X.env.scope.names.lookup x = some .local := by rfl) (hy : X.env.scope.names.lookup y = some .local := by rfl)
    (hw : swappedStores [.Tuple [.Name x px, .Name y py] kt pt] (.Tuple [a, b] k2 pt2) X.env = pure (some [x, y]) := by rfl)
    (hs : swapsWithSole [.Tuple [.Name x px, .Name y py] kt pt] (.Tuple [a, b] k2 pt2) pos.line X.env = pure false := by rfl) :
    RS T fr X W (.Assign [.Tuple [.Name x px, .Name y py] kt pt] (.Tuple [a, b] k2 pt2) pos) (sPar i j c) := by
  obtain ⟨t, p, f⟩ := ha
  refine ⟨_, ps_par hc hN hi hj hij hx hy p hw hs, fun σ ρ F μ S H D s hE g => f σ ρ F μ S H _ s hE (GP.stm g hE fun ds F1 μ1 H1 S1 e1 q1 s1 g1 vs r => ?_)⟩
  split at g1
  · obtain ⟨v, u, rfl, r1, r2⟩ := r.inv2
    exact ⟨v, u, rfl, GP.here g1 s1 _ (((hE.mono e1 q1).set r1).set r2)⟩
  · exact g1.elim
/-- target = e -/
def sAsg (t : TX) (c : EX) : SX := fun ρ S => stm ρ (c ρ S) fun d S => bindO (noX (t d ρ S)) fun ρ' S => some (.ok (.nx ρ'), S)
theorem rs_asg {js : List Nat} {tg e : Expr} {c : EX} {ct : TX} {pos : Pos} (h : RE T false X W e c) (hg : RG T X js tg ct) (hs : swapsWithSole [tg] e pos.line X.env = pure false := by rfl) (hw : swappedStores [tg] e X.env = pure none := by rfl)
    (h1 : (assignEach [tg] X.env).map (·.2) = [assign tg X.env] := by rfl) : RS T fr X W (.Assign [tg] e pos) (sAsg ct c) := by
  obtain ⟨t, p, f⟩ := h
  obtain ⟨g1, p1, f1⟩ := hg
  refine ⟨_, ps_asg p p1 hs hw h1, fun σ ρ F μ S H D s hE g => f σ ρ F μ S H _ s hE (GP.stm g hE fun d F1 μ1 H1 S1 e1 q1 s1 g1 v r => ?_)⟩
  exact f1 d v σ ρ F1 μ1 S1 H1 _ s1 (hE.mono e1 q1) r (GP.noX (GP.seq g1 fun ρ' F2 μ2 H2 S2 e2 q2 s2 g2 σ' hE' _ => GP.here g2 s2 σ' hE'))
/-- x op= e -/
def sAug (i : Nat) (o : Op2) (c : EX) : SX := fun ρ S => match ρ[i]? with
  | some (some x) => stm ρ (c ρ S) fun y S => bindO (o x y S) fun z S => some (.ok (.nx (ρ.set i (some z))), S)
  | _ => none
theorem rs_aug {i : Nat} {x : Str} {e : Expr} {c : EX} {op : Operator} {r : R2} {o : Op2} {pos pos' : Pos} (hN : X.N.Nodup) (h : RE T false X W e c) (hr : OpR X (inplaceOp op) r) (ho : OpOk X T false r o) (hne : ∀ x y S z S', o x y S ≠ some (.error z, S')) (hi : X.N[i]? = some x := by rfl) (hx : Loc X.env.scope x := by first | exact Or.inl rfl | exact Or.inr rfl)
    (hf : X.fn x = true ∨ X.env.scope.names.lookup x = some .local := by first | exact .inl rfl | exact .inr rfl) : RS T fr X W (.AugAssign (.Name x pos') op e pos) (sAug i o c) := by
  obtain ⟨t, p, f⟩ := h
  refine ⟨_, ps_aug (ti := r) hN hi hx p hr hf, fun σ ρ F μ S H D s hE g => ?_⟩
  unfold sAug at g
  split at g
  · rename_i d hd
    obtain ⟨v, h1, h2⟩ := hE.2 i d hd
    refine ⟨v, h1, f σ ρ F μ S H _ s hE (GP.stm g hE fun y F1 μ1 H1 S1 e1 q1 s1 g1 u ru => ?_)⟩
    refine ho F1 μ1 S1 H1 d y v u _ NoEr s1 (h2.mono e1 q1) ru (GP.seq g1 fun z F2 μ2 H2 S2 e2 q2 s2 g2 w rw => ?_)
    exact GP.here g2 s2 _ (((hE.mono e1 q1).mono e2 q2).set rw)
  · exact g.elim
/-! ### loops -/
def forGo (src : Src) (t : TX) (b : SX) : Nat → Nat → PF.Env → Store → Out Fl
  | 0, i, ρ, S => match srcAt src S with
    | some ds => if ds.length ≤ i then some (.ok (.nx ρ), S) else none
    | none => none
  | k + 1, i, ρ, S => match srcAt src S with
    | some ds => (match ds[i]? with
      | some d => bindO (noX (t d ρ S)) fun ρ1 S => bindO (b ρ1 S) fun fl S => match fl with
        | .nx ρ' => forGo src t b k (i + 1) ρ' S
        | .ct ρ' => forGo src t b k (i + 1) ρ' S
        | .brk ρ' => some (.ok (.nx ρ'), S)
        | fl => some (.ok fl, S)
      | none => none)
    | none => none
def sFor (src : IX) (t : TX) (b : SX) : SX := fun ρ S => stm ρ (src ρ S) fun src S => match srcAt src S with
  | some ds => forGo src t b ds.length 0 ρ S
  | none => none
theorem rs_for {js : List Nat} {tg iter : Expr} {body : List Stmt} {ci : IX} {ct : TX} {cb : SX} {pos : Pos} (hp : PassesOwn (model X.prog X.w) X.A X.env X.xe) (hc : X.calm = true) (hi : RI T X W tg iter ci) (hg : RG T X js tg ct) (hb : RSs T fr X W body cb)
    (hs : ∀ x, foldedSetIterable iter X.env x = pure x := by intro _; rfl) : RS T fr X W (.For tg iter body [] pos) (sFor ci ct cb) := by
  obtain ⟨wi, pi, fi⟩ := hi
  obtain ⟨g, pg, fg⟩ := hg
  obtain ⟨tb, pb, fb⟩ := hb
  refine ⟨_, ps_for hp hc pi pg pb hs, fun σ ρ F μ S H D s hE gg => fi σ ρ F μ S H _ s hE (GP.stm gg hE fun src F1 μ1 H1 S1 e1 p1 s1 g1 J hJ => ?_)⟩
  split at g1
  case h_2 => exact g1.elim
  rename_i ds hds
  refine ⟨fun i m σ' H' => ∃ ρ' F' μ' S', Ex F1 F' ∧ μ1 <+: μ' ∧ SR X.K T F' μ' S' H' ∧ EnvR X.K F' μ' ρ' σ' ∧ GP X.K T F' μ' (forGo src ct cb m i ρ' S') (OkF X.K X.mg fr D W) NoEr,
    ⟨ds.length, ρ, F1, μ1, S1, Ex.refl _, List.prefix_refl _, s1, hE.mono e1 p1, g1⟩, ?_⟩
  rintro i m σ2 H2 ⟨ρ2, F2, μ2, S2, e2, p2, s2, hE2, g2⟩
  cases m with
  | zero =>
    left
    unfold forGo at g2
    split at g2
    case h_2 => exact g2.elim
    rename_i es hes
    split at g2
    case isFalse => exact g2.elim
    rename_i hl
    exact ⟨(hJ F2 μ2 S2 H2 es i e2 p2 s2 hes).2 hl, GP.here g2 s2 σ2 hE2⟩
  | succ m =>
    right
    unfold forGo at g2
    split at g2
    case h_2 => exact g2.elim
    rename_i es hes
    split at g2
    case h_2 => exact g2.elim
    rename_i d hd
    obtain ⟨hgo, hy⟩ := (hJ F2 μ2 S2 H2 es i e2 p2 s2 hes).1 d hd
    refine ⟨hgo, fun σ' H' => ∃ ρ' F' μ' S', Ex F1 F' ∧ μ1 <+: μ' ∧ SR X.K T F' μ' S' H' ∧ EnvR X.K F' μ' ρ' σ' ∧ GP X.K T F' μ' (forGo src ct cb m (i + 1) ρ' S') (OkF X.K X.mg fr D W) NoEr, fun σ' H' h => ⟨m, Nat.lt_succ_self _, h⟩, fun x H3 yl => ?_⟩
    obtain ⟨F3, e3, s3, rx⟩ := hy x H3 yl
    refine fg d x σ2 ρ2 F3 μ2 S2 H3 _ s3 (hE2.mono e3 (List.prefix_refl _)) rx (GP.noX (GP.seq (GP.mono g2 e3 (List.prefix_refl _)) fun ρ4 F4 μ4 H4 S4 e4 p4 s4 g4 σ4 hE4 _ => ?_))
    refine fb σ4 ρ4 F4 μ4 S4 H4 _ s4 hE4 (GP.seq g4 fun fl F5 μ5 H5 S5 e5 p5 s5 g5 => ?_)
    have ee := ((e2.trans e3).trans e4).trans e5
    have pp := (p2.trans p4).trans p5
    cases fl with
    | nx ρ' => exact fun σ' hE' => ⟨ρ', F5, μ5, S5, ee, pp, s5, hE', g5⟩
    | ct ρ' => exact fun σ' hE' => ⟨ρ', F5, μ5, S5, ee, pp, s5, hE', g5⟩
    | brk ρ' => exact fun σ' hE' => GP.here (er := NoEr) g5 s5 σ' hE'
    | ret d => exact GP.here (er := NoEr) g5 s5
    | exc x ρ' => exact GP.here (er := NoEr) g5 s5
def whileGo (c : BX) (b : SX) : Nat → PF.Env → Store → Out Fl
  | 0, _, _ => none
  | m + 1, ρ, S => stm ρ (c ρ S) fun x S => match x with
    | true => bindO (b ρ S) fun fl S => match fl with
      | .nx ρ' => whileGo c b m ρ' S
      | .ct ρ' => whileGo c b m ρ' S
      | .brk ρ' => some (.ok (.nx ρ'), S)
      | fl => some (.ok fl, S)
    | false => some (.ok (.nx ρ), S)
def sWhile (fuel : Nat) (c : BX) (b : SX) : SX := whileGo c b fuel
theorem rs_while {e : Expr} {body : List Stmt} {c : BX} {b : SX} {pos : Pos} (fuel : Nat) (hp : PassesOwn (model X.prog X.w) X.A X.env X.xe) (h : RT T X W e c) (hb : RSs T fr X W body b) : RS T fr X W (.While e body [] pos) (sWhile fuel c b) := by
  obtain ⟨t, p, f⟩ := h
  obtain ⟨tb, pb, fb⟩ := hb
  refine ⟨_, ps_while hp p pb, fun σ ρ F μ S H D s hE g => ?_⟩
  refine ⟨fun m σ' H' => ∃ ρ' F' μ' S', SR X.K T F' μ' S' H' ∧ EnvR X.K F' μ' ρ' σ' ∧ GP X.K T F' μ' (whileGo c b m ρ' S') (OkF X.K X.mg fr D W) NoEr, ⟨fuel, ρ, F, μ, S, s, hE, g⟩, ?_⟩
  rintro m σ2 H2 ⟨ρ2, F2, μ2, S2, s2, hE2, g2⟩
  cases m with
  | zero => exact g2.elim
  | succ m =>
    unfold whileGo at g2
    refine f σ2 ρ2 F2 μ2 S2 H2 _ s2 hE2 (GP.stm g2 hE2 fun x F3 μ3 H3 S3 e3 p3 s3 g3 => ?_)
    have hE3 := hE2.mono e3 p3
    cases x with
    | false => rw [if_neg Bool.false_ne_true]; exact GP.here g3 s3 σ2 hE3
    | true =>
      rw [if_pos rfl]
      refine ⟨fun σ' H' => ∃ ρ' F' μ' S', SR X.K T F' μ' S' H' ∧ EnvR X.K F' μ' ρ' σ' ∧ GP X.K T F' μ' (whileGo c b m ρ' S') (OkF X.K X.mg fr D W) NoEr, fun σ' H' h => ⟨m, Nat.lt_succ_self _, h⟩, ?_⟩
      refine fb σ2 ρ2 F3 μ3 S3 H3 _ s3 hE3 (GP.seq g3 fun fl F5 μ5 H5 S5 e5 p5 s5 g5 => ?_)
      cases fl with
      | nx ρ' => exact fun σ' hE' => ⟨ρ', F5, μ5, S5, s5, hE', g5⟩
      | ct ρ' => exact fun σ' hE' => ⟨ρ', F5, μ5, S5, s5, hE', g5⟩
      | brk ρ' => exact fun σ' hE' => GP.here (er := NoEr) g5 s5 σ' hE'
      | ret d => exact GP.here (er := NoEr) g5 s5
      | exc x ρ' => exact GP.here (er := NoEr) g5 s5
/-- code that is not come to -/
def sStuck : SX := fun _ _ => none
theorem rs_never {st : Stmt} : RS T fr X W st sStuck := ⟨_, ps_never, fun σ ρ F μ S H D s hE g => g.elim⟩

/-! ### the store's lists, by their methods -/
abbrev OpM := D → List D → Store → Out D
def MtOk (X : Cx) (T : List (Addr × Str)) (r : V → List V → Hp → VK → Prop) (o : OpM) : Prop := ∀ F μ S H d v ds vs Q er, SR X.K T F μ S H → Rep X.K F μ d v → Reps X.K F μ ds vs → GP X.K T F μ (o d ds S) (OkV X.K false Q) er → r v vs H Q
def cMt (o : OpM) (a : EX) (r : AX) : EX := fun ρ S => bindO (a ρ S) fun d S => match d with
  | .loc n => bindO (r ρ S) fun ds S => o (.loc n) ds S
  | _ => none
theorem re_bm {o e : Expr} {es : List Expr} {name : Str} {apos cpos : Pos} {id : String} {r : V → List V → Hp → VK → Prop} {om : OpM} {a : EX} {ca : AX} (slot : Slot "list" name id) (hty : typeOf (.builtin id) = pure (.type "method_descriptor")) (hm : MtR X id r) (hom : MtOk X T r om) (ho : RE T false X W o a) (ha : RA T X W (e :: es) ca)
    (hbase : attributeBase o name X.env (eval o X.env) = eval o X.env := by rfl)
    (hfew : ((backTo cpos (starEach (e :: es) X.env)).all (fun x => !x.1) && (backToKw cpos (keywordEach [] X.env)).all (fun x => x.1.isSome)
      && decide ((e :: es).length + ([] : List Keyword).length + (if ([] : List Keyword).isEmpty then 0 else 1) < 30)) = true := by rfl)
    (hline : (apos.endLine == cpos.line) = true := by rfl) (hs : starEach (e :: es) X.env = (false, eval e X.env) :: starEach es X.env := by rfl) (hplain : (backTo cpos (starEach es X.env)).any (·.1) = false := by rfl) :
    RE T false X W (.Call (.Attribute o name apos) (e :: es) [] cpos) (cMt om a ca) := by
  obtain ⟨t, p, f⟩ := ho
  obtain ⟨t2, p2, f2⟩ := ha
  refine ⟨_, pe_bm PySem.F.plainAttrs_list slot hty hm p p2 hbase hfew hline hs hplain, fun σ ρ F μ S H Q s hE g => f σ ρ F μ S H _ s hE (GP.seq g fun d F1 μ1 H1 S1 e1 q1 s1 g1 v rv => ?_)⟩
  cases rv with
  | @loc n A hm =>
    obtain ⟨ds, vs, h1, h2, _⟩ := s1.get hm
    refine ⟨.inl ⟨rfl, _, sq_of h2⟩, f2 σ ρ F1 μ1 S1 H1 _ s1 (hE.mono e1 q1) (GP.seq g1 fun ds F2 μ2 H2 S2 e2 q2 s2 g2 vs rs => ?_)⟩
    exact hom F2 μ2 S2 H2 _ _ ds vs Q _ s2 (.loc (pre_get q2 hm)) rs g2
  | _ => exact g1.elim
theorem re_bm0 {o : Expr} {name : Str} {apos cpos : Pos} {id : String} {r : V → List V → Hp → VK → Prop} {om : OpM} {a : EX} (slot : Slot "list" name id) (hty : typeOf (.builtin id) = pure (.type "method_descriptor")) (hm : MtR X id r) (hom : MtOk X T r om) (ho : RE T false X W o a)
    (hbase : attributeBase o name X.env (eval o X.env) = eval o X.env := by rfl) (hline : (apos.endLine == cpos.line) = true := by rfl) : RE T false X W (.Call (.Attribute o name apos) [] [] cpos) (cMt om a aNil) := by
  obtain ⟨t, p, f⟩ := ho
  refine ⟨_, pe_bm0 PySem.F.plainAttrs_list slot hty hm p hbase hline, fun σ ρ F μ S H Q s hE g => f σ ρ F μ S H _ s hE (GP.seq g fun d F1 μ1 H1 S1 e1 q1 s1 g1 v rv => ?_)⟩
  cases rv with
  | @loc n A hm =>
    obtain ⟨ds, vs, h1, h2, _⟩ := s1.get hm
    exact ⟨.inl ⟨rfl, _, sq_of h2⟩, hom F1 μ1 S1 H1 _ _ [] [] Q _ s1 (.loc hm) .nil g1⟩
  | _ => exact g1.elim
def mAppend : OpM := fun d ds S => match d, ds with
  | .loc n, [x] => (match S[n]? with
    | some xs => if x.pure = true ∧ xs.length < lim then some (.ok .non, S.set n (xs ++ [x])) else none
    | none => none)
  | _, _ => none
theorem mAppend_ok : MtOk X T rAppend mAppend := by
  intro F μ S H d v ds vs Q er s rv rs h
  unfold mAppend at h
  split at h
  · rename_i n x
    obtain ⟨u, rfl, ru⟩ := rs.inv1
    cases rv with
    | @loc n A hm =>
      obtain ⟨es, ws, h1, h2, h3, h4, h5⟩ := s.get hm
      rw [h1] at h
      dsimp only at h
      split at h
      · rename_i hc
        refine ⟨A, ws, u, rfl, rfl, h2, by rw [← h3.length]; exact Nat.lt_of_lt_of_le hc.2 (by decide), ?_⟩
        have s2 := s.put hm (h3.append (Reps.one ru)) (by rw [D.pures_append, h5, Bool.true_and]; simp [D.pures, hc.1])
        exact gp_val h s2 .non
      · exact h.elim
  · exact h.elim
def mPop : OpM := fun d ds S => match d, ds with
  | .loc n, [] => (match S[n]? with
    | some xs => (match xs[xs.length - 1]? with
      | some x => some (.ok x, S.set n xs.dropLast)
      | none => none)
    | none => none)
  | _, _ => none
theorem reps_dropLast {K : PySem.W.Frag} {F : Hp} {μ : List MA} {ds : List D} {vs : List V} (r : Reps K F μ ds vs) : Reps K F μ ds.dropLast vs.dropLast := by
  rw [List.dropLast_eq_take, List.dropLast_eq_take, r.length]
  exact r.take _
theorem pures_sub {ds es : List D} (h : D.pures ds = true) (hs : ∀ x ∈ es, x ∈ ds) : D.pures es = true := by
  rw [D.pures_iff] at h ⊢
  exact fun x hx => h x (hs x hx)
theorem mPop_ok : MtOk X T rPop mPop := by
  intro F μ S H d v ds vs Q er s rv rs h
  unfold mPop at h
  split at h
  · rename_i n
    cases rs
    cases rv with
    | @loc n A hm =>
      obtain ⟨es, ws, h1, h2, h3, h4, h5⟩ := s.get hm
      rw [h1] at h
      dsimp only at h
      split at h
      · rename_i x hx
        obtain ⟨w, k1, k2⟩ := h3.get hx
        refine ⟨A, ws, w, rfl, rfl, h2, by rw [← h3.length]; exact k1, ?_⟩
        have s2 := s.put hm (reps_dropLast h3) (pures_sub h5 fun x hx => List.dropLast_subset _ hx)
        exact gp_val h s2 k2
      · exact h.elim
  · exact h.elim
def mPopAt : OpM := fun d ds S => match d, ds with
  | .loc n, [.int i] => (match S[n]? with
    | some xs => if i < 1000000000 ∧ -1000000000 < i then (match ixN xs.length i with
      | some k => (match xs[k]? with
        | some x => some (.ok x, S.set n (xs.eraseIdx k))
        | none => none)
      | none => none) else none
    | none => none)
  | _, _ => none
theorem mPopAt_ok : MtOk X T rPopAt mPopAt := by
  intro F μ S H d v ds vs Q er s rv rs h
  unfold mPopAt at h
  split at h
  · rename_i n i
    obtain ⟨u, rfl, ru⟩ := rs.inv1
    cases ru
    cases rv with
    | @loc n A hm =>
      obtain ⟨es, ws, h1, h2, h3, h4, h5⟩ := s.get hm
      rw [h1] at h
      dsimp only at h
      split at h
      · rename_i hi
        split at h
        · rename_i k hk
          split at h
          · rename_i x hx
            obtain ⟨w, k1, k2⟩ := h3.get hx
            refine ⟨A, ws, i, k, w, rfl, rfl, h2, by omega, by omega, by rw [← h3.length]; exact (ixN_seq hk).1, k1, ?_⟩
            have s2 := s.put hm (h3.eraseIdx k) (pures_sub h5 fun x hx => List.mem_of_mem_eraseIdx hx)
            exact gp_val h s2 k2
          · exact h.elim
        · exact h.elim
      · exact h.elim
  · exact h.elim
end

/-! ### a def -/
def startE (n : Nat) (args : List D) : PF.Env := args.map some ++ List.replicate (n - args.length) none
def decK : List D → Option (List Key × List D)
  | [] => some ([], [])
  | .int i :: d :: r => (decK r).map fun p => (.inl i :: p.1, d :: p.2)
  | .str x :: d :: r => (decK r).map fun p => (.inr x :: p.1, d :: p.2)
  | _ => none
def exitD (fr : Bool) (n0 : Nat) (d : D) (S : Store) : Out D := match d with
  | .loc n => if n < n0 then (if fr = true then none else some (.ok (.loc n), S.take n0)) else (match S[n]? with
    | some ds => some (.ok (.lst ds), S.take n0)
    | none => none)
  | .ins c ns ds => if D.pures ds = true then some (.ok (.ins c ns ds), S.take n0) else none
  | .dks ks ds => if D.pures ds = true then some (.ok (.dks ks ds), S.take n0) else none
  | .gfn x => some (.ok (.gfn x), S.take n0)
  | .obj c n => if n < n0 then some (.ok (.obj c n), S.take n0) else none
  | .dkc n => if n < n0 then some (.ok (.dkc n), S.take n0) else (match S[n]? with
    | some ds => (match decK ds with
      | some (ks, es) => some (.ok (.dks ks es), S.take n0)
      | none => none)
    | none => none)
  | d => if d.pure = true then some (.ok d, S.take n0) else none
def exitF (fr : Bool) (n0 : Nat) (r : Out Fl) : Out D := match r with
  | some (.ok (.ret d), S) => exitD fr n0 d S
  | some (.ok (.nx _), S) => if fr = true then none else some (.ok .non, S.take n0)
  | some (.ok (.exc x _), S) => if D.pures (x.fields.map (·.2)) = true then some (.error x, S.take n0) else none
  | _ => none
/-- what a def of n names does -/
def callF (fr : Bool) (n : Nat) (b : SX) : OpB := fun ds S => exitF fr S.length (b (startE n ds) S)
theorem start_env {K : PySem.W.Frag} {F : Hp} {μ : List MA} {N : List Str} {ds : List D} {vs : List V} (r : Reps K F μ ds vs) : EnvR K F μ (startE N.length ds) (L2.start N vs) := by
  unfold startE L2.start
  refine ⟨by simp [r.length], fun i d h => ?_⟩
  by_cases hi : i < ds.length
  · rw [List.getElem?_append_left (by simpa using hi), List.getElem?_map] at h
    rw [List.getElem?_append_left (by simpa [← r.length] using hi), List.getElem?_map]
    cases e : ds[i]? with
    | none => rw [e] at h; cases h
    | some d' =>
      rw [e] at h; cases h
      obtain ⟨v, h1, h2⟩ := r.get e
      exact ⟨v, by rw [h1]; rfl, h2⟩
  · rw [List.getElem?_append_right (by simpa using hi), List.getElem?_replicate] at h
    split at h <;> cases h
theorem decK_enc : ∀ {ks : List Key} {es : List D}, ks.length = es.length → decK (encK ks es) = some (ks, es)
  | [], [], _ => rfl
  | .inl i :: ks, d :: ds, h => by
    simp only [encK, kD, decK]
    rw [decK_enc (ks := ks) (es := ds) (by simpa using h)]; rfl
  | .inr i :: ks, d :: ds, h => by
    simp only [encK, kD, decK]
    rw [decK_enc (ks := ks) (es := ds) (by simpa using h)]; rfl
theorem out_new {K : PySem.W.Frag} {T : List (Addr × Str)} {F F' H H' : Hp} {μ μ' : List MA} {S S' : Store} {m : MA} {n : Nat} (s0 : SR K T F μ S H) (s' : SR K T F' μ' S' H') (q : μ <+: μ') (hn : ¬ n < S.length) (hm : μ'[n]? = some m) : Out_ m.a μ := fun b hb z => by
  obtain ⟨t, rfl⟩ := q
  rw [List.getElem?_append_right (by rw [s0.len]; omega)] at hm
  have h := s'.nd
  rw [List.map_append] at h
  exact (List.nodup_append.mp h).2.2 b.a (List.mem_map_of_mem hb) m.a (List.mem_map_of_mem (List.mem_of_getElem? hm)) z
/-- what a def's end asks, told of its body -/
theorem exit_gp {K : PySem.W.Frag} {mg : Str → Option Value} {T : List (Addr × Str)} {fr : Bool} {F H : Hp} {μ : List MA} {S : Store} {r : Out Fl} {Q : VK} {E : XK} (s0 : SR K T F μ S H)
    (g : GP K T F μ (exitF fr S.length r) (OkV K fr Q) (ErW K mg E)) : GP K T F μ r (OkF K mg fr { nx := fun _ H' => Q .non H', rt := Q } fun cls d _ H' => E cls d H') NoEr := by
  match r, g with
  | none, g => exact g.elim
  | some (.error x, S'), g => exact g.elim
  | some (.ok fl, S'), g =>
    intro F' μ' H' e q s'
    have cut : SR K T F' μ (S'.take S.length) H' := by
      have := s'.cut S.length
      rwa [take_pre s0 q] at this
    match fl, g with
    | .nx ρ', g =>
      intro σ' _
      simp only [exitF] at g
      cases fr with
      | true => exact g.elim
      | false => exact g F' μ H' e (List.prefix_refl _) cut .non .non
    | .exc x ρ', g =>
      intro σ' cls dd _ hx
      simp only [exitF] at g
      split at g
      · rename_i hp
        obtain ⟨C, h1, h2, h3⟩ := hx
        exact g F' μ H' e (List.prefix_refl _) cut cls dd ⟨C, h1, h2, h3.imp id fun ⟨d, vs, a1, a2, a3⟩ => ⟨d, vs, a1, a2.free hp, a3⟩⟩
      · exact g.elim
    | .brk ρ', g => exact (show False from g).elim
    | .ct ρ', g => exact (show False from g).elim
    | .ret d, g =>
      intro v rv
      have g : GP K T F μ (exitD fr S.length d S') (OkV K fr Q) (ErW K mg E) := g
      -- a list of the store, made within
      have local_ : ∀ n a, d = .loc n → ¬ n < S.length → μ'[n]? = some ⟨a, .lst⟩ → v = .ref a → Q v H' := by
        intro n a hd hn hm hv
        subst hd; subst hv
        obtain ⟨es, vs, h1, h2, h3, h4, h5⟩ := s'.get hm
        simp only [exitD, if_neg hn, h1] at g
        have na : Out_ a μ := out_new s0 s' q hn hm
        cases fr with
        | true => exact g F' μ H' e (List.prefix_refl _) cut _ ⟨es, a, vs, rfl, rfl, h4, na, h2, h3.free h5⟩
        | false =>
          exact g (upd F' a (.lst vs)) μ H' (e.trans (Ex.new h4)) (List.prefix_refl _) (cut.freeze h4 na h2) _ (.lst upd_same ((h3.free h5).mono (Ex.new h4) (List.prefix_refl _)))
      cases fr with
      | false =>
        have rv : Rep K F' μ' d v := rv
        cases rv with
        | @loc n a hm =>
          by_cases hn : n < S.length
          · simp only [exitD, if_pos hn] at g
            refine g F' μ H' e (List.prefix_refl _) cut _ (.loc ?_)
            obtain ⟨t, rfl⟩ := q
            rwa [List.getElem?_append_left (by rw [s0.len]; exact hn)] at hm
          · exact local_ n a rfl hn hm rfl
        | non => exact g F' μ H' e (List.prefix_refl _) cut _ .non
        | bl b => exact g F' μ H' e (List.prefix_refl _) cut _ (.bl b)
        | int i => exact g F' μ H' e (List.prefix_refl _) cut _ (.int i)
        | str z => exact g F' μ H' e (List.prefix_refl _) cut _ (.str z)
        | tup h1 h2 =>
          simp only [exitD] at g
          split at g
          · rename_i hp
            exact g F' μ H' e (List.prefix_refl _) cut _ (Rep.free (.tup h1 h2) hp)
          · exact g.elim
        | lst h1 h2 =>
          simp only [exitD] at g
          split at g
          · rename_i hp
            exact g F' μ H' e (List.prefix_refl _) cut _ (Rep.free (.lst h1 h2) hp)
          · exact g.elim
        | fz h1 h2 =>
          simp only [exitD] at g
          split at g
          · rename_i hp
            exact g F' μ H' e (List.prefix_refl _) cut _ (Rep.free (.fz h1 h2) hp)
          · exact g.elim
        | tpn h0 h1 h2 =>
          simp only [exitD] at g
          split at g
          · rename_i hp
            exact g F' μ H' e (List.prefix_refl _) cut _ (Rep.free (.tpn h0 h1 h2) hp)
          · exact g.elim
        | dct h1 =>
          simp only [exitD] at g
          split at g
          · rename_i hp
            exact g F' μ H' e (List.prefix_refl _) cut _ (Rep.free (μ := μ') (.dct h1) hp)
          · exact g.elim
        | ins h1 h2 h3 =>
          simp only [exitD] at g
          split at g
          · rename_i hp
            exact g F' μ H' e (List.prefix_refl _) cut _ (.ins h1 h2 (Reps.free h3 hp))
          · exact g.elim
        | dks h1 h2 h3 =>
          simp only [exitD] at g
          split at g
          · rename_i hp
            exact g F' μ H' e (List.prefix_refl _) cut _ (.dks h1 h2 (Reps.free h3 hp))
          · exact g.elim
        | gfn => exact g F' μ H' e (List.prefix_refl _) cut _ .gfn
        | @obj n a c hm =>
          simp only [exitD] at g
          split at g
          · rename_i hn
            refine g F' μ H' e (List.prefix_refl _) cut _ (.obj ?_)
            obtain ⟨t, rfl⟩ := q
            rwa [List.getElem?_append_left (by rw [s0.len]; exact hn)] at hm
          · exact g.elim
        | @dkc n a hm =>
          by_cases hn : n < S.length
          · simp only [exitD, if_pos hn] at g
            refine g F' μ H' e (List.prefix_refl _) cut _ (.dkc ?_)
            obtain ⟨t, rfl⟩ := q
            rwa [List.getElem?_append_left (by rw [s0.len]; exact hn)] at hm
          · obtain ⟨es, h1, h2, h3, hc⟩ := s'.at hm
            simp only [exitD, if_neg hn, h1] at g
            have na : Out_ a μ := out_new s0 s' q hn hm
            cases hc with
            | dk k1 k2 k3 =>
              rw [decK_enc k1] at g
              rw [pures_encK k1] at h3
              exact g (upd F' a _) μ H' (e.trans (Ex.new h2)) (List.prefix_refl _) (cut.freezeO h2 na k2 (.inr (.inr ⟨_, rfl⟩))) _ (.dks upd_same k1 ((k3.free h3).mono (Ex.new h2) (List.prefix_refl _)))
        | fn h1 h2 =>
          simp only [exitD] at g
          split at g
          · rename_i hp
            exact g F' μ H' e (List.prefix_refl _) cut _ (Rep.free (μ := μ') (.fn h1 h2) hp)
          · exact g.elim
      | true =>
        rcases rv with ⟨es, a, vs, hd, hv, h1, h2, h3, h4⟩ | ⟨n, hd, hr⟩
        · subst hd; subst hv
          simp only [exitD] at g
          split at g
          · rename_i hp
            have hp : D.pures es = true := by simpa [D.pure] using hp
            refine g F' μ H' e (List.prefix_refl _) cut _ ⟨es, a, vs, rfl, rfl, h1, fun m hm => h2 m ?_, h3, h4.free hp⟩
            obtain ⟨t, rfl⟩ := q
            exact List.mem_append_left _ hm
          · exact g.elim
        · subst hd
          cases hr with
          | @loc n a hm =>
            by_cases hn : n < S.length
            · simp only [exitD, if_pos hn] at g
              exact g.elim
            · exact local_ n a rfl hn hm rfl
theorem def_gT {P : Program} {w : World} {K : PySem.W.Frag} {mg : Str → Option Value} {base : Heap} {T : List (Addr × Str)} {x qual : Str} {params : Arguments} {body : List Stmt} {scope : Scope} {dvs : List V} {kws : List (Str × V)} {f : Addr} {fd : FuncData} {N ps : List Str} {k : Nat} {fr : Bool} {b : SX}
    (FD : FunD K x qual params body scope dvs kws f fd) (sc : FnScope N ps scope)
    (hb : ∀ (cdv : Value) (A : Around) (outer : List PySem.Env) (s : Shared) (H : Hp) (E : XK), fd.code = cdv → Room k (A.deeper (envOfC qual scope s.heap.objs.size f cdv)) → A.guards = some [] →
      RSs T fr (cxOf (L2.CX P w) P w K mg base N qual scope f cdv A outer s H E) (fun cls d _ H' => E cls d H') body b) :
    FnG P w K mg base (k + 1) f fd ps (spOf K mg T fr ps.length (callF fr N.length b)) := by
  refine fn_gT FD sc (fun vs H Q E h => ?_) fun cdv A outer s H vs Q E hc room gu h => ?_
  · obtain ⟨_, _, _, _, _, _, hl, _⟩ := h
    exact hl
  · obtain ⟨F, μ, S, ds, s0, rs, hl, g⟩ := h
    obtain ⟨t, p, rd⟩ := hb cdv A outer s H E hc room gu
    exact ⟨t, p, rd _ (startE N.length ds) F μ S H _ s0 (start_env rs) (exit_gp s0 g)⟩
theorem def_g {P : Program} {w : World} {K : PySem.W.Frag} {mg : Str → Option Value} {base : Heap} {T : List (Addr × Str)} {x qual : Str} {params : Arguments} {body : List Stmt} {scope : Scope} {dvs : List V} {kws : List (Str × V)} {f : Addr} {fd : FuncData} {N ps : List Str} {k : Nat} {fr : Bool} {b : SX}
    (FD : FunD K x qual params body scope dvs kws f fd) (sc : FnScope N ps scope)
    (hb : ∀ (cdv : Value) (A : Around) (outer : List PySem.Env) (s : Shared) (H : Hp) (E : XK), Room k (A.deeper (envOfC qual scope s.heap.objs.size f cdv)) → A.guards = some [] →
      RSs T fr (cxOf (L2.CX P w) P w K mg base N qual scope f cdv A outer s H E) (fun cls d _ H' => E cls d H') body b) :
    FnG P w K mg base (k + 1) f fd ps (spOf K mg T fr ps.length (callF fr N.length b)) :=
  def_gT FD sc fun cdv A outer s H E _ => hb cdv A outer s H E
end PF
set_option Elab.async false
set_option linter.all false
set_option maxRecDepth 100000
set_option maxHeartbeats 4000000
/-! PFL: lambdas that capture nothing, as things that are known. -/
namespace PF
open PySem L2 Evl PySem.Spec PyProof.Rows LamX
section
variable {X : Cx} {pins : List (Addr × Obj)} {σ : L2.St} {H : Hp} {s : Shared}
/-- an object that is new since the frame's start is known from now on -/
theorem inv_know {f : Addr} {l : LamSite} {pm ctv : Value} {c' : Addr} (I : Inv X pins σ H s) (hn : H f = none) (hf : s.heap.get? f = some (PySem.W.kla_obj "<lambda>" l.qual l.params l.body l.scope [] pm c' ctv))
    (h0 : X.s_0.heap.objs.size ≤ f) (hl : f ≠ X.env.locals) (hcl : ∀ x c, X.env.cells.lookup x = some c → c ≠ f) (hp : ∀ p ∈ X.pn ++ pins, p.1 ≠ f) : Inv X pins σ (upd H f (FunO f l pm c' ctv)) s := by
  have ne : ∀ b u, H b = some u → b ≠ f := fun b u e => ne_of_none e hn
  have same : ∀ b u, H b = some u → upd H f (FunO f l pm c' ctv) b = some u := fun b u e => by rw [upd_ne (ne b u e)]; exact e
  refine I.step (g' := s.gens) (t' := s.toks) (d' := s.drawn) (h' := s.heap) (ch := [f])
    (fun b hb => ?_) (fun b o _ _ _ e _ => e) (fun b o _ _ _ e _ => ⟨o.slots, e⟩) (fun b o hb _ n => ?_) (fun b o _ e => ⟨o, e⟩) (fun b xs e => same b _ e) (fun b o u e => same b _ e)
    (fun b ps e => ⟨#[], by rw [same b _ e]; simp⟩) (fun m hm => hm) (fun b u e => ?_) I.bare
  · rw [List.mem_singleton] at hb
    subst hb
    exact ⟨.inr h0, hl, hcl, hp⟩
  · rw [upd_ne (fun z => hb (by rw [z]; exact List.mem_singleton_self _))]
    exact n
  · by_cases hb : b = f
    · subst hb
      rw [upd_same] at e
      cases e
      exact ⟨hf, ⟨_, hf⟩, fun h1 h2 z st => st _ z⟩
    · rw [upd_ne hb] at e
      exact (I.hok b u e).stay (fun d v _ q => q) (fun d q => by rw [upd_ne (ne d _ q)]; exact q) fun d xs q => same d _ q
/-- a lambda without captures is made: it is known from then on -/
theorem lam_make3 {T : List (Addr × Str)} {c P : Addr} {l : LamSite} {pos : Pos} {E Q : Value → Shared → Prop} (I : Inv X pins σ H s)
    (TB : TabB X.base X.mg c P) (hcode : X.env.code = .ref c) (hq : l.qual = X.env.qual ++ "<lambda>") (hm : (P, l.qual) ∈ T) (hu : ∀ p ∈ T, p.1 = P → p.2 = l.qual) (hT : Tabs T H)
    (hdf : defaultsOf l.params X.env = ([], [])) (hcl : cloFrom X.env.cells l.scope.names [] = []) (hfree : ∀ y ∈ l.scope.names, y.2 = .free → ∃ c, X.env.cells.lookup y.1 = some c)
    (h : ∀ (f c' : Addr) (pm ctv : Value) (H1 : Hp) (s' : Shared), Inv X pins σ H1 s' → (∀ b o, H b = some o → b ≠ P → H1 b = some o) → Tabs T H1 → H f = none → c' ≠ f → H1 f = some (FunO f l pm c' ctv) → H1 c' = some (CodeO c' l.qual) → Q (.ref f) s') :
    wpAny (model X.prog X.w) X.A (eval (.Lambda l.params l.body l.scope pos) X.env) Q E s := by
  obtain ⟨lp, lb, ls, lq⟩ := l
  subst hq
  obtain ⟨ps, hP, ht, among⟩ := hT _ hm
  have hsz0 : X.s_0.heap.objs.size ≤ s.heap.objs.size := Nat.le_of_lt (Nat.lt_of_le_of_lt I.ok.above I.lt)
  have cellLt : ∀ x c, X.env.cells.lookup x = some c → c < s.heap.objs.size := fun x c e => by
    obtain ⟨v, o, ho, _⟩ := I.cell x c e
    exact Heap.lt_size ho
  have pinLt : ∀ p ∈ X.pn ++ pins, p.1 < s.heap.objs.size := fun p hp => Heap.lt_size (I.pin p hp).1
  -- the last step: the function itself is known
  have last : ∀ (f c' : Addr) (pm ctv : Value) (H1 : Hp) (s' : Shared), Inv X pins σ H1 s' → (∀ b o, H b = some o → b ≠ P → H1 b = some o) → Tabs T H1 →
      s'.heap.get? f = some (PySem.W.kla_obj "<lambda>" (X.env.qual ++ "<lambda>") lp lb ls (cloFrom X.env.cells ls.names []) pm c' ctv) → H1 f = none → s.heap.objs.size ≤ f →
      H1 c' = some (CodeO c' (X.env.qual ++ "<lambda>")) → Q (.ref f) s' := fun f c' pm ctv H1 s' I1 e1 t1 g1 n1 sz hc => by
    rw [hcl] at g1
    have nf : ∀ b u, H1 b = some u → b ≠ f := fun b u e => ne_of_none e n1
    have ext : ∀ b o, H1 b = some o → upd H1 f (FunO f ⟨lp, lb, ls, X.env.qual ++ "<lambda>"⟩ pm c' ctv) b = some o := fun b o e => by rw [upd_ne (nf b o e)]; exact e
    have I2 := inv_know (l := ⟨lp, lb, ls, X.env.qual ++ "<lambda>"⟩) I1 n1 g1 (Nat.le_trans hsz0 sz) (fun e => by rw [e] at sz; exact Nat.lt_irrefl _ (Nat.lt_of_lt_of_le I.lt sz))
      (fun x c e z => by have := cellLt x c e; rw [z] at this; exact Nat.lt_irrefl _ (Nat.lt_of_lt_of_le this sz)) (fun p hp z => by have := pinLt p hp; rw [z] at this; exact Nat.lt_irrefl _ (Nat.lt_of_lt_of_le this sz))
    exact h f c' pm ctv _ s' I2 (fun b o e n => ext b o (e1 b o e n)) (t1.ext ext) (I.hok.fresh sz) (ne_of_none hc n1) upd_same (ext _ _ hc)
  have bi : s.heap.BuiltinsAt X.mg P := TB.bm.keeps I.bk
  have tabP : s.heap.get? P = some { cls := .none, data := .fields ps } := I.hok P _ hP
  refine PySem.W.kla_eval hdf ?_
  cases hc : codeAmong pos ps.toList with
  | some cv =>
    obtain ⟨c', rfl, hco⟩ := among pos cv hc
    refine PySem.W.kla_makeFunctionHit (mg := X.mg) (c := c) (P := P) (ps := ps) (closure_ok hfree) I.ok.glob (I.mod.glob.keeps I.bk) hcode (TB.code.keeps I.bk) tabP ht hc bi fun ctv h' tk hx hsz => ?_
    exact last h'.objs.size c' _ ctv H _ (I.kept fun b o e => Heap.get?_push_of_some _ (hx b o e)) (fun _ _ e _ => e) hT (Heap.get?_push_size _ rfl) (I.hok.fresh hsz) hsz hco
  | none =>
    refine PySem.W.kla_makeFunction (mg := X.mg) (c := c) (P := P) (ps := ps) (closure_ok hfree) I.ok.glob (I.mod.glob.keeps I.bk) hcode (TB.code.keeps I.bk) tabP ht hc TB.gP bi fun c' ctv h' tk hx hge hlt hrec htb => ?_
    obtain ⟨z2, oz, vz, tz, ez, ho2, hd2, hv2⟩ := hrec
    cases ez
    have big : s.heap.objs.size ≤ h'.objs.size := Nat.le_trans hge (Nat.le_of_lt hlt)
    have fresh' : H c' = none := I.hok.fresh hge
    have nPc : P ≠ c' := ne_of_none hP fresh'
    have I1 := inv_table (t' := tk) (more := #[rawInt pos.line, rawInt pos.col, .ref c']) (h' := h'.push (PySem.W.kla_obj "<lambda>" (X.env.qual ++ "<lambda>") lp lb ls (cloFrom X.env.cells ls.names []) ((X.mg "__name__").getD .none) c' ctv)) I hP
      (fun b o hb e => Heap.get?_push_of_some _ (hx b o hb e)) (Heap.get?_push_of_some _ htb) hge ⟨oz, vz, tz, Heap.get?_push_of_some _ ho2, hd2, hv2⟩
    have out : ∀ b, b ≠ P → b ≠ c' → upd (upd H P (.tbl (ps ++ #[rawInt pos.line, rawInt pos.col, .ref c']))) c' (CodeO c' (X.env.qual ++ "<lambda>")) b = H b := fun b h1 h2 => by rw [upd_ne h2, upd_ne h1]
    have exn : ExtN H (upd (upd H P (.tbl (ps ++ #[rawInt pos.line, rawInt pos.col, .ref c']))) c' (CodeO c' (X.env.qual ++ "<lambda>"))) := fun b o e n =>
      (out b (fun z => n ps (Option.some.inj (e.symm.trans (by rw [z]; exact hP)))) (ne_of_none e fresh')).trans e
    have fP : h'.objs.size ≠ P := Nat.ne_of_gt (Nat.lt_of_lt_of_le (Heap.lt_size tabP) big)
    refine last h'.objs.size c' _ ctv _ _ I1 (fun b o e n => (out b n (ne_of_none e fresh')).trans e) (fun p hp => ?_) (Heap.get?_push_size _ rfl) (by rw [out _ fP (Nat.ne_of_gt hlt)]; exact I.hok.fresh big) big upd_same
    by_cases hb : p.1 = P
    · have e2 := hu p hp hb
      rw [hb, e2]
      refine ⟨ps ++ #[rawInt pos.line, rawInt pos.col, .ref c'], by rw [upd_ne nPc, upd_same], ?_, fun p' cv hcv => ?_⟩
      · simpa using PySem.TriplesOk_snoc _ _ _ _ ht
      · rcases among_app _ ht (by simpa using hcv) with z | z
        · obtain ⟨c0, a1, a2⟩ := among p' cv z
          exact ⟨c0, a1, exn _ _ a2 codeO_ne⟩
        · exact ⟨c', z, upd_same⟩
    · obtain ⟨qs, a1, a2, a3⟩ := hT p hp
      refine ⟨qs, (out _ hb (ne_of_none a1 fresh')).trans a1, a2, fun p' cv hcv => ?_⟩
      obtain ⟨c0, b1, b2⟩ := a3 p' cv hcv
      exact ⟨c0, b1, exn _ _ b2 codeO_ne⟩
/-- a lambda that is known is called -/
theorem run_lam {CX : CXT} {P : Program} {w : World} {K : PySem.W.Frag} {mg : Str → Option Value} {base : Heap} {k : Nat} {f c' : Addr} {l : LamSite} {pm ctv : Value} {N ps : List Str} {A : Around} {outer : List PySem.Env} {s : Shared} {H : Hp} {us : List Value} {vs : List V} {Q : VK} {E : XK}
    (S : FnScope N ps l.scope) (hr : Room (k + 1) A) (e0 : Env0 P w K mg base A outer s H) (lim : s.heap.NoLimit) (hF : H f = some (FunO f l pm c' ctv)) (hC : H c' = some (CodeO c' l.qual))
    (hb : BindsTo s (PySem.W.kla_fn "<lambda>" l.qual l.params l.body l.scope [] pm (.ref c') ctv) ⟨us, []⟩ (ps.zip us)) (r : Vals vs us) (hl : vs.length = ps.length)
    (hbody : Room k (A.deeper (envOfC l.qual l.scope s.heap.objs.size f (.ref c'))) → ∃ t, PE (cxOf CX P w K mg base N l.qual l.scope f (.ref c') A outer s H E) l.body t ∧ t (L2.start N vs) H Q) :
    codeAny (model P w) A (.call (.ref f) ⟨us, []⟩) (CR CX outer P w H s Q E) s := by
  have of : s.heap.get? f = some (PySem.W.kla_obj "<lambda>" l.qual l.params l.body l.scope [] pm c' ctv) := (e0.hok f _ hF).1
  obtain ⟨oz, vz, tz, ho, hd, hv⟩ := (e0.hok c' _ hC).1
  refine PySem.W.kla_callFunE hr.depth of rfl S.co S.gen rfl ⟨c', oz, vz, tz, rfl, ho, hd, hv⟩ ?_
  refine hb _ _ _ _ ?_
  have kinds : ∀ y ∈ ps.zip us, l.scope.names.lookup y.1 = some .local ∨ (l.scope.names.lookup y.1 = some .cell ∧ ((cellsFrom (s.heap.objs.size + 1) l.scope.names []).lookup y.1).isSome = true) := fun ⟨n, v⟩ hy =>
    (S.par n (List.of_mem_zip hy).1).imp id fun q => ⟨q, PySem.W.cellsFrom_some _ _ _ (.inl q)⟩
  refine wpAny_newFunctionEnv_cells S.kind kinds fun env he s1 x => ?_
  subst he
  refine ⟨lim.keeps x.toInCall.keep, ?_⟩
  obtain ⟨t, ht, hq⟩ := hbody (hr.deeper _)
  have J : Inv (cxOf CX P w K mg base N l.qual l.scope f (.ref c') A outer s H E) [] (L2.start N vs) H s1 := inv_start S hr.hd e0 hl r x
  refine PySem.W.kla_codeExpr (wpAny_mono (ht.run [] s1 (L2.start N vs) H _ J hq) (fun v s' z => ?_) fun e s' z => z)
  obtain ⟨u, H', J', rv, q⟩ := z
  exact ⟨u, H', J'.os, J'.bare, J'.base, J'.hok, rv, q⟩
end
/-! ### a lambda as data -/
section
variable {X : Cx} {T : List (Addr × Str)} {W : WX}
/-- what the making of lambdas asks of a def's context -/
structure LamCx (X : Cx) (T : List (Addr × Str)) (q : Str) : Prop where
  ex : ∃ c P, TabB X.base X.mg c P ∧ X.env.code = .ref c ∧ (P, q) ∈ T ∧ ∀ p ∈ T, p.1 = P → p.2 = q
  qual : q = X.env.qual ++ "<lambda>"
def cLam (l : LamSite) : EX := fun _ S => some (.ok (.fn l), S)
/-- the state behind the making -/
theorem SR.know {K : PySem.W.Frag} {F H H1 : Hp} {μ : List MA} {S : Store} {f c' P : Addr} {l : LamSite} {pm ctv : Value} (s : SR K T F μ S H) (hP : ∃ q, (P, q) ∈ T) (e : ∀ b o, H b = some o → b ≠ P → H1 b = some o) (t : Tabs T H1) (hn : H f = none)
    (nfc : c' ≠ f) (hf : H1 f = some (FunO f l pm c' ctv)) (hc : H1 c' = some (CodeO c' l.qual)) : ∃ F', Ex F F' ∧ SR K T F' μ S H1 ∧ F' f = some (FunO f l pm c' ctv) ∧ F' c' = some (CodeO c' l.qual) := by
  obtain ⟨q, hP⟩ := hP
  have FP : F P = none := s.tabF _ hP
  have Ff : F f = none := fresh_back s.ex hn
  have tabT : ∀ p ∈ T, ∃ ps, H1 p.1 = some (.tbl ps) := fun p hp => by
    obtain ⟨ps, h, _⟩ := t p hp
    exact ⟨ps, h⟩
  have ncT : ∀ p ∈ T, p.1 ≠ c' := fun p hp z => by
    obtain ⟨ps, h⟩ := tabT p hp
    rw [z, hc] at h
    unfold CodeO at h
    cases h
  have nfT : ∀ p ∈ T, p.1 ≠ f := fun p hp z => by
    obtain ⟨ps, h, _⟩ := s.tab p hp
    rw [z, hn] at h; cases h
  have Fold : ∀ b o, F b = some o → H1 b = some o := fun b o hb => e b o (s.ex b o hb) (fun z => by rw [z, FP] at hb; cases hb)
  refine ⟨fun b => if b = f then some (FunO f l pm c' ctv) else if b = c' then some (CodeO c' l.qual) else F b, fun b o hb => ?_, ⟨fun b o hb => ?_, s.len, s.nd, fun n a ds e1 e2 => ?_, t, fun p hp => ?_⟩, if_pos rfl, ?_⟩
  · have h1 : b ≠ f := fun z => by rw [z, Ff] at hb; cases hb
    try dsimp only
    rw [if_neg h1]
    by_cases h2 : b = c'
    · rw [if_pos h2]
      have := Fold b o hb
      rw [h2, hc] at this
      exact this
    · rw [if_neg h2]; exact hb
  · try dsimp only at hb
    by_cases h1 : b = f
    · rw [if_pos h1] at hb; cases hb; rw [h1]; exact hf
    · rw [if_neg h1] at hb
      by_cases h2 : b = c'
      · rw [if_pos h2] at hb; cases hb; rw [h2]; exact hc
      · rw [if_neg h2] at hb; exact Fold b o hb
  · obtain ⟨h1, h2, hc3⟩ := s.ob n a ds e1 e2
    obtain ⟨o3, h3, hM⟩ := hc3.ho
    have aP : a.a ≠ P := fun z => by
      obtain ⟨ps, h, _⟩ := s.tab _ hP
      rw [z, h] at h3; cases h3
      rcases hM with ⟨_, z⟩ | ⟨_, _, _, z⟩ | ⟨_, z⟩ <;> cases z
    have a1 := e a.a _ h3 aP
    have af : a.a ≠ f := fun z => by rw [z, hn] at h3; cases h3
    have ac : a.a ≠ c' := fun z => by
      rw [z, hc] at a1
      unfold CodeO at a1
      cases a1
      rcases hM with ⟨_, z⟩ | ⟨_, _, _, z⟩ | ⟨_, z⟩ <;> cases z
    refine ⟨by rw [if_neg af, if_neg ac]; exact h1, h2, hc3.mono (fun b o hb => ?_) (List.prefix_refl _) fun o ho => e a.a _ ho aP⟩
    have h5 : b ≠ f := fun z => by rw [z, Ff] at hb; cases hb
    try dsimp only
    rw [if_neg h5]
    by_cases h6 : b = c'
    · rw [if_pos h6]
      have := Fold b o hb
      rw [h6, hc] at this
      exact this
    · rw [if_neg h6]; exact hb
  · try dsimp only
    rw [if_neg (nfT p hp), if_neg (ncT p hp)]
    exact s.tabF p hp
  · try dsimp only
    by_cases h1 : c' = f
    · exact absurd h1 nfc
    · rw [if_neg h1, if_pos rfl]
theorem re_lam {l : LamSite} {pos : Pos} (L : LamCx X T l.qual) (hdf : defaultsOf l.params X.env = ([], []) := by rfl) (hcl : cloFrom X.env.cells l.scope.names [] = [] := by rfl) (hfree : l.scope.names.all (fun y => !decide (y.2 = .free)) = true := by decide +kernel) :
    RE T false X W (.Lambda l.params l.body l.scope pos) (cLam l) := by
  obtain ⟨c, P, TB, hcode, hm, hu⟩ := L.ex
  refine ⟨fun σ H Q => Tabs T H ∧ ∀ (f c' : Addr) (pm ctv : Value) (H1 : Hp), (∀ b o, H b = some o → b ≠ P → H1 b = some o) → Tabs T H1 → H f = none → c' ≠ f → H1 f = some (FunO f l pm c' ctv) → H1 c' = some (CodeO c' l.qual) → Q (.ref f) H1,
    ⟨fun pins s σ H Q I h => ?_⟩, fun σ ρ F μ S H Q s hE g => ⟨s.tab, fun f c' pm ctv H1 e t hn hne hf hc => ?_⟩⟩
  · refine lam_make3 (l := l) I TB hcode L.qual hm hu h.1 hdf hcl (fun y hy z => ?_) fun f c' pm ctv H1 s' J e t hn hne hf hc => ⟨.ref f, H1, J, rfl, h.2 f c' pm ctv H1 e t hn hne hf hc⟩
    have := List.all_eq_true.mp hfree y hy
    simp [z] at this
  · obtain ⟨F', e1, s1, k1, k2⟩ := s.know ⟨_, hm⟩ e t hn hne hf hc
    exact g F' μ H1 e1 (List.prefix_refl _) s1 _ (.fn k1 k2)
/-- what a lambda does, told by its body -/
def lamF (n : Nat) (c : EX) : OpB := callF false n (sRet c)
structure LamG (P : Program) (w : World) (K : PySem.W.Frag) (mg : Str → Option Value) (base : Heap) (T : List (Addr × Str)) (k : Nat) (l : LamSite) (ps : List Str) (o : OpB) : Prop where
  run : ∀ (A : Around) (outer : List PySem.Env) (s : Shared) (H : Hp) (us : List Value) (vs : List V) (Q : VK) (E : XK) (f c' : Addr) (pm ctv : Value), Room k A → A.guards = some [] → Env0 P w K mg base A outer s H →
    H f = some (FunO f l pm c' ctv) → H c' = some (CodeO c' l.qual) → Vals vs us → spOf K mg T false ps.length o vs H Q E → codeAny (model P w) A (.call (.ref f) ⟨us, []⟩) (CR (L2.CX P w) outer P w H s Q E) s
def PosL (l : LamSite) (ps : List Str) : Prop := ∀ (pm cv ctv : Value) (us : List Value), us.length = ps.length → bindArgs (PySem.W.kla_fn "<lambda>" l.qual l.params l.body l.scope [] pm cv ctv) ⟨us, []⟩ = pure (ps.zip us)
theorem lam_g {P : Program} {w : World} {K : PySem.W.Frag} {mg : Str → Option Value} {base : Heap} {N ps : List Str} {k : Nat} {l : LamSite} {c : EX} (sc : FnScope N ps l.scope) (hp : PosL l ps)
    (hb : ∀ (f c' : Addr) (A : Around) (outer : List PySem.Env) (s : Shared) (H : Hp) (E : XK), Room k (A.deeper (envOfC l.qual l.scope s.heap.objs.size f (.ref c'))) → A.guards = some [] →
      RE T false (cxOf (L2.CX P w) P w K mg base N l.qual l.scope f (.ref c') A outer s H E) (fun cls d _ H' => E cls d H') l.body c) :
    LamG P w K mg base T (k + 1) l ps (lamF N.length c) := by
  refine ⟨fun A outer s H us vs Q E f c' pm ctv hr hgu e0 hF hC r h => ?_⟩
  obtain ⟨F, μ, S, ds, s0, rs, hl, g⟩ := h
  have lim : s.heap.NoLimit := e0.mod.nolimit.keeps fun b o e => (e0.bs b o e).1
  refine run_lam sc hr e0 lim hF hC (.of_eq (hp _ _ _ us (by rw [← r.length]; exact hl))) r hl fun room => ?_
  obtain ⟨t, p, rd⟩ := hb f c' A outer s H E room hgu
  refine ⟨t, p, rd _ (startE N.length ds) F μ S H _ s0 (start_env rs) ?_⟩
  have g2 := exit_gp s0 g
  match hc : c (startE N.length ds) S with
  | none => rw [show sRet c (startE N.length ds) S = none by unfold sRet; rw [hc]; rfl] at g2; exact g2.elim
  | some (.ok d, S') =>
    rw [show sRet c (startE N.length ds) S = some (.ok (.ret d), S') by unfold sRet; rw [hc]; rfl] at g2
    exact fun F' μ' H' e q s' v rv => g2 F' μ' H' e q s' v rv
  | some (.error x, S') =>
    rw [show sRet c (startE N.length ds) S = some (.ok (.exc x (startE N.length ds)), S') by unfold sRet; rw [hc]; rfl] at g2
    exact fun F' μ' H' e q s' cls dd rx => g2 F' μ' H' e q s' (L2.start N vs) cls dd ((start_env rs).mono e q) rx
open Classical in
/-- the call of a name that holds the lambda l -/
noncomputable def cCallV (i : Nat) (l : LamSite) (n : Nat) (o : OpB) (r : AX) : EX := fun ρ S => match ρ[i]? with
  | some (some (.fn l')) => if l' = l then bindO (r ρ S) fun ds S => if ds.length = n then o ds S else none else none
  | _ => none
theorem ap_callV {i n : Nat} {l : LamSite} {o : OpB} {r : AX} {ρ : PF.Env} {S : Store} (h : ρ[i]? = some (some (.fn l))) : cCallV i l n o r ρ S = bindO (r ρ S) fun ds S => if ds.length = n then o ds S else none := by
  unfold cCallV
  rw [h]
  exact if_pos rfl
theorem re_callV {k i : Nat} {a : Str} {l : LamSite} {ps : List Str} {o : OpB} {e : Expr} {es : List Expr} {p pos : Pos} {c : AX} (G : LamG X.prog X.w X.K X.mg X.base T k l ps o) (hr : Room k X.A) (hgu : X.A.guards = some []) (hx : ∀ σ, PassesAt (L2.CX X.prog X.w) X σ fun cls d H => W cls d σ H)
    (ha : RA T X W (e :: es) c) (hN : X.N[i]? = some a := by rfl) (hv : Vis X.env.scope a := by first | exact Or.inl rfl | exact Or.inr (Or.inl rfl) | exact Or.inr (Or.inr rfl)) (hd : (a == ("__debug__" : Str)) = false := by decide) (hcd : (a == ("__classdict__" : Str)) = false := by decide)
    (he : starEach (e :: es) X.env = (false, eval e X.env) :: starEach es X.env := by rfl) (hpl : (backTo pos (starEach es X.env)).any (·.1) = false := by rfl) :
    RE T false X W (.Call (.Name a p) (e :: es) [] pos) (cCallV i l ps.length o c) := by
  obtain ⟨t, pa, rd⟩ := ha
  refine ⟨fun σ H Q => ∃ (f c' : Addr) (pm ctv : Value), σ[i]? = some (some (.ref f)) ∧ H f = some (FunO f l pm c' ctv) ∧ t σ H fun vs H1 => H1 f = some (FunO f l pm c' ctv) ∧ H1 c' = some (CodeO c' l.qual) ∧ spOf X.K X.mg T false ps.length o vs H1 Q (fun cls d H => W cls d σ H),
    ⟨fun pins s σ H Q I h => ?_⟩, fun σ ρ F μ S H Q s hE g => ?_⟩
  · obtain ⟨f, c', pm, ctv, hs, hF, ht⟩ := h
    refine wpAny_Call_Name_kw (thn ((pe_var (pos := p) (i := i) hN hv hd hcd).run pins s σ H (fun v H1 => v = .ref f ∧ H1 = H) I ⟨.ref f, hs, rfl, rfl⟩) fun u s1 ⟨v, H1, I1, r1, q1⟩ => ?_)
    obtain ⟨rfl, rfl⟩ := q1
    obtain rfl : u = Value.ref f := r1
    have fn : ∀ {s2 : Shared} {H2 : Hp}, Inv X pins σ H2 s2 → H2 f = some (FunO f l pm c' ctv) → PySem.W.FnAt f s2.heap := fun J hf => ⟨_, _, _, _, (J.hok f _ hf).1⟩
    refine PySem.W.callWith_F (fn I1 hF) (thn (pa.run pos pins s1 σ _ _ I1 ht) fun us s2 ⟨vs, H2, I2, r, q⟩ => ?_) he hpl
    obtain ⟨qf, qc, q⟩ := q
    refine ⟨fn I2 qf, wpAny_call (codeAny_mono (G.run X.A X.stack s2 H2 us vs Q (fun cls d H => W cls d σ H) f c' pm ctv hr hgu I2.env0 qf qc r q) ?_)⟩
    intro r' s' q'
    match r', q' with
    | .error e, q' => exact hx σ pins H2 s2 e s' I2 q'
    | .ok (.ret u), q' => exact Inv.after I2 q'
    | .ok .next, q' => exact q'.elim
    | .ok .brk, q' => exact q'.elim
    | .ok .cont, q' => exact q'.elim
  · unfold cCallV at g
    split at g
    · rename_i l' hρ
      split at g
      · rename_i hl
        subst hl
        obtain ⟨v, hs, rv⟩ := hE.2 i _ hρ
        cases rv with
        | @fn f c' _ pm ctv hF hC =>
          refine ⟨f, c', pm, ctv, hs, s.ex _ _ hF, rd σ ρ F μ S H _ s hE (GP.seq g fun ds F1 μ1 H1 S1 e1 p1 s1 g1 vs rs => ?_)⟩
          refine ⟨s1.ex _ _ (e1 _ _ hF), s1.ex _ _ (e1 _ _ hC), ?_⟩
          split at g1
          · rename_i hn
            exact ⟨F1, μ1, S1, ds, s1, rs, by rw [← rs.length]; exact hn, g1⟩
          · exact g1.elim
      · exact g.elim
    · exact g.elim
end
end PF
set_option Elab.async false
set_option linter.all false
set_option maxRecDepth 100000
set_option maxHeartbeats 4000000
/-! PF7: a law's end. -/
namespace PF
open PySem L2 Evl PySem.Spec PyProof.Rows
/-- the script as it lies ahead of the law: read alone, if it is none of the module's own objects -/
def scriptH (K : PySem.W.Frag) (a : Addr) (o : Obj) (ns : List Int) : Hp := fun b => if b = a ∧ (K.lookup a).isNone = true then some (.frz o (.lst (ns.map V.int))) else none
section
variable {P : Program} {w : World} {K : PySem.W.Frag} {mg mb : Str → Option Value} {k : Nat} {fa a : Addr} {fd : FuncData} {x : Str} {s₁ : Shared} {vs : List Value} {ns : List Int}
theorem scriptH_some {o : Obj} {b : Addr} {u : HO} (h : scriptH K a o ns b = some u) : b = a ∧ K.lookup a = none ∧ u = .frz o (.lst (ns.map V.int)) := by
  unfold scriptH at h
  split at h
  · rename_i c
    obtain ⟨h1, h2⟩ := c
    injection h with h
    exact ⟨h1, by simpa using h2, h.symm⟩
  · cases h
theorem law_run {o : OpB} (inK : K.In s₁.heap) (glob : s₁.heap.Ns mainGlobals mg) (blt : s₁.heap.Ns builtinsNs mb) (bltv : ∀ x : Str, x ≠ "__name__" → mb x = bootBuiltins x) (nolim : s₁.heap.NoLimit) (nogen : s₁.gens = #[])
    (at_ : s₁.heap.get? a = some { cls := .type "list", data := .seq vs.toArray }) (iav : IntsAre vs ns) (len : ns.length ≤ 63) (room : Room k callerA)
    (FG : ∀ base : Heap, K.In base → base.Ns mainGlobals mg → FnG P w K mg base k fa fd [x] (spOf K mg [] false 1 o)) (bnd : ∀ (s : Shared) (u : Value), BindsTo s fd ⟨[u], []⟩ [(x, u)])
    (end_ : o [.fz (ns.map D.int)] [] = some (.ok (.bl true), [])) :
    codeAny (model P w) callerA (.call (.ref fa) ⟨[.ref a], []⟩) (fun r s' => r = .ok (.ret (.bool true)) ∧ OldK s₁.heap s'.heap ∧ s'.os = s₁.os ∧ AllBare s'.gens) s₁ := by
  let ob : Obj := { cls := .type "list", data := .seq vs.toArray }
  let H := scriptH K a ob ns
  have rel : Vals (ns.map V.int) vs := vals_ints iav
  have small : (ns.map V.int).length ≤ sizeLine := by rw [List.length_map]; exact Nat.le_trans len (by decide)
  have hH : ∀ b u, H b = some u → b = a ∧ K.lookup a = none ∧ u = .frz ob (.lst (ns.map V.int)) := fun b u e => scriptH_some e
  -- what is no list is not tracked
  have out : ∀ b (q : Obj), s₁.heap.get? b = some q → (∀ n, q.data ≠ .seq vs.toArray n) → H b = none := by
    intro b q e nd
    match z : H b with
    | none => rfl
    | some u =>
      obtain ⟨rfl, _, _⟩ := hH b u z
      rw [at_] at e
      injection e with e
      subst e
      exact absurd rfl (nd _)
  have names : ∀ (L : Addr) (m : Str → Option Value), s₁.heap.Ns L m → (hidT s₁.heap H).Ns L m := by
    rintro L m ⟨q, es, ep, e, dd, rest⟩
    exact ⟨q, es, ep, hidT_get e (out L q e fun n z => by rw [dd] at z; cases z), dd, rest⟩
  have inB : K.In (hidT s₁.heap H) := by
    intro b q e
    refine hidT_get (inK b q e) ?_
    match z : H b with
    | none => rfl
    | some u =>
      obtain ⟨rfl, nk, _⟩ := hH b u z
      rw [nk] at e; cases e
  have mod : Mod K mg (hidT s₁.heap H) := { kin := inB, glob := names _ _ glob, blt := ⟨mb, names _ _ blt, bltv⟩, nolimit := by obtain ⟨mc, n1, n2⟩ := nolim; exact ⟨mc, names _ _ n1, n2⟩ }
  have held : HOk P w H s₁.heap := by
    intro b u e
    obtain ⟨rfl, _, rfl⟩ := hH b u e
    exact ⟨at_, small, vs, _, rel, at_⟩
  have env : Env0 P w K mg (hidT s₁.heap H) callerA [] s₁ H := { frames := rfl, mod := mod, bs := fun b q e => of_hidT e, bsz := by rw [hidT_size]; exact Nat.le_refl _, funs := trivial, frf := fun b hb => (nomatch hb), hok := held, bare := .of_eq nogen }
  have script : SqL K H a (ns.map V.int) := by
    match z : K.lookup a with
    | none => exact .inl (.inr ⟨ob, if_pos ⟨rfl, by rw [z]; rfl⟩⟩)
    | some q =>
      have e := inK a q z
      rw [at_] at e
      injection e with e
      subst e
      exact .inr ⟨_, vs.toArray, _, z, rfl, rfl, rfl, by rw [List.size_toArray, ← rel.length]; exact small, by simpa using rel⟩
  have want : spOf K mg [] false 1 o [.ref a] H (fun v _ => v = .bl true) fun _ _ _ => False := by
    refine ⟨H, [], [], [.fz (ns.map D.int)], ⟨Ex.refl _, rfl, List.nodup_nil, fun n b ds e => by simp at e, fun p hp => (nomatch hp), fun p hp => (nomatch hp)⟩, .cons (.fz script (reps_ints ns)) .nil, rfl, ?_⟩
    rw [end_]
    intro F' μ' H' _ _ _ v r
    have r : Rep K F' μ' (.bl true) v := r
    cases r
    rfl
  refine codeAny_mono ((FG _ inB (names _ _ glob)).run callerA [] s₁ H ⟨[.ref a], []⟩ [.ref a] [.ref a] _ _ room rfl env (bnd s₁ (.ref a)) (.cons rfl .nil) want) ?_
  intro r s' h
  match r, h with
  | .error e, h =>
    obtain ⟨_, _, _, _, _, _, _, _, _, _, _, _, z⟩ := h
    exact z.elim
  | .ok .next, h => exact h.elim
  | .ok .brk, h => exact h.elim
  | .ok .cont, h => exact h.elim
  | .ok (.ret u), ⟨v, H', os, bare, un, hok', rv, hv⟩ =>
    have hv : v = .bl true := hv
    subst hv
    have hu : u = Value.bool true := rv
    subst hu
    refine ⟨rfl, OldK.of_keep fun b q e => ?_, os, bare⟩
    match z : H b with
    | none => exact un.keep b q e z (fun z => nomatch z) (fun z => nomatch z)
    | some u =>
      obtain ⟨rfl, _, rfl⟩ := hH b u z
      have k1 := hok' b _ (un.frzs b _ _ z)
      rw [at_] at e
      injection e with e
      subst e
      exact k1.1
/-- .. with tables of code objects: cs, the code objects and their tables -/
theorem law_runT {o : OpB} {cs : List (Addr × Addr)} {T : List (Addr × Str)} (inK : K.In s₁.heap) (glob : s₁.heap.Ns mainGlobals mg) (blt : s₁.heap.Ns builtinsNs mb) (bltv : ∀ x : Str, x ≠ "__name__" → mb x = bootBuiltins x) (nolim : s₁.heap.NoLimit) (nogen : s₁.gens = #[])
    (at_ : s₁.heap.get? a = some { cls := .type "list", data := .seq vs.toArray }) (iav : IntsAre vs ns) (len : ns.length ≤ 63) (room : Room k callerA)
    (FG : ∀ base : Heap, K.In base → base.Ns mainGlobals mg → (∀ p ∈ cs, LamX.TabB base mg p.1 p.2) → FnG P w K mg base k fa fd [x] (spOf K mg T false 1 o)) (bnd : ∀ (s : Shared) (u : Value), BindsTo s fd ⟨[u], []⟩ [(x, u)])
    (tabs : ∀ p ∈ cs, s₁.heap.get? p.2 = some { cls := .none, data := .fields #[] }) (tabK : ∀ p ∈ cs, K.lookup p.2 = none) (cod : ∀ p ∈ cs, PySem.W.CodeHd s₁.heap p.1 p.2) (Tcs : ∀ t ∈ T, ∃ p ∈ cs, t.1 = p.2)
    (bmn : ∃ (bm : Addr) (ob : Obj), mg "__builtins__" = some (.ref bm) ∧ bm ≠ builtinsNs ∧ s₁.heap.get? bm = some ob ∧ ob.cls = .type "module" ∧ ob.dict = some builtinsNs ∧ ob.data = .plain)
    (end_ : o [.fz (ns.map D.int)] [] = some (.ok (.bl true), [])) :
    codeAny (model P w) callerA (.call (.ref fa) ⟨[.ref a], []⟩) (fun r s' => r = .ok (.ret (.bool true)) ∧ OldK s₁.heap s'.heap ∧ s'.os = s₁.os ∧ AllBare s'.gens) s₁ := by
  let ob : Obj := { cls := .type "list", data := .seq vs.toArray }
  let S0 := scriptH K a ob ns
  let H : Hp := fun b => if b ∈ cs.map (·.2) then some (.tbl #[]) else S0 b
  have isTab : ∀ b, b ∈ cs.map (·.2) → s₁.heap.get? b = some { cls := .none, data := .fields #[] } ∧ K.lookup b = none := fun b hb => by
    obtain ⟨p, hp, rfl⟩ := List.mem_map.mp hb
    exact ⟨tabs p hp, tabK p hp⟩
  have aNo : a ∉ cs.map (·.2) := fun z => by
    have h1 := (isTab a z).1
    rw [at_] at h1
    have h2 : Data.seq vs.toArray _ = Data.fields #[] := congrArg Obj.data (Option.some.inj h1)
    cases h2
  have HT : ∀ p ∈ cs, H p.2 = some (.tbl #[]) := fun p hp => if_pos (List.mem_map.mpr ⟨p, hp, rfl⟩)
  have rel : Vals (ns.map V.int) vs := vals_ints iav
  have small : (ns.map V.int).length ≤ sizeLine := by rw [List.length_map]; exact Nat.le_trans len (by decide)
  have hH : ∀ b u, H b = some u → (b ∈ cs.map (·.2) ∧ u = .tbl #[]) ∨ (b = a ∧ K.lookup a = none ∧ u = .frz ob (.lst (ns.map V.int))) := fun b u e => by
    by_cases hb : b ∈ cs.map (·.2)
    · exact .inl ⟨hb, (Option.some.inj ((if_pos hb).symm.trans e)).symm⟩
    · exact .inr (scriptH_some ((if_neg hb).symm.trans e))
  -- what is no list is not tracked
  have out : ∀ b (q : Obj), s₁.heap.get? b = some q → (∀ n, q.data ≠ .seq vs.toArray n) → q.data ≠ .fields #[] → H b = none := by
    intro b q e nd nf
    match z : H b with
    | none => rfl
    | some u =>
      rcases hH b u z with ⟨hb, _⟩ | ⟨rfl, _, _⟩
      · rw [(isTab b hb).1] at e
        injection e with e
        subst e
        exact absurd rfl nf
      · rw [at_] at e
        injection e with e
        subst e
        exact absurd rfl (nd _)
  have names : ∀ (L : Addr) (m : Str → Option Value), s₁.heap.Ns L m → (hidT s₁.heap H).Ns L m := by
    rintro L m ⟨q, es, ep, e, dd, rest⟩
    exact ⟨q, es, ep, hidT_get e (out L q e (fun n z => by rw [dd] at z; cases z) (fun z => by rw [dd] at z; cases z)), dd, rest⟩
  have inB : K.In (hidT s₁.heap H) := by
    intro b q e
    refine hidT_get (inK b q e) ?_
    match z : H b with
    | none => rfl
    | some u =>
      rcases hH b u z with ⟨hb, _⟩ | ⟨rfl, nk, _⟩
      · rw [(isTab b hb).2] at e; cases e
      · rw [nk] at e; cases e
  have mod : Mod K mg (hidT s₁.heap H) := { kin := inB, glob := names _ _ glob, blt := ⟨mb, names _ _ blt, bltv⟩, nolimit := by obtain ⟨mc, n1, n2⟩ := nolim; exact ⟨mc, names _ _ n1, n2⟩ }
  have tb : ∀ p ∈ cs, LamX.TabB (hidT s₁.heap H) mg p.1 p.2 := fun p hp => by
    refine ⟨?_, ?_, fun z => ?_⟩
    · obtain ⟨oo, us, file, tf, flags, tg, inF, text, tt, e1, r1, r2, r3, rest⟩ := cod p hp
      refine ⟨oo, us, file, tf, flags, tg, inF, text, tt, hidT_get e1 (out _ _ e1 (fun n z => ?_) fun z => ?_), r1, r2, r3, rest⟩
      · rw [r2] at z; cases z
      · rw [r2] at z; cases z; simp at r3
    · obtain ⟨bm, om, m1, m2, m3, m4, m5, m6⟩ := bmn
      have n1 : bm ≠ mainGlobals := fun q => by
        obtain ⟨q2, es, ep, eq, dq, _⟩ := glob
        rw [q, eq] at m3
        cases m3
        rw [dq] at m6
        cases m6
      have n2 : bm ≠ p.2 := fun q => by
        rw [q, tabs p hp] at m3
        cases m3
        cases m6
      exact ⟨bm, om, m1, m2, n1, n2, hidT_get m3 (out _ _ m3 (fun n z => by rw [m6] at z; cases z) (fun z => by rw [m6] at z; cases z)), m4, m5, m6⟩
    · obtain ⟨q2, es, ep, eq, dq, _⟩ := glob
      rw [z, tabs p hp] at eq
      cases eq
      cases dq
  have held : HOk P w H s₁.heap := by
    intro b u e
    rcases hH b u e with ⟨hb, rfl⟩ | ⟨rfl, _, rfl⟩
    · exact (isTab b hb).1
    · exact ⟨at_, small, vs, _, rel, at_⟩
  have env : Env0 P w K mg (hidT s₁.heap H) callerA [] s₁ H := { frames := rfl, mod := mod, bs := fun b q e => of_hidT e, bsz := by rw [hidT_size]; exact Nat.le_refl _, funs := trivial, frf := fun b hb => (nomatch hb), hok := held, bare := .of_eq nogen }
  have scriptF : SqL K S0 a (ns.map V.int) := by
    match z : K.lookup a with
    | none => exact .inl (.inr ⟨ob, if_pos ⟨rfl, by rw [z]; rfl⟩⟩)
    | some q =>
      have e := inK a q z
      rw [at_] at e
      injection e with e
      subst e
      exact .inr ⟨_, vs.toArray, _, z, rfl, rfl, rfl, by rw [List.size_toArray, ← rel.length]; exact small, by simpa using rel⟩
  have want : spOf K mg T false 1 o [.ref a] H (fun v _ => v = .bl true) fun _ _ _ => False := by
    have s0H : Ex S0 H := fun b u e => by
      have eb := (scriptH_some e).1
      exact (if_neg (by rw [eb]; exact aNo)).trans e
    refine ⟨S0, [], [], [.fz (ns.map D.int)], ⟨s0H, rfl, List.nodup_nil, fun n b ds e => by simp at e, fun p hp => ?_, fun p hp => ?_⟩, .cons (.fz scriptF (reps_ints ns)) .nil, rfl, ?_⟩
    · obtain ⟨c, hc, e⟩ := Tcs p hp
      exact LamX.TabS.nil (by rw [e]; exact HT c hc)
    · obtain ⟨c, hc, e⟩ := Tcs p hp
      match z : S0 p.1 with
      | none => rfl
      | some u =>
        have ea := (scriptH_some z).1
        exact absurd (List.mem_map.mpr ⟨c, hc, by rw [← e, ea]⟩) aNo
    rw [end_]
    intro F' μ' H' _ _ _ v r
    have r : Rep K F' μ' (.bl true) v := r
    cases r
    rfl
  refine codeAny_mono ((FG _ inB (names _ _ glob) tb).run callerA [] s₁ H ⟨[.ref a], []⟩ [.ref a] [.ref a] _ _ room rfl env (bnd s₁ (.ref a)) (.cons rfl .nil) want) ?_
  intro r s' h
  match r, h with
  | .error e, h =>
    obtain ⟨_, _, _, _, _, _, _, _, _, _, _, _, z⟩ := h
    exact z.elim
  | .ok .next, h => exact h.elim
  | .ok .brk, h => exact h.elim
  | .ok .cont, h => exact h.elim
  | .ok (.ret u), ⟨v, H', os, bare, un, hok', rv, hv⟩ =>
    have hv : v = .bl true := hv
    subst hv
    have hu : u = Value.bool true := rv
    subst hu
    have keepO : ∀ b q, b ∉ cs.map (·.2) → s₁.heap.get? b = some q → s'.heap.get? b = some q := fun b q nb e => by
      match z : H b with
      | none => exact un.keep b q e z (fun z => nomatch z) (fun z => nomatch z)
      | some u =>
        rcases hH b u z with ⟨hb, _⟩ | ⟨rfl, _, rfl⟩
        · exact absurd hb nb
        · have k1 := hok' b _ (un.frzs b _ _ z)
          rw [at_] at e
          injection e with e
          subst e
          exact k1.1
    have grow : ∀ p ∈ cs, ∃ more : Array Value, s'.heap.get? p.2 = some { cls := .none, data := .fields more } := fun p hp => by
      obtain ⟨more, z⟩ := un.tbls p.2 #[] (HT p hp)
      exact ⟨_, hok' p.2 _ z⟩
    refine ⟨rfl, ⟨fun b q e => ?_, fun b q e => ?_⟩, os, bare⟩
    · by_cases hb : b ∈ cs.map (·.2)
      · obtain ⟨p, hp, rfl⟩ := List.mem_map.mp hb
        obtain ⟨more, hm⟩ := grow p hp
        rw [tabs p hp] at e
        cases e
        exact .inr (.inl ⟨((cod p hp).tab (tabs p hp)).isCodeTable, rfl, #[], more, rfl, by rw [Array.empty_append]; exact hm⟩)
      · exact .inl (keepO b q hb e)
    · by_cases hb : b ∈ cs.map (·.2)
      · obtain ⟨p, hp, rfl⟩ := List.mem_map.mp hb
        obtain ⟨more, hm⟩ := grow p hp
        exact ⟨_, hm⟩
      · exact ⟨q, keepO b q hb e⟩
end
/-- the law's end over a head by facts -/
theorem walk_pf {l : PySem.W.OpenLaw} {k : Nat} {q : Program} {loose : List Str} {XP : (Str → Option Value) → Heap → Prop} {YP : World → Heap → Prop} {d : DefRec} {x : Str} {o : OpB}
    (hn : l.most = some 63) (hdf : d.params.defaults = []) (hr : Room k callerA) (end_ : ∀ ns : List Int, ns.length ≤ 63 → o [.fz (ns.map D.int)] [] = some (.ok (.bl true), []))
    (F : ∀ (w : World) (mg : Str → Option Value) (fa : Addr) (h : Heap), YP w h → h.Ns mainGlobals mg → mg d.name = some (.ref fa) →
      ∃ (K : PySem.W.Frag) (fd : FuncData), K.In h ∧ (∀ (s : Shared) (u : Value), BindsTo s fd ⟨[u], []⟩ [(x, u)]) ∧ ∀ base : Heap, K.In base → base.Ns mainGlobals mg → FnG l.prog w K mg base k fa fd [x] (spOf K mg [] false 1 o)) :
    PySem.W.WalkO q loose XP YP l.row.toRowW d [] (fun f vs => PySem.call f vs) := by
  refine Att.attach_call hn hdf ?_
  intro w s₀ s₁ mg mb fa ob pm cd doc a vs ns G Y ho hd hcd hmg hobj hints hlen hg
  obtain ⟨K, fd, KX, hb, hF⟩ := F w mg fa _ Y G.T.g hmg
  exact law_run KX G.T.g G.T.b G.T.builtins G.T.nolimit hg hobj hints hlen hr hF hb (end_ ns hlen)
/-- .. with tables of code objects -/
theorem walk_pfT {l : PySem.W.OpenLaw} {k : Nat} {q : Program} {loose : List Str} {XP : (Str → Option Value) → Heap → Prop} {YP : World → Heap → Prop} {d : DefRec} {x : Str} {o : OpB}
    (hn : l.most = some 63) (hdf : d.params.defaults = []) (hr : Room k callerA) (end_ : ∀ ns : List Int, ns.length ≤ 63 → o [.fz (ns.map D.int)] [] = some (.ok (.bl true), []))
    (F : ∀ (w : World) (mg : Str → Option Value) (fa : Addr) (h : Heap), YP w h → h.Ns mainGlobals mg → mg d.name = some (.ref fa) →
      ∃ (K : PySem.W.Frag) (fd : FuncData) (cs : List (Addr × Addr)) (T : List (Addr × Str)), K.In h ∧ (∀ p ∈ cs, h.get? p.2 = some { cls := .none, data := .fields #[] }) ∧ (∀ p ∈ cs, K.lookup p.2 = none) ∧ (∀ p ∈ cs, PySem.W.CodeHd h p.1 p.2) ∧ (∀ t ∈ T, ∃ p ∈ cs, t.1 = p.2) ∧
        (∀ (s : Shared) (u : Value), BindsTo s fd ⟨[u], []⟩ [(x, u)]) ∧ ∀ base : Heap, K.In base → base.Ns mainGlobals mg → (∀ p ∈ cs, LamX.TabB base mg p.1 p.2) → FnG l.prog w K mg base k fa fd [x] (spOf K mg T false 1 o)) :
    PySem.W.WalkO q loose XP YP l.row.toRowW d [] (fun f vs => PySem.call f vs) := by
  refine Att.attach_call hn hdf ?_
  intro w s₀ s₁ mg mb fa ob pm cd doc a vs ns G Y ho hd hcd hmg hobj hints hlen hg
  obtain ⟨K, fd, cs, T, KX, t1, t2, t3, t4, hb, hF⟩ := F w mg fa _ Y G.T.g hmg
  exact law_runT KX G.T.g G.T.b G.T.builtins G.T.nolimit hg hobj hints hlen hr hF hb t1 t2 t3 t4 G.T.bmain (end_ ns hlen)
end PF
set_option Elab.async false
set_option linter.all false
set_option maxRecDepth 100000
set_option maxHeartbeats 4000000
/-! PF8: what the printed derivations call. -/
namespace PF
open PySem L2 Evl PySem.Spec PyProof.Rows
section
variable {X : Cx} {T : List (Addr × Str)} {W : WX}
theorem OpOk.freeze {r : R2} {o : Op2} (h : OpOk X T true r o) : OpOk X T false r o := fun F μ S H x y v u Q er s rx ry g => h F μ S H x y v u Q er s rx ry (gp_freeze g)
/-- + of ints, texts, tuples, lists -/
def oAddA : Op2 := fun x y S => match oAdd x y S with
  | some r => some r
  | none => oCat x y S
def rAddA (K : PySem.W.Frag) : R2 := fun x y H Q => rAdd3 K x y H Q ∨ rCat x y H Q
theorem op_add4 : OpR X (binaryOp .Add) (rAddA X.K) := op_add3.or op_cat
theorem oAddA_ok : OpOk X T false (rAddA X.K) oAddA := OpOk.or oAdd_ok oCat_ok.freeze fun x y S => by
  unfold oAddA
  cases h : oAdd x y S with
  | some r => exact .inl rfl
  | none => exact .inr rfl
theorem oAdd_nerr : ∀ x y S z S', oAdd x y S ≠ some (.error z, S') := by
  intro x y S z S' h
  unfold oAdd at h
  split at h
  · cases h
  · split at h <;> cases h
  · split at h <;> cases h
  · cases h
theorem oCat_nerr : ∀ x y S z S', oCat x y S ≠ some (.error z, S') := by
  intro x y S z S' h
  unfold oCat at h
  split at h
  · split at h
    · split at h <;> cases h
    · cases h
  · cases h
theorem oAddA_ne : ∀ x y S z S', oAddA x y S ≠ some (.error z, S') := by
  intro x y S z S' h
  unfold oAddA at h
  split at h
  · rename_i r hr
    rw [h] at hr
    exact oAdd_nerr _ _ _ _ _ hr
  · exact oCat_nerr _ _ _ _ _ h
theorem oI_ne {C : Int → Int → Bool} {g : Int → Int → D} : ∀ x y S z S', oI C g x y S ≠ some (.error z, S') := by
  intro x y S z S' h
  unfold oI at h
  split at h
  · split at h <;> cases h
  · cases h
theorem oSub_ne : ∀ x y S z S', oSub x y S ≠ some (.error z, S') := oI_ne
theorem oMul_ne : ∀ x y S z S', oMul x y S ≠ some (.error z, S') := oI_ne
def rIadd3 (K : PySem.W.Frag) : R2 := fun x y H Q => (∃ i j, x = .int i ∧ y = .int j ∧ Q (.int (i + j)) H) ∨ (∃ i j, x = .str i ∧ y = .str j ∧ i.length + j.length ≤ sizeLine ∧ Q (.str (i ++ j)) H)
/-- < of ints, texts, tuples of ints -/
def oLtA : Op2 := fun x y S => match x, y with
  | .int i, .int j => some (.ok (.bl (decide (i < j))), S)
  | .str i, .str j => some (.ok (.bl (decide (i.cps.toList < j.cps.toList))), S)
  | .tup a, .tup b => (match intsOf a, intsOf b with
    | some ns, some ms => some (.ok (.bl (HT.lexLt ns ms)), S)
    | _, _ => none)
  | _, _ => none
def rLtA (K : PySem.W.Frag) : R2 := fun x y H Q => (∃ i j, x = .int i ∧ y = .int j ∧ Q (.bl (decide (i < j))) H) ∨ (∃ i j, x = .str i ∧ y = .str j ∧ Q (.bl (decide (i.cps.toList < j.cps.toList))) H) ∨ rLtT K x y H Q
theorem op_ltA (hu : X.A.units < cLine) : OpR X (compareOp .Lt) (rLtA X.K) := op_lt.or (op_lt_str.or (op_ltT hu))
theorem oLtA_ok : OpOk X T false (rLtA X.K) oLtA := by
  intro F μ S H x y v u Q er s rx ry h
  unfold oLtA at h
  cases rx with
  | int i =>
    cases ry with
    | int j => exact .inl ⟨i, j, rfl, rfl, gp_val h s (.bl _)⟩
    | _ => exact h.elim
  | str i =>
    cases ry with
    | str j => exact .inr (.inl ⟨i, j, rfl, rfl, gp_val h s (.bl _)⟩)
    | _ => exact h.elim
  | @tup a xs ds hq rs =>
    cases ry with
    | @tup b ys es hq2 rs2 =>
      dsimp only at h
      split at h
      · rename_i ns ms h1 h2
        have e1 := ints_rep rs h1
        have e2 := ints_rep rs2 h2
        subst e1; subst e2
        exact .inr (.inr ⟨a, b, ns, ms, rfl, rfl, s.sqT hq, s.sqT hq2, gp_val h s (.bl _)⟩)
      · exact h.elim
    | _ => exact h.elim
  | _ => exact h.elim
/-- in: a thing in a list or tuple, a text in a text -/
def oInA (neg : Bool) : Op2 := fun x y S => match y with
  | .str _ => oInS neg x y S
  | _ => oIn neg x y S
theorem oInS_ok : OpOk X T false (fun x y H Q => ∃ i j, x = .str i ∧ y = .str j ∧ Q (.bl (!(Builtin.Str.occurrences j i 0 j.length 1).isEmpty)) H) (oInS false) := by
  intro F μ S H x y v u Q er s rx ry h
  unfold oInS at h
  cases rx with
  | str i =>
    cases ry with
    | str j => exact ⟨i, j, rfl, rfl, gp_val h s (.bl _)⟩
    | _ => exact h.elim
  | _ => exact h.elim
theorem oNinS_ok : OpOk X T false (fun x y H Q => ∃ i j, x = .str i ∧ y = .str j ∧ Q (.bl (!(!(Builtin.Str.occurrences j i 0 j.length 1).isEmpty))) H) (oInS true) := by
  intro F μ S H x y v u Q er s rx ry h
  unfold oInS at h
  cases rx with
  | str i =>
    cases ry with
    | str j => exact ⟨i, j, rfl, rfl, gp_val h s (.bl _)⟩
    | _ => exact h.elim
  | _ => exact h.elim
theorem op_inA : OpR X (compareOp .In) (fun x y H Q => rIn X.K false x y H Q ∨ ∃ i j, x = .str i ∧ y = .str j ∧ Q (.bl (!(Builtin.Str.occurrences j i 0 j.length 1).isEmpty)) H) := op_in_seq.or op_in_str
theorem op_ninA : OpR X (compareOp .NotIn) (fun x y H Q => rIn X.K true x y H Q ∨ ∃ i j, x = .str i ∧ y = .str j ∧ Q (.bl (!(!(Builtin.Str.occurrences j i 0 j.length 1).isEmpty))) H) := op_notIn_seq.or op_notin_str
theorem oInA_ok : OpOk X T false (fun x y H Q => rIn X.K false x y H Q ∨ ∃ i j, x = .str i ∧ y = .str j ∧ Q (.bl (!(Builtin.Str.occurrences j i 0 j.length 1).isEmpty)) H) (oInA false) := OpOk.or oIn_ok oInS_ok fun x y S => by
  cases y <;> first | exact .inr rfl | exact .inl rfl
theorem oNinA_ok : OpOk X T false (fun x y H Q => rIn X.K true x y H Q ∨ ∃ i j, x = .str i ∧ y = .str j ∧ Q (.bl (!(!(Builtin.Str.occurrences j i 0 j.length 1).isEmpty))) H) (oInA true) := OpOk.or oIn_ok oNinS_ok fun x y S => by
  cases y <;> first | exact .inr rfl | exact .inl rfl
/-- a[lo:hi], whatever a is: a list goes as a value -/
def cSliceA (a : EX) (lo hi : OX) : EX := fun ρ S => bindO (a ρ S) fun x S => bindO (lo ρ S) fun l S => bindO (hi ρ S) fun h S => match x with
  | .tup xs => some (.ok (.tup (cutL xs l h)), S)
  | .str z => if z.length ≤ lim then some (.ok (.str (cutS z l h)), S) else none
  | d => (match asL d S with
    | some xs => some (.ok (.lst (cutL xs l h)), S)
    | none => none)
theorem re_sliceA {e : Expr} {lo hi : Option Expr} {a : EX} {cl ch : OX} {pos p2 : Pos} (ha : RE T false X W e a) (hl : RO T X W lo cl) (hh : RO T X W hi ch) : RE T false X W (.Subscript e (.Slice lo hi none p2) pos) (cSliceA a cl ch) := by
  obtain ⟨ta, pa, fa⟩ := ha
  obtain ⟨tl, pl, fl⟩ := hl
  obtain ⟨th, ph, fh⟩ := hh
  refine ⟨_, pe_slice (sl_tupA.or (sl_str.or sl_list)) pa pl ph, fun σ ρ F μ S H Q s hE g => ?_⟩
  refine fa σ ρ F μ S H _ s hE (GP.seq g fun x F1 μ1 H1 S1 e1 p1 s1 g1 v rx => ?_)
  refine fl σ ρ F1 μ1 S1 H1 _ s1 (hE.mono e1 p1) (GP.seq g1 fun l F2 μ2 H2 S2 e2 p2 s2 g2 => ?_)
  refine fh σ ρ F2 μ2 S2 H2 _ s2 ((hE.mono e1 p1).mono e2 p2) (GP.seq g2 fun h F3 μ3 H3 S3 e3 p3 s3 g3 => ?_)
  have rx := Rep.mono e3 p3 (Rep.mono e2 p2 rx)
  have aslist : ∀ ds, asL x S3 = some ds → GP X.K T F3 μ3 (some (.ok (.lst (cutL ds l h)), S3)) (OkV X.K false Q) (ErW X.K X.mg fun cls dd H' => W cls dd σ H') → rSlL X.K v l h H3 Q := by
    intro ds hq g
    obtain ⟨a, vs, rfl, h1, h2⟩ := asL_ok s3 rx hq
    exact ⟨a, vs, rfl, h1, gp_lst (gp_freeze g) s3 (h2.cut _ _)⟩
  cases rx with
  | @tup a xs ds hq rs =>
    refine .inl ⟨a, xs, rfl, s3.sqT hq, fun hw => ?_, fun _ => gp_tup g3 s3 (rs.cut _ _)⟩
    dsimp only at g3
    rw [sIx_all hw rs.length] at g3
    exact gp_val g3 s3 (.tup hq rs)
  | str z =>
    dsimp only at g3
    split at g3
    · rename_i hz
      exact .inr (.inl ⟨z, rfl, lim_ok hz, gp_val g3 s3 (.str _)⟩)
    · exact g3.elim
  | lst hq rs =>
    dsimp only at g3
    split at g3
    · rename_i ds hd
      exact .inr (.inr (aslist ds hd g3))
    · exact g3.elim
  | fz hq rs =>
    dsimp only at g3
    split at g3
    · rename_i ds hd
      exact .inr (.inr (aslist ds hd g3))
    · exact g3.elim
  | loc hq =>
    dsimp only at g3
    split at g3
    · rename_i ds hd
      exact .inr (.inr (aslist ds hd g3))
    · exact g3.elim
  | _ => simp only [asL] at g3; exact g3.elim
/-- what is walked: a list, a tuple, a text -/
def srcOfA : D → Option Src
  | .str z => some (.items (z.cps.toList.map fun c => .str ⟨#[c]⟩))
  | d => srcOf d
def cSeqA (c : EX) : IX := fun ρ S => bindO (c ρ S) fun d S => match srcOfA d with
  | some src => some (.ok src, S)
  | none => none
theorem walks_s {K : PySem.W.Frag} {F : Hp} {μ : List MA} {z : Str} : Walks K T F μ (.items (z.cps.toList.map fun c => .str ⟨#[c]⟩)) (Its z) := by
  intro F' μ' S H ds i e p s q
  cases q
  refine ⟨fun d hd => ?_, fun hl => ?_⟩
  · rw [List.getElem?_map, Option.map_eq_some_iff] at hd
    obtain ⟨c, hc, rfl⟩ := hd
    have hc' : z.cps[i]? = some c := by simpa using hc
    have hi : i < z.cps.size := by
      rcases Nat.lt_or_ge i z.cps.size with q | q
      · exact q
      · rw [Array.getElem?_eq_none q] at hc'; cases hc'
    refine ⟨hi, fun x H' y => ?_⟩
    obtain ⟨rfl, c', h1, rfl⟩ := y
    rw [hc'] at h1; cases h1
    exact ⟨F', Ex.refl _, s, .str _⟩
  · show z.cps.size ≤ i
    simpa using hl
theorem ri_seqA {tg e : Expr} {c : EX} (h : RE T false X W e c) : RI T X W tg e (cSeqA c) := by
  obtain ⟨t, pe, f⟩ := h
  refine ⟨fun σ H R => t σ H fun x H1 => (∃ a, x = .ref a ∧ (((∃ vs, SqL X.K H1 a vs) ∧ R (Itl X.K a) H1) ∨ ((∃ vs, SqT X.K H1 a vs) ∧ R (Itt X.K a) H1))) ∨ ∃ z, x = .str z ∧ R (Its z) H1, ⟨fun pins s σ H R I h => ?_⟩, fun σ ρ F μ S H R s hE g => ?_⟩
  · refine thn (pe.run pins s σ H _ I h) ?_
    rintro v s1 ⟨x, H1, I1, r1, q1⟩
    have newest : ∀ (ob : Obj), Inv X pins σ H1 { s1 with heap := s1.heap.push ob } := fun ob => Inv.kept (t' := s1.toks) I1 fun b o q => Heap.get?_push_of_some _ q
    have foot : ∀ b ∈ [s1.heap.objs.size], FpOk X pins H1 b := fun b hb => by
      rw [List.mem_singleton] at hb
      subst hb
      exact Inv.fpOk I1 (Nat.le_refl _) (HOk.fresh I1.hok (Nat.le_refl _))
    rcases q1 with ⟨a, rfl, q1⟩ | ⟨z, rfl, q⟩
    · cases r1
      rcases q1 with ⟨⟨vs, hq⟩, q⟩ | ⟨⟨vs, hq⟩, q⟩
      · obtain ⟨its, _, pl, _⟩ := Inv.list I1 hq
        exact wpAny_pyIter_list pl.isList ⟨_, _, _, _, H1, rfl, newest _, turn_list a _, ⟨_, Heap.get?_push_size _ rfl, rfl, rfl⟩, foot, q⟩
      · obtain ⟨its, _, pt, _⟩ := Inv.tuple I1 hq
        exact wpAny_pyIter_tuple (items := its.toArray) pt ⟨_, _, _, _, H1, rfl, newest _, turn_tuple a _, ⟨_, Heap.get?_push_size _ rfl, rfl, rfl⟩, foot, q⟩
    · obtain ⟨tk, rfl⟩ := r1
      by_cases ha : z.cps.all (· < 128) = true
      · exact wpAny_pyIter_ascii ha ⟨_, _, _, _, H1, rfl, newest _, turn_str _ z tk "str_ascii_iterator" (.inl rfl), ⟨_, Heap.get?_push_size _ rfl, rfl, rfl⟩, foot, q⟩
      · exact wpAny_pyIter_wide (by simpa using ha) ⟨_, _, _, _, H1, rfl, newest _, turn_str _ z tk "str_iterator" (.inr rfl), ⟨_, Heap.get?_push_size _ rfl, rfl, rfl⟩, foot, q⟩
  · refine f σ ρ F μ S H _ s hE (GP.seq g fun d F1 μ1 H1 S1 e1 p1 s1 g1 v rv => ?_)
    split at g1
    · rename_i src hs
      have fin := GP.here g1 s1
      have other : srcOf d = some src → (∃ a, v = .ref a ∧ (((∃ vs, SqL X.K H1 a vs) ∧ R (Itl X.K a) H1) ∨ ((∃ vs, SqT X.K H1 a vs) ∧ R (Itt X.K a) H1))) := by
        intro hs
        obtain ⟨a, rfl, hh⟩ := stand s1 rv hs
        refine ⟨a, rfl, ?_⟩
        rcases hh with ⟨h1, h2⟩ | ⟨h1, h2⟩
        · exact .inl ⟨h1, fin _ (walks_l h2)⟩
        · exact .inr ⟨h1, fin _ (walks_t h2)⟩
      cases d with
      | str z =>
        cases rv
        simp only [srcOfA] at hs
        cases hs
        exact .inr ⟨z, rfl, fin _ walks_s⟩
      | _ => exact .inl (other hs)
    · exact g1.elim
abbrev cEnum : AX → IX := cEnumL
theorem ri_enum {e : Expr} {ca : AX} {p pos : Pos} {elts : List Expr} {kk : Nat} {tpos : Pos} (ha : RA T X W [e] ca) (hm : X.mg "enumerate" = none) (hg : Gl X "enumerate" := by rfl) (hs : starEach [e] X.env = [(false, eval e X.env)] := by rfl) : RI T X W (.Tuple elts kk tpos) (.Call (.Name "enumerate" p) [e] [] pos) (cEnum ca) := ri_enumL ha hm hg hs
/-! ### what is let out -/
theorem pass_blk {s : Shared} {H : Hp} {scope : Scope} {env : PySem.Env} {fp : List Addr} : ∀ σ, PassesAt (L2.CX X.prog X.w) (X.blk s H scope env fp) σ fun cls d H => WF cls d σ H := fun σ pins H s e s' I h => by
  obtain ⟨_, _, _, _, _, _, _, _, _, _, _, _, z⟩ := h
  exact z.elim
end
section
variable {P : Program} {w : World} {K : PySem.W.Frag} {mg : Str → Option Value} {base : Heap} {N : List Str} {qual : Str} {scope : Scope} {f : Addr} {cd : Value} {A : Around} {outer : List PySem.Env} {s : Shared} {H : Hp} {E : XK}
theorem pass_cx : ∀ σ, PassesAt (L2.CX P w) (cxOf (L2.CX P w) P w K mg base N qual scope f cd A outer s H E) σ fun cls d H' => E cls d H' := fun σ =>
  passAt (X := cxOf (L2.CX P w) P w K mg base N qual scope f cd A outer s H E) (W := fun cls d _ H' => E cls d H') (takes_of rfl rfl rfl rfl) σ
theorem own_cx : PassesOwn (model P w) (cxOf (L2.CX P w) P w K mg base N qual scope f cd A outer s H E).A (cxOf (L2.CX P w) P w K mg base N qual scope f cd A outer s H E).env (cxOf (L2.CX P w) P w K mg base N qual scope f cd A outer s H E).xe := passes_of rfl
theorem globInt {x : Str} {i : Int} (h : ∃ t, mg x = some (.int i t)) : GlobK K mg x (.int i) := by
  obtain ⟨t, h⟩ := h
  exact ⟨_, .int i, h, ⟨t, rfl⟩, fun F μ => .int i⟩
theorem globStr {x z : Str} (h : ∃ t, mg x = some (.str z t)) : GlobK K mg x (.str z) := by
  obtain ⟨t, h⟩ := h
  exact ⟨_, .str z, h, ⟨t, rfl⟩, fun F μ => .str z⟩
end
/-! ### == with texts of any kind -/
section
variable {X : Cx} {T : List (Addr × Str)}
def oEqS : Op2 := fun x y S => match x, y with
  | .str a, .str b => some (.ok (.bl (a == b)), S)
  | _, _ => none
def oNeS : Op2 := fun x y S => match x, y with
  | .str a, .str b => some (.ok (.bl (!(a == b))), S)
  | _, _ => none
theorem oEqS_ok : OpOk X T false rEq oEqS := by
  intro F μ S H x y v u Q er s rx ry h
  unfold oEqS at h
  split at h
  · cases rx; cases ry
    exact ⟨rfl, by rw [dec_str]; exact gp_val h s (.bl _)⟩
  · exact h.elim
theorem oNeS_ok : OpOk X T false rNe oNeS := by
  intro F μ S H x y v u Q er s rx ry h
  unfold oNeS at h
  split at h
  · cases rx; cases ry
    exact ⟨rfl, by rw [dec_str]; exact gp_val h s (.bl _)⟩
  · exact h.elim
def oEqA : Op2 := fun x y S => match oEqS x y S with
  | some r => some r
  | none => oEq x y S
def oNeA : Op2 := fun x y S => match oNeS x y S with
  | some r => some r
  | none => oNe x y S
theorem op_eqA (hu : X.A.units + 64 < cLine) : OpR X (compareOp .Eq) (fun x y H Q => rEq x y H Q ∨ rEqD X.K x y H Q) := op_eq.or (op_eqD hu)
theorem op_neA (hu : X.A.units + 64 < cLine) : OpR X (compareOp .NotEq) (fun x y H Q => rNe x y H Q ∨ rNeD X.K x y H Q) := op_ne.or (op_neD hu)
theorem oEqA_ok : OpOk X T false (fun x y H Q => rEq x y H Q ∨ rEqD X.K x y H Q) oEqA := OpOk.or oEqS_ok oEq_ok fun x y S => by
  unfold oEqA
  cases h : oEqS x y S with
  | none => exact .inr rfl
  | some r => exact .inl rfl
theorem oNeA_ok : OpOk X T false (fun x y H Q => rNe x y H Q ∨ rNeD X.K x y H Q) oNeA := OpOk.or oNeS_ok oNe_ok fun x y S => by
  unfold oNeA
  cases h : oNeS x y S with
  | none => exact .inr rfl
  | some r => exact .inl rfl
end
end PF
set_option Elab.async false
set_option linter.all false
set_option maxRecDepth 100000
set_option maxHeartbeats 4000000
/-! PFX: xs[::-1], range with a step. -/
namespace PF
open PySem L2 Evl PySem.Spec PyProof.Rows
section
variable {X : Cx} {T : List (Addr × Str)} {W : WX} {F H : Hp} {μ : List MA} {K : PySem.W.Frag}
/-- xs[::-1] of a list -/
def cBack (a : EX) : EX := fun ρ S => bindO (a ρ S) fun x S => match asL x S with
  | some xs => some (.ok (.lst xs.reverse), S)
  | none => none
theorem re_back {e : Expr} {a : EX} {k : Nat} {p1 p2 p3 pos : Pos} (ha : RE T false X W e a) : RE T true X W (.Subscript e (.Slice none none (some (.UnaryOp .USub (.Constant (.int 1) k p1) p2)) p3) pos) (cBack a) := by
  obtain ⟨ta, pa, fa⟩ := ha
  refine ⟨_, pe_revL pa, fun σ ρ F μ S H Q s hE g => fa σ ρ F μ S H _ s hE (GP.seq g fun x F1 μ1 H1 S1 e1 p1 s1 g1 v rx => ?_)⟩
  split at g1
  · rename_i xs hq
    obtain ⟨a, vs, rfl, h1, h2⟩ := asL_ok s1 rx hq
    exact ⟨a, vs, rfl, h1, gp_lst g1 s1 h2.reverse⟩
  · exact g1.elim
/-- lo, lo + c, .. -/
def stepped (lo c : Int) : Nat → List D
  | 0 => []
  | n + 1 => .int lo :: stepped (lo + c) c n
theorem stepped_get : ∀ (n : Nat) (lo c : Int) (i : Nat), i < n → (stepped lo c n)[i]? = some (.int (lo + i * c))
  | n + 1, lo, c, 0, _ => by simp [stepped]
  | n + 1, lo, c, i + 1, h => by
    simp only [stepped, List.getElem?_cons_succ]
    rw [stepped_get n (lo + c) c i (by omega)]
    congr 2
    rw [Int.natCast_add, Int.add_mul]
    omega
theorem stepped_len : ∀ (n : Nat) (lo c : Int), (stepped lo c n).length = n
  | 0, _, _ => rfl
  | n + 1, lo, c => by simp [stepped, stepped_len n]
theorem walks_st {lo c : Int} {n : Nat} : Walks K T F μ (.items (stepped lo c n)) (Itc lo c n) := by
  intro F' μ' S H ds i e p s q
  cases q
  refine ⟨fun d hd => ?_, fun hl => by rw [stepped_len] at hl; exact hl⟩
  have hi : i < n := by
    have := (List.getElem?_eq_some_iff.mp hd).1
    rw [stepped_len] at this; exact this
  rw [stepped_get n lo c i hi] at hd
  cases hd
  refine ⟨hi, fun x H' y => ?_⟩
  obtain ⟨rfl, rfl⟩ := y
  exact ⟨F', Ex.refl _, s, .int _⟩
/-- range(i, j, -1) -/
def cRangeD (c : AX) : IX := fun ρ S => bindO (c ρ S) fun ds S => match ds with
  | [.int i, .int j, .int d] => if d = -1 ∧ (i < 1000000000 ∧ -1000000000 < i) ∧ (j < 1000000000 ∧ -1000000000 < j) then some (.ok (.items (stepped i (-1) (i - j).toNat)), S) else none
  | _ => none
theorem ri_rangeD {tg e1 e2 e3 : Expr} {ca : AX} {p pos : Pos} (ha : RA T X W [e1, e2, e3] ca) (hm : X.mg "range" = none) (hg : Gl X "range" := by rfl) (hs : starEach [e1, e2, e3] X.env = (false, eval e1 X.env) :: starEach [e2, e3] X.env := by rfl) (hpl : (backTo pos (starEach [e2, e3] X.env)).any (·.1) = false := by rfl) :
    RI T X W tg (.Call (.Name "range" p) [e1, e2, e3] [] pos) (cRangeD ca) := by
  obtain ⟨t, pa, f⟩ := ha
  refine ⟨_, pi_range3 hg hm pa hs hpl, fun σ ρ F μ S H R s hE g => f σ ρ F μ S H _ s hE (GP.seq g fun ds F1 μ1 H1 S1 e1 p1 s1 g1 vs rs => ?_)⟩
  split at g1
  · rename_i i j d
    split at g1
    · rename_i hn
      cases rs with
      | cons rv rs' =>
      obtain ⟨u, w, rfl, ru, rw'⟩ := rs'.inv2
      cases rv; cases ru; cases rw'
      obtain ⟨rfl, h1, h2⟩ := hn
      exact ⟨i, j, -1, (i - j).toNat, rfl, RgC.neg (by omega) (by omega) (by omega) (by omega), GP.here g1 s1 _ walks_st⟩
    · exact g1.elim
  · exact g1.elim
/-! list(range(n)), list(range(m, n)) -/
theorem reps_of_get : ∀ {ds : List D} {vs : List V}, ds.length = vs.length → (∀ (i : Nat) (d : D) (v : V), ds[i]? = some d → vs[i]? = some v → Rep K F μ d v) → Reps K F μ ds vs
  | [], [], _, _ => .nil
  | [], _ :: _, h, _ => by cases h
  | _ :: _, [], h, _ => by cases h
  | d :: ds, v :: vs, h, f => .cons (f 0 d v rfl rfl) (reps_of_get (by simpa using h) fun i d v h1 h2 => f (i + 1) d v (by simpa using h1) (by simpa using h2))
theorem reps_rg {a b : Int} : Reps K F μ (ranged a (b - a).toNat) (rgV a b) := by
  refine reps_of_get (by rw [ranged_len, rgV_length]) fun i d v h1 h2 => ?_
  have hi : i < (b - a).toNat := by
    have := (List.getElem?_eq_some_iff.mp h1).1
    rw [ranged_len] at this; exact this
  rw [ranged_get _ _ _ hi] at h1
  unfold rgV at h2
  rw [List.getElem?_map, List.getElem?_range hi] at h2
  cases h1; cases h2
  exact .int _
def cListR1 (c : EX) : EX := fun ρ S => bindO (c ρ S) fun d S => match d with
  | .int n => if n ≤ 1000000 ∧ -1000000000 < n then some (.ok (.lst (ranged 0 n.toNat)), S) else none
  | _ => none
def cListR2 (a b : EX) : EX := fun ρ S => bindO (a ρ S) fun x S => bindO (b ρ S) fun y S => match x, y with
  | .int m, .int n => if (n ≤ 1000000 ∧ -1000000000 < n) ∧ (0 ≤ m ∧ m ≤ 1000000) then some (.ok (.lst (ranged m (n - m).toNat)), S) else none
  | _, _ => none
theorem re_listR1 {e : Expr} {c : EX} {p p2 pos pos2 : Pos} (ha : RE T false X W e c) (hc : X.calm = true) (hml : X.mg "list" = none) (hmr : X.mg "range" = none) (hg : Gl X "list" := by rfl) (hgr : Gl X "range" := by rfl) (na : starEach [e] X.env = (false, eval e X.env) :: starEach [] X.env := by rfl)
    (nb : starEach [.Call (.Name "range" p2) [e] [] pos2] X.env = (false, eval (.Call (.Name "range" p2) [e] [] pos2) X.env) :: starEach [] X.env := by rfl) :
    RE T true X W (.Call (.Name "list" p) [.Call (.Name "range" p2) [e] [] pos2] [] pos) (cListR1 c) := by
  obtain ⟨t, pa, f⟩ := ha
  refine ⟨_, pe_listRg hc hg hml (prg_1 hgr hmr pa na) nb, fun σ ρ F μ S H Q s hE g => f σ ρ F μ S H _ s hE (GP.seq g fun d F1 μ1 H1 S1 e1 p1 s1 g1 v rv => ?_)⟩
  split at g1
  · rename_i n
    split at g1
    · rename_i hn
      cases rv
      refine ⟨n, rfl, ⟨by omega, by omega, by omega, by omega, by omega⟩, gp_lst g1 s1 ?_⟩
      have := reps_rg (K := X.K) (F := F1) (μ := μ1) (a := 0) (b := n)
      rw [Int.sub_zero] at this
      exact this
    · exact g1.elim
  · exact g1.elim
end
end PF
set_option Elab.async false
set_option linter.all false
set_option maxRecDepth 100000
set_option maxHeartbeats 4000000
/-! PFE: enumerate of a tuple. -/
namespace PF
open PySem L2 Evl PySem.Spec PyProof.Rows
abbrev tupIt (t : Addr) : Obj := { cls := .type "tuple_iterator", data := .fields #[.ref t, .int 0 0] }
abbrev enuOf (a : Addr) : Obj := { cls := .type "enumerate", data := .fields #[.none, .bool false, .ref a, rawInt 0, .none, .none] }
theorem meets_enumT (t : Addr) (items : Array Value) :
    Meets (Builtin.«enumerate.__new__» ⟨[.type "enumerate", .ref t], []⟩) (fun _ R s => s.heap.IsTuple t items ∧ R (.ok (.ret (.ref (s.heap.push (tupIt t)).objs.size))) { s with heap := (s.heap.push (tupIt t)).push (enuOf s.heap.objs.size) }) :=
  .of_wp fun pr wo ar re st hh => by
    obtain ⟨hp, gg, dd, tk, oo⟩ := st; obtain ⟨hl, hk⟩ := hh
    have enumSub := sub_enumerate
    have it1 : ∀ {ar' : Around} {E : Value → Shared → Prop} {Q : Value → Shared → Prop}, Q (.ref hp.objs.size) ⟨hp.push (tupIt t), gg, dd, tk, oo⟩ → wpAny (model pr wo) ar' (pyIter (.ref t)) Q E ⟨hp, gg, dd, tk, oo⟩ :=
      fun q => wpAny_pyIter_tuple (s := ⟨hp, gg, dd, tk, oo⟩) hl q
    obtain ⟨⟨c, dct, dt, sl⟩, hl1, hc1, n1, hd1⟩ := id hl
    have hc1 : c = .type "tuple" := hc1
    have hd1 : dt = .seq items n1 := hd1
    subst hc1 hd1
    wp_walk using AutoSeq1.wpAny_loadPart' hl1, it1
    refine wpAny_stack_any fun stk => wpAny_pure ?_
    split
    · rename_i c _ _ _ _ _
      cases (c == Value.type "enumerate")
      · wp_walk using AutoSeq1.wpAny_loadPart' hl1, it1
        exact ⟨_, rfl, hk⟩
      · wp_walk using AutoSeq1.wpAny_loadPart' hl1, it1
        exact ⟨_, rfl, hk⟩
    · wp_walk using AutoSeq1.wpAny_loadPart' hl1, it1
      exact ⟨_, rfl, hk⟩
theorem call_enumT {prog : Program} {w : World} {A : Around} {E : Value → Shared → Prop} {s : Shared} {t : Addr} {items : Array Value} {Q : Value → Shared → Prop} (ht : s.heap.IsTuple t items)
    (h : ∀ h', IsEnum h' (s.heap.objs.size + 1) s.heap.objs.size 0 .none → h'.IsTupleIter s.heap.objs.size t 0 → h'.objs.size = s.heap.objs.size + 2 → (∀ b o, s.heap.get? b = some o → h'.get? b = some o) → Q (.ref (s.heap.objs.size + 1)) { s with heap := h' }) :
    wpAny (model prog w) A (call (.type "enumerate") [.ref t]) Q E s := by
  refine callType_new F.called_enumerate (by decide) (F.typeCall_enumerate_1 _) (F.newCall_enumerate_1 _) (fun ob => F.args_object_init_2 ob _) F.entry_enumerate_new (meets_enumT t items) ⟨ht, ?_⟩
  have size1 : (s.heap.push (tupIt t)).objs.size = s.heap.objs.size + 1 := Heap.size_push ..
  show _ ∧ _
  rw [size1]
  have isE : IsEnum ((s.heap.push (tupIt t)).push (enuOf s.heap.objs.size)) (s.heap.objs.size + 1) s.heap.objs.size 0 .none := by
    have e := Heap.get?_push_size (s.heap.push (tupIt t)) (o := enuOf s.heap.objs.size) rfl
    rw [size1] at e; exact e
  exact ⟨⟨_, isE, rfl⟩, h _ isE ⟨_, Heap.get?_push_of_some _ (Heap.get?_push_size _ rfl), rfl, rfl⟩ (by rw [Heap.size_push, size1]) fun b o x => Heap.get?_push_of_some _ (Heap.get?_push_of_some _ x)⟩
/-- an enumeration of a tuple that is through -/
theorem next_endT {prog : Program} {w : World} {A : Around} {E : Value → Shared → Prop} {s : Shared} {e it a : Addr} {i : Nat} {items : Array Value} {old : Value} {k : Int} {Q : Option Value → Shared → Prop} (hh : A.handled = none)
    (isE : IsEnum s.heap e it k old) (isI : s.heap.IsTupleIter it a i) (isT : s.heap.IsTuple a items) (no : items[i]? = none) (q : ∀ h', Heap.ExtBut it s.heap h' → Q none { s with heap := h' }) : wpAny (model prog w) A (pyNext (.ref e)) Q E s := by
  have ty : s.TypeIs (.ref e) "enumerate" := ⟨_, isE, rfl⟩
  unfold pyNext
  refine wpAny_bind (wpAny_attempt (wpAny_callSpecial?_slot (name := Str.ofString "__next__") ty F.slot_enumerate_next (wpAny_call_entry F.slot_enumerate_next ty F.entry_enumerate_next ?_ (F.args_enumerate_next_1 _))))
  show wpAny _ _ (field (.ref e) 2 >>= _) _ _ s
  refine wpAny_bind (wpAny_field isE rfl (x := .ref it) rfl (wpAny_bind (wpAny_nextOf_tuple_end (show A.in1.handled = none from hh) isI isT no fun h' x ext stop => ?_)))
  obtain ⟨so, hso, cso⟩ := stop
  exact wpAny_bind (wpAny_isInstance (T := "StopIteration") (b := true) ⟨so, hso, cso⟩ isSubtype_stop (wpAny_pure (q _ ext)))
/-- the tuple at a, each item in a new pair with its place -/
def IteT (K : PySem.W.Frag) (a : Addr) : It :=
  ⟨fun i H => ∃ (xs : List V) (x : V), SqT K H a xs ∧ xs[i]? = some x, fun i H v H' => ∃ (A : Addr) (x : V), v = .ref A ∧ H A = none ∧ H' = upd H A (.tup [.int (i : Nat), x]) ∧ ∀ xs, SqT K H a xs → xs[i]? = some x, fun i H => ∃ xs : List V, SqT K H a xs ∧ xs.length ≤ i⟩
theorem turn_enumT {P : Program} {w : World} {K : PySem.W.Frag} {elts : List Expr} {kk : Nat} {tpos : Pos} (a e it : Addr) :
    Turn P w K (.Tuple elts kk tpos) (IteT K a) [e, it] e (fun i h => (∃ old, IsEnum h e it ((i : Nat) : Int) old) ∧ h.IsTupleIter it a i ∧ e ≠ it) where
  mem := List.mem_cons_self ..
  obj := fun i h st b hb => by
    obtain ⟨⟨old, he⟩, ⟨oo, ho, _, hd⟩, _⟩ := st
    rcases List.mem_cons.mp hb with rfl | hb
    · exact ⟨_, he, fun v q => nomatch q⟩
    · rw [List.mem_singleton] at hb
      subst hb
      exact ⟨oo, ho, fun v q => by rw [hd] at q; cases q⟩
  keep := fun i h h' st k => let ⟨⟨old, he⟩, hi, hne⟩ := st; ⟨⟨old, k e (by simp) _ he⟩, hi.at fun o q => k it (by simp) o q, hne⟩
  item := by
    intro X hP hw hK hc i pins s σ H E I hf st hg
    subst hP hw hK
    obtain ⟨⟨old, isE⟩, isI, apart⟩ := st
    obtain ⟨xs, x, hq, hx⟩ := hg
    obtain ⟨its, rv, p, hz⟩ := I.tuple hq
    obtain ⟨u, hu, ru⟩ := rv.get hx
    have eLt : e < s.heap.objs.size := Heap.lt_size isE
    have iLt : it < s.heap.objs.size := by obtain ⟨_, q, _⟩ := isI; exact Heap.lt_size q
    have aIt : a ≠ it := fun z => by
      obtain ⟨o1, q1, c1, _⟩ := isI
      obtain ⟨o2, q2, c2, _⟩ := p
      rw [z, q1] at q2
      cases q2
      rw [c1] at c2
      exact absurd (Value.type.inj c2) (by decide)
    have aE : a ≠ e := fun z => by
      obtain ⟨o2, q2, c2, _⟩ := p
      rw [z, isE] at q2
      cases q2
      exact absurd (Value.type.inj c2) (by decide)
    have size : i < its.toArray.size := by
      have := (List.getElem?_eq_some_iff.mp hu).1
      simpa using this
    refine wpAny_pyNext_enum_itemD (Draws.tuple (A := X.A.in1) (show X.A.in1.handled = none from I.ok.hd hc) it a aIt its.toArray) isE ⟨isI, p⟩ size apart (by simp only [List.mem_cons, List.not_mem_nil, or_false, not_or]; exact ⟨apart, fun z => aE z.symm⟩) fun y h' tk hy ho st' hT hsz hk => ?_
    have hyu : y = u := by
      have hy : its.toArray[i]? = some y := hy
      have hu2 : its.toArray[i]? = some u := by simpa using hu
      rw [hu2] at hy
      exact (Option.some.inj hy).symm
    subst hyu
    refine ⟨_, rfl, wpAny_letOwnedTupleGo_enum (s := { s with heap := h', toks := tk + 1 }) ho fun h2 he2 sb => ?_⟩
    have newT : h2.get? s.heap.objs.size = some { cls := .type "tuple", data := .seq #[.int i tk, y] } := (sb.2 _ (Nat.ne_of_gt eLt)).trans hT
    have newOk : ObjOk X.prog X.w (upd H s.heap.objs.size (.tup [.int (i : Nat), x])) h2 s.heap.objs.size (.tup [.int (i : Nat), x]) :=
      ⟨by show 2 ≤ sizeLine; decide, [.int i tk, y], .cons ⟨_, rfl⟩ (.cons ru .nil), ⟨_, newT, rfl, _, rfl⟩⟩
    have J : Inv X pins σ (upd H s.heap.objs.size (.tup [.int (i : Nat), x])) { s with heap := h2, toks := tk + 1 } :=
      I.turnedNew (ch := [e, it]) (fun b ob hb q => (sb.2 b (fun z => hb (by simp [z]))).trans (hk b ob (fun z => hb (by simp [z])) (fun z => hb (by simp [z])) q)) hf (Nat.le_refl _) newOk
    refine ⟨.ref s.heap.objs.size, _, J, rfl, ⟨_, x, rfl, I.hok.fresh (Nat.le_refl _), rfl, fun ys hys => by rw [I.tuple_inj hys hq]; exact hx⟩, ⟨⟨y, ?_⟩, st'.1.at fun o q => (sb.2 it (Ne.symm apart)).trans q, apart⟩, fun b hb => ?_⟩
    · rw [show ((i + 1 : Nat) : Int) = (i : Int) + 1 by omega]; exact he2
    · have bLt : b < s.heap.objs.size := by
        rcases List.mem_cons.mp hb with rfl | hb
        · exact eLt
        · rw [List.mem_singleton] at hb; subst hb; exact iLt
      rw [upd_ne (Nat.ne_of_lt bLt)]
      exact (hf b hb).1
  done := by
    intro X hP hw hK hc i pins s σ H E I hf st hg
    subst hP hw hK
    obtain ⟨⟨old, isE⟩, isI, apart⟩ := st
    obtain ⟨xs, hq, hx⟩ := hg
    obtain ⟨its, rv, p, hz⟩ := I.tuple hq
    obtain ⟨f0, f1, f2, f3, f4, f5⟩ := hf it (by simp)
    have hl := rv.length
    exact next_endT (I.ok.hd hc) isE isI p (by simp; omega) fun h' eb => ⟨rfl, I.turned (t' := s.toks) (fun b o hb q => eb b o hb q) f0 f1 f3 f4 f5⟩
  self := fun A i s Q E st h => let ⟨⟨_, he⟩, _⟩ := st; wpAny_pyIter_enum he h
/-- enumerate of a list or a tuple -/
def iEnumA (K : PySem.W.Frag) (ta : TA) : TI := fun σ H R => ta σ H fun vs H1 => ∃ a, vs = [.ref a] ∧ ((∃ xs, SqL K H1 a xs ∧ R (Ite K a) H1) ∨ (∃ xs, SqT K H1 a xs ∧ R (IteT K a) H1))
theorem pi_enumA {X : Cx} {e : Expr} {ta : TA} {p pos tpos : Pos} {elts : List Expr} {kk : Nat} (hg : Gl X "enumerate") (hm : X.mg "enumerate" = none) (ha : PA X [e] ta) (hs : starEach [e] X.env = [(false, eval e X.env)] := by rfl) :
    PI X (.Tuple elts kk tpos) (.Call (.Name "enumerate" p) [e] [] pos) (iEnumA X.K ta) := by
  refine ⟨fun pins s σ H R I h => Call_ (ld_blt I hg hm boot_enumerate (PyProof.Rows.callWith_type1 (thn (ha.run pos pins s σ H _ I h) fun us s1 ⟨vs, H1, I1, r1, q1⟩ => ?_) hs rfl))⟩
  obtain ⟨a, rfl, q1⟩ := q1
  cases r1 with
  | cons r rr =>
    cases rr
    cases r
    have away : ∀ b : Addr, b ∈ [s1.heap.objs.size + 1, s1.heap.objs.size] → s1.heap.objs.size ≤ b := fun b hb => by
      rcases List.mem_cons.mp hb with rfl | hb
      · exact Nat.le_succ _
      · rw [List.mem_singleton] at hb; subst hb; exact Nat.le_refl _
    rcases q1 with ⟨xs, hq, q⟩ | ⟨xs, hq, q⟩
    · obtain ⟨its, rv, pl, _⟩ := I1.list hq
      refine call_enumerate_list pl.isList fun h' isE isI hsz hk => wpAny_pyIter_enum isE ?_
      have J : Inv X pins σ H1 { s1 with heap := h' } := I1.kept (t' := s1.toks) hk
      exact ⟨s1.heap.objs.size + 1, [s1.heap.objs.size + 1, s1.heap.objs.size], _, _, H1, rfl, J, turn_enum a (s1.heap.objs.size + 1) s1.heap.objs.size, ⟨⟨.none, isE⟩, isI, Nat.succ_ne_self _⟩, fun b hb => I1.fpOk (away b hb) (I1.hok.fresh (away b hb)), q⟩
    · obtain ⟨its, rv, pl, _⟩ := I1.tuple hq
      refine call_enumT pl fun h' isE isI hsz hk => wpAny_pyIter_enum isE ?_
      have J : Inv X pins σ H1 { s1 with heap := h' } := I1.kept (t' := s1.toks) hk
      exact ⟨s1.heap.objs.size + 1, [s1.heap.objs.size + 1, s1.heap.objs.size], _, _, H1, rfl, J, turn_enumT a (s1.heap.objs.size + 1) s1.heap.objs.size, ⟨⟨.none, isE⟩, isI, Nat.succ_ne_self _⟩, fun b hb => I1.fpOk (away b hb) (I1.hok.fresh (away b hb)), q⟩
section
variable {X : Cx} {T : List (Addr × Str)} {W : WX} {K : PySem.W.Frag} {F : Hp} {μ : List MA} {src : Src} {a : Addr}
theorem walks_eT (h : StandT K T F μ src a) : PF.Walks K T F μ (.enum src) (IteT K a) := by
  intro F' μ' S H ds i e p s q
  simp only [srcAt, Option.map_eq_some_iff] at q
  obtain ⟨es, q, rfl⟩ := q
  obtain ⟨vs, h1, h2⟩ := h F' μ' S H es e p s q
  refine ⟨fun d hd => ?_, fun hl => ⟨vs, h1, by rw [← h2.length]; rw [numb_len] at hl; exact hl⟩⟩
  rw [numb_get, Option.map_eq_some_iff] at hd
  obtain ⟨d', hd, rfl⟩ := hd
  obtain ⟨v, k1, k2⟩ := h2.get hd
  refine ⟨⟨vs, v, h1, k1⟩, fun x H' y => ?_⟩
  obtain ⟨A, w, rfl, hA, rfl, y⟩ := y
  have := (y vs h1).symm.trans k1
  cases this
  have hF := fresh_back s.ex hA
  rw [Nat.zero_add]
  exact ⟨upd F' A (.tup [.int (i : Nat), _]), Ex.new hF, s.new hA, .tup (st_of upd_same) (.cons (.int _) (.cons (k2.mono (Ex.new hF) (List.prefix_refl _)) .nil))⟩
def cEnumA (c : AX) : IX := fun ρ S => bindO (c ρ S) fun ds S => match ds with
  | [d] => (match srcOf d with
    | some src => some (.ok (.enum src), S)
    | none => none)
  | _ => none
theorem ri_enumA {e : Expr} {ca : AX} {p pos : Pos} {elts : List Expr} {kk : Nat} {tpos : Pos} (ha : RA T X W [e] ca) (hm : X.mg "enumerate" = none) (hg : Gl X "enumerate" := by rfl) (hs : starEach [e] X.env = [(false, eval e X.env)] := by rfl) : RI T X W (.Tuple elts kk tpos) (.Call (.Name "enumerate" p) [e] [] pos) (cEnumA ca) := by
  obtain ⟨t, pa, f⟩ := ha
  refine ⟨_, pi_enumA hg hm pa hs, fun σ ρ F μ S H R s hE g => f σ ρ F μ S H _ s hE (GP.seq g fun ds F1 μ1 H1 S1 e1 p1 s1 g1 vs rs => ?_)⟩
  split at g1
  · rename_i d
    split at g1
    · rename_i src hsrc
      obtain ⟨v, rfl, rv⟩ := rs.inv1
      cases hl : isL d with
      | true =>
        obtain ⟨a, rfl, ⟨ws, h1⟩, h2⟩ := stand_l s1 rv hsrc hl
        exact ⟨a, rfl, .inl ⟨ws, h1, GP.here g1 s1 _ (walks_e h2)⟩⟩
      | false =>
        obtain ⟨a, rfl, ⟨ws, h1⟩, h2⟩ := stand_t s1 rv hsrc hl
        exact ⟨a, rfl, .inr ⟨ws, h1, GP.here g1 s1 _ (walks_eT h2)⟩⟩
    · exact g1.elim
  · exact g1.elim
end
end PF
set_option Elab.async false
set_option linter.all false
set_option maxRecDepth 100000
set_option maxHeartbeats 4000000
/-! PFT: sorted of a tuple of numbers. -/
namespace PF
open PySem L2 Evl PySem.Spec PyProof.Rows
section
variable {pr : Program} {wo : World} {ar : Around} {ex : Value → Shared → Prop} {st : Shared}
theorem tup_collect {p : Addr} {ws : List Value} {R : List Value → Shared → Prop} (tp : st.heap.IsTuple p ws.toArray) (len : ws.length ≤ sizeLine)
    (go : R ws { st with heap := (st.heap.push (seqObj "list" #[] 0)).update st.heap.objs.size (Obj.mapSeq (· ++ ws.toArray)) }) : wpAny (model pr wo) ar (collect (.ref p)) R ex st := by
  obtain ⟨ob, hob, hcl, nn, hdt⟩ := id tp
  have kept : (st.heap.push (seqObj "list" #[] 0)).get? p = some ob := Heap.get?_push_of_some _ hob
  have mine : (st.heap.push (seqObj "list" #[] 0)).get? st.heap.objs.size = some (seqObj "list" #[] 0) := Heap.get?_push_size _ rfl
  have is2 : (Value.type "tuple" == Value.type "tuple") = true := by rfl
  have joined : ((#[] : Array Value) ++ ws.toArray).toList = ws := by simp
  have short : (#[] ++ ws.toArray : Array Value).size ≤ sizeLine + 1 := by
    rw [Array.size_append, List.size_toArray]
    show 0 + ws.length ≤ _
    omega
  (unfold collect)
  refine wpAny_bind (wpAny_runValue (codeAny_builtin entry_proto_collect' (?_ : wpAny _ _ (do again (.builtin "list.__iadd__" ⟨[← newList [], .ref p], []⟩)) _ _ st)))
  refine wpAny_bind (wpAny_newList (wpAny_pure ⟨Code.quiet_builtin _ (by decide +kernel), codeAny_builtin entry_list_iadd' (?_ : wpAny _ _ (Builtin.List.listExtendWith (.ref st.heap.objs.size) (.ref p) (.ref st.heap.objs.size)) _ _ { st with heap := st.heap.push (seqObj "list" #[] 0) })⟩))
  (unfold Builtin.List.listExtendWith)
  refine wpAny_bind (wpAny_typeOf (T := "tuple") ⟨ob, kept, hcl⟩ ?_)
  rw [if_pos (by rw [is2, Bool.or_true])]
  refine wpAny_bind (listItems_at kept hdt (wpAny_bind (listItems_at (xs := #[]) (n := 0) mine rfl ?_)))
  rw [if_neg (by simp)]
  refine wpAny_bind (listUpdate_at (xs := #[]) (n := 0) mine rfl (wpAny_pure ?_) (Nat.zero_le _) short)
  refine wpAny_bind (m := load st.heap.objs.size) (wpAny_load (get?_update_seq mine _) ?_)
  show wpAny _ _ (pure (#[] ++ ws.toArray : Array Value).toList) R ex _
  rw [joined]
  exact wpAny_pure go
/-- as sorted_ord, of a tuple -/
theorem tup_sorted {p : Addr} {ws : List Value} {lt : Value → Value → Bool} {R : Value → Shared → Prop} (sw : SrtO.Swo lt) (tp : st.heap.IsTuple p ws.toArray) (len : ws.length ≤ sizeLine)
    (able : 2 ≤ ws.length → ∀ (hp : Heap) (b : Addr), hp.get? b = some (seqObj "list" ws.toArray 0) → (∀ c q, st.heap.get? c = some q → c ≠ b ∧ hp.get? c = some q) → SrtO.SortableO pr wo ar.in1.in1 { st with heap := hp } b ws lt)
    (go : ∀ zs : List Value, SrtO.Srtd lt zs → SrtO.Stb lt zs ws → R (.ref (st.heap.objs.size + 1)) { st with heap := sortedAll st.heap ws zs.toArray }) : wpAny (model pr wo) ar (call (.builtin "sorted") [.ref p]) R ex st := by
  generalize hq : ((st.heap.push (seqObj "list" #[] 0)).update st.heap.objs.size (Obj.mapSeq (· ++ ws.toArray))) = mid
  have sz : mid.objs.size = st.heap.objs.size + 1 := by rw [← hq, Heap.size_update, size_push']
  have made : (mid.push (seqObj "list" ws.toArray 0)).get? (st.heap.objs.size + 1) = some (seqObj "list" ws.toArray 0) := by rw [← sz]; exact Heap.get?_push_size _ rfl
  have old : ∀ c q, st.heap.get? c = some q → c ≠ st.heap.objs.size + 1 ∧ (mid.push (seqObj "list" ws.toArray 0)).get? c = some q := fun c q h => by
    have below := Heap.lt_size h
    refine ⟨Nat.ne_of_lt (Nat.lt_succ_of_lt below), Heap.get?_push_of_some _ ?_⟩
    rw [← hq, Heap.get?_update_ne _ _ _ _ (Nat.ne_of_lt below)]
    exact Heap.get?_push_of_some _ h
  refine Calls.call_function_entry kind_sorted plain_sorted entry_sorted (args_sorted1 _) ?_
  (unfold Builtin.«sorted»)
  refine wpAny_bind (m := checkCount "sorted" 1 1 _) (wpAny_pure (wpAny_bind (tup_collect tp len (wpAny_bind (wpAny_newList ?_ len)))))
  rw [hq]
  show wpAny _ _ _ _ _ { st with heap := mid.push (seqObj "list" ws.toArray 0) }
  have go2 : ∀ zs : List Value, SrtO.Srtd lt zs → SrtO.Stb lt zs ws → R (.ref (st.heap.objs.size + 1)) { st with heap := sortedHeap (mid.push (seqObj "list" ws.toArray 0)) (st.heap.objs.size + 1) ws zs.toArray } := fun zs h1 h2 => by
    have := go zs h1 h2
    unfold sortedAll at this
    rw [hq] at this
    exact this
  rw [sz]
  exact wpAny_bind (wpAny_holding (wpAny_call_entry slot_list_sort ⟨_, made, rfl⟩ entry_list_sort (SrtO.list_sort_ord sw made len (fun h2 => able h2 _ _ made old) fun zs h1 h2 => ⟨_, rfl, wpAny_pure ⟨_, rfl, go2 zs h1 h2⟩⟩) (args_list_sort _)))
end
section
variable {X : Cx} {T : List (Addr × Str)}
def rSortedTI (K : PySem.W.Frag) : List V → Hp → VK → Prop := fun xs H Q => ∃ (b : Addr) (is : List Int), xs = [V.ref b] ∧ SqT K H b (is.map V.int) ∧
  ∀ (js : List Int) (c : Addr), js.Perm is → js.Pairwise (· ≤ ·) → H c = none → Q (.ref c) (upd H c (.lst (js.map V.int)))
theorem cr_sortedTI : CallR X (.builtin "sorted") (rSortedTI X.K) := by
  intro pn sh σ H xs us Q I rel h
  obtain ⟨b, is, rfl, ht, q⟩ := h
  obtain ⟨its, rv, tp, hz⟩ := I.tuple ht
  rw [Vals.ref1 rel]
  have hI := rv.ints
  have len2 : its.length ≤ sizeLine := by rw [← rv.length]; exact hz
  refine tup_sorted SrtO.swo_int tp len2 (fun h2 _ _ _ _ => SrtO.ints_sortable hI h2) fun zs h1 h2 => ?_
  obtain ⟨i1, i2, i3⟩ := SrtO.ints_out hI h1 h2
  obtain ⟨ep, hep⟩ := PyProof.Rows.sortedAll_at sh.heap its zs.toArray
  have lenz : ((zs.map SrtO.iv).map V.int).length ≤ sizeLine := by
    rw [List.length_map, i2.length_eq]
    rw [List.length_map] at hz
    exact hz
  have J := I.laid (t' := sh.toks) (fun _ _ => PyProof.Rows.sortedAll_old) (Nat.le_succ _) (show ObjOk X.prog X.w _ _ _ (.lst ((zs.map SrtO.iv).map V.int)) from ⟨lenz, zs, ep, vals_of_ints i1, hep⟩)
  exact ⟨.ref _, _, J, rfl, q _ _ i2 i3 (I.hok.fresh (Nat.le_succ _))⟩
def bSortedTI : OpB := fun ds S => match ds with
  | [.tup xs] => (match intsOf xs with
    | some ns => some (.ok (.lst ((sortI ns).map D.int)), S)
    | none => none)
  | _ => none
theorem bSortedTI_ok : BltOk X T true (rSortedTI X.K) bSortedTI := by
  intro F μ S H ds vs Q er s rs h
  unfold bSortedTI at h
  split at h
  · rename_i xs
    split at h
    · rename_i ns hn
      obtain ⟨v, rfl, r⟩ := rs.inv1
      obtain ⟨b, ws, rfl, h1, h2⟩ := asT_ok s r (ds := xs) rfl
      rw [ints_rep h2 hn] at h1
      refine ⟨b, ns, rfl, h1, fun js c k1 k2 hc => ?_⟩
      have e : js = sortI ns := sorted_unique (k1.trans (sortI_perm ns).symm) k2 (sortI_sorted ns)
      subst e
      exact gp_lst h s (reps_ints _) c hc
    · exact h.elim
  · exact h.elim
/-- of a list or a tuple -/
def bSortedA : OpB := fun ds S => match bSortedTI ds S with
  | some r => some r
  | none => bSorted ds S
theorem BltOk.or {fr : Bool} {r r' : List V → Hp → VK → Prop} {o o' : OpB} (h : BltOk X T fr r o) (h' : BltOk X T fr r' o') : BltOk X T fr (fun xs H Q => r xs H Q ∨ r' xs H Q) (fun ds S => match o ds S with
  | some r => some r
  | none => o' ds S) := by
  intro F μ S H ds vs Q er s rs g
  cases e : o ds S with
  | none =>
    simp only [e] at g
    exact .inr (h' F μ S H ds vs Q er s rs g)
  | some z =>
    simp only [e] at g
    exact .inl (h F μ S H ds vs Q er s rs (by rw [e]; exact g))
theorem cr_sortedA : CallR X (.builtin "sorted") (fun xs H Q => rSortedTI X.K xs H Q ∨ rSortedI X.K xs H Q) := cr_sortedTI.or cr_sortedI
theorem bSortedA_ok : BltOk X T true (fun xs H Q => rSortedTI X.K xs H Q ∨ rSortedI X.K xs H Q) bSortedA := bSortedTI_ok.or bSorted_ok
end
end PF
set_option Elab.async false
set_option linter.all false
set_option maxRecDepth 100000
set_option maxHeartbeats 4000000
/-! PFS: places in a text; the makers' tables. -/
namespace PF
open PySem L2 Evl PySem.Spec PyProof.Rows
def noE : Expr := .Name "" ⟨0, 0, 0, 0⟩
def noS : Stmt := .Pass ⟨0, 0, 0, 0⟩
def nthS (b : List Stmt) (i : Nat) : Stmt := b.getD i noS
def stE : Stmt → Expr
  | .Assign _ v _ => v
  | .Return (some v) _ => v
  | .Expr v _ => v
  | .AugAssign _ _ v _ => v
  | .If t _ _ _ => t
  | .While t _ _ _ => t
  | .For _ i _ _ _ => i
  | _ => noE
def stB (i : Nat) : Stmt → Stmt
  | .If _ b _ _ => nthS b i
  | .While _ b _ _ => nthS b i
  | .For _ _ b _ _ => nthS b i
  | _ => noS
def stO (i : Nat) : Stmt → Stmt
  | .If _ _ b _ => nthS b i
  | _ => noS
def exA (i : Nat) : Expr → Expr
  | .Call _ as _ _ => as.getD i noE
  | .Compare _ _ as _ => as.getD i noE
  | .BoolOp _ as _ => as.getD i noE
  | .Tuple as _ _ => as.getD i noE
  | .List as _ => as.getD i noE
  | _ => noE
def exK (i : Nat) : Expr → Expr
  | .Call _ _ ks _ => (ks[i]?.map (·.value)).getD noE
  | _ => noE
def ex0 : Expr → Expr
  | .IfExp t _ _ _ => t
  | _ => noE
def ex1 : Expr → Expr
  | .IfExp _ a _ _ => a
  | .BinOp a _ _ _ => a
  | .Compare a _ _ _ => a
  | .UnaryOp _ a _ => a
  | .Subscript a _ _ => a
  | _ => noE
def ex2 : Expr → Expr
  | .IfExp _ _ b _ => b
  | .BinOp _ _ b _ => b
  | _ => noE
def lamAt (q : Str) : Expr → LamSite
  | .Lambda a b s _ => ⟨a, b, s, q⟩
  | _ => ⟨⟨[], [], none, [], [], none, []⟩, noE, ⟨.function, [], false, false, []⟩, q⟩
/-! ### how a new list is held -/
inductive Held : EX → EX → Prop
  | val {c : EX} : Held c c
  | loc {c : EX} : Held c (cAlloc c)
section
variable {X : Cx} {T : List (Addr × Str)} {W : WX} {fr : Bool}
theorem rs_setLh {os : List Nat} {i : Nat} {y : Str} {elt tg iter : Expr} {ifs : List Expr} {scope : Scope} {own : List (Str × Nat)} {js : List Nat} {pos spos py : Pos} {ci : IX} {ct : TX} {cb : BX} {ce c2 : EX} (hd : Held (cComp ci os ct cb ce) c2) (hc : X.calm = true) (hN : X.N.Nodup)
    (ok : BlkOk X.N X.env.scope scope own) (hos : own.map (·.2) = os) (hjs : ∀ j ∈ js, j ∈ os) (hi : RI T X W tg iter ci)
    (hg : ∀ (s : Shared) (H : Hp) (C : Addr) (cl : List (Str × Addr)) (fp : List Addr), RG T (X.blk s H scope (compEnvC scope cl C X.env) fp) js tg ct) (ht : ∀ (s : Shared) (H : Hp) (C : Addr) (cl : List (Str × Addr)) (fp : List Addr), RTs T (X.blk s H scope (compEnvC scope cl C X.env) fp) WF ifs cb)
    (he : ∀ (s : Shared) (H : Hp) (C : Addr) (cl : List (Str × Addr)) (fp : List Addr), RE T false (X.blk s H scope (compEnvC scope cl C X.env) fp) WF elt ce)
    (hsw : swapsWith (.ListComp elt [⟨tg, iter, ifs, 0⟩] scope pos) (some (.Name y py)) spos.line X.env = pure true) (hy : X.N[i]? = some y := by rfl) (hyl : X.env.scope.names.lookup y = some .local := by rfl) (hs : ∀ x, foldedSetIterable iter X.env x = pure x := by intro _; rfl) :
    RS T fr X W (.Assign [.Name y py] (.ListComp elt [⟨tg, iter, ifs, 0⟩] scope pos) spos) (sSet i c2) := by
  cases hd with
  | val => exact rs_setLc hc hN ok hos hjs hi hg ht he _ hold_val hsw hy hyl hs
  | loc => exact rs_setLc hc hN ok hos hjs hi hg ht he _ hold_loc hsw hy hyl hs
end
/-! ### the makers -/
def qualL (p : He.Defn) : Str := p.1 ++ ".<locals>.<lambda>"
def tabsL (tf : List He.Defn) (K : PySem.W.Frag) : List (Addr × Str) := tf.map fun p => ((He.cT K p).2, qualL p)
def apartL (tf : List He.Defn) (K : PySem.W.Frag) : Bool := decide (tf.Pairwise fun p q => (He.cT K p).2 ≠ (He.cT K q).2)
theorem code_of {K : PySem.W.Frag} {p : Str × Option Str} {x qual : Str} {params : Arguments} {body : List Stmt} {scope : Scope} {dvs : List V} {kws : List (Str × V)} {fd : FuncData} (FD : FunD K x qual params body scope dvs kws (He.fAd K p) fd) : fd.code = .ref (He.codeOf K p) := by
  obtain ⟨oc, od, dV, kV, doc, pm, an, cdv, ct, osl, rfl, lk, hcd, _, _⟩ := FD.ex
  obtain ⟨c, rfl⟩ := He.codeIn_ref hcd
  rw [He.codeOf_eq lk rfl]
theorem apart_pick {α β : Type} {f : α → β} {q : α} : ∀ {l : List α} {p : α}, l.Pairwise (fun x y => f x ≠ f y) → p ∈ l → q ∈ l → f p = f q → p = q
  | x :: l, p, h, hp, hq, e => by
    obtain ⟨h1, h2⟩ := List.pairwise_cons.mp h
    rcases List.mem_cons.mp hp with rfl | hp'
    · rcases List.mem_cons.mp hq with rfl | hq'
      · rfl
      · exact absurd e (h1 q hq')
    · rcases List.mem_cons.mp hq with rfl | hq'
      · exact absurd e.symm (h1 p hp')
      · exact apart_pick h2 hp' hq' e
theorem uniqL {tf : List He.Defn} {K : PySem.W.Frag} (h : apartL tf K = true) {a : He.Defn} (ha : a ∈ tf) : ∀ p ∈ tabsL tf K, p.1 = (He.cT K a).2 → p.2 = qualL a := by
  intro p hp e
  obtain ⟨b, hb, rfl⟩ := List.mem_map.mp hp
  rw [apart_pick (f := fun p => (He.cT K p).2) (of_decide_eq_true h) hb ha e]
theorem memL {tf : List He.Defn} {K : PySem.W.Frag} {a : He.Defn} (ha : a ∈ tf) : ((He.cT K a).2, qualL a) ∈ tabsL tf K := List.mem_map.mpr ⟨a, ha, rfl⟩
/-- what a maker's derivation asks -/
theorem makes {tf : List He.Defn} {K : PySem.W.Frag} {mg : Str → Option Value} {base : Heap} {x : Str} {params : Arguments} {body : List Stmt} {scope : Scope} {fd : FuncData} (a : He.Defn) (h : apartL tf K = true) (ha : a ∈ tf) (tb : ∀ p ∈ tf.map (He.cT K), LamX.TabB base mg p.1 p.2) (FD : FunD K x x params body scope [] [] (He.fAd K a) fd) (hm : mg x = some (.ref (He.fAd K a))) :
    ∃ f fd c P, FunD K x x params body scope [] [] f fd ∧ mg x = some (.ref f) ∧ fd.code = .ref c ∧ LamX.TabB base mg c P ∧ (P, qualL a) ∈ tabsL tf K ∧ ∀ p ∈ tabsL tf K, p.1 = P → p.2 = qualL a :=
  ⟨_, fd, _, _, FD, hm, code_of FD, tb _ (List.mem_map.mpr ⟨a, ha, rfl⟩), memL ha, uniqL h ha⟩
end PF
set_option Elab.async false
set_option linter.all false
set_option maxRecDepth 100000
set_option maxHeartbeats 4000000
/-! PFJ: defs as values, tables of the module, a try that runs through, sorted(set(..)) of ints, insert. -/
namespace PF
open PySem L2 Evl PySem.Spec PyProof.Rows
section
variable {X : Cx} {T : List (Addr × Str)} {W : WX} {x : Str} {pos : Pos}
/-- a name of the module: a def, a table -/
theorem re_gfn (hm : X.mg x = some (.ref (He.ga X.K x))) (hg : Gl X x := by rfl) (hd : (x == ("__debug__" : Str)) = false := by decide) : RE T false X W (.Name x pos) (cK (.gfn x)) :=
  ⟨_, pe_glob (v := .ref (He.ga X.K x)) hg hm rfl hd, fun σ ρ F μ S H Q s hE g => gp_val g s .gfn⟩
/-! ### tables -/
/-- the table x: what it has for some keys -/
structure TabF (K : PySem.W.Frag) (w : World) (x : Str) (t : List (Str × Option D)) : Prop where
  kd : ∃ es n, KDict K w (He.ga K x) es n
  has : ∀ p ∈ t, match p.2 with
    | some d => ∃ u v, PySem.W.nsIn K (He.ga K x) p.1 = some (some u) ∧ RelV v u ∧ ∀ F μ, Rep K F μ d v
    | none => PySem.W.nsIn K (He.ga K x) p.1 = some none
def lkT (z : Str) : List (Str × Option D) → Option (Option D)
  | [] => none
  | p :: t => if z = p.1 then some p.2 else lkT z t
theorem lkT_mem {z : Str} : ∀ {t : List (Str × Option D)} {o : Option D}, lkT z t = some o → (z, o) ∈ t
  | [], _, h => by cases h
  | p :: t, o, h => by
    simp only [lkT] at h
    split at h
    · rename_i e; cases h; subst e; exact List.mem_cons_self
    · exact List.mem_cons_of_mem _ (lkT_mem h)
def oTabIn (neg : Bool) (x : Str) (t : List (Str × Option D)) : Op2 := fun a b S => match a, b with
  | .str z, .gfn x' => if x' = x then (match lkT z t with
    | some o => some (.ok (.bl (if neg then !o.isSome else o.isSome)), S)
    | none => none) else none
  | _, _ => none
def oTabGet (x : Str) (t : List (Str × Option D)) : Op2 := fun b a S => match a, b with
  | .str z, .gfn x' => if x' = x then (match lkT z t with
    | some (some d) => some (.ok d, S)
    | _ => none) else none
  | _, _ => none
theorem tab_some {K : PySem.W.Frag} {w : World} {t : List (Str × Option D)} {z : Str} {o : Option D} (tf : TabF K w x t) (h : lkT z t = some o) : ∃ r, PySem.W.nsIn K (He.ga K x) z = some r ∧ r.isSome = o.isSome := by
  have := tf.has _ (lkT_mem h)
  cases o with
  | none => exact ⟨none, this, rfl⟩
  | some d => obtain ⟨u, v, h1, _⟩ := this; exact ⟨some u, h1, rfl⟩
theorem op_tabIn {t : List (Str × Option D)} (tf : TabF X.K X.w x t) : ∃ r, OpR X (compareOp .In) r ∧ OpOk X T false r (oTabIn false x t) := by
  obtain ⟨es, n, kd⟩ := tf.kd
  refine ⟨_, op_in_kd kd, ?_⟩
  intro F μ S H a b v u Q er s ra rb g
  unfold oTabIn at g
  split at g
  · split at g
    · rename_i e; subst e
      split at g
      · rename_i o ho
        cases ra; cases rb
        obtain ⟨r, h1, h2⟩ := tab_some tf ho
        refine ⟨_, r, rfl, rfl, h1, ?_⟩
        rw [h2]; exact gp_val g s (.bl _)
      · exact g.elim
    · exact g.elim
  · exact g.elim
theorem op_tabNin {t : List (Str × Option D)} (tf : TabF X.K X.w x t) : ∃ r, OpR X (compareOp .NotIn) r ∧ OpOk X T false r (oTabIn true x t) := by
  obtain ⟨es, n, kd⟩ := tf.kd
  refine ⟨_, op_notIn_kd kd, ?_⟩
  intro F μ S H a b v u Q er s ra rb g
  unfold oTabIn at g
  split at g
  · split at g
    · rename_i e; subst e
      split at g
      · rename_i o ho
        cases ra; cases rb
        obtain ⟨r, h1, h2⟩ := tab_some tf ho
        refine ⟨_, r, rfl, rfl, h1, ?_⟩
        rw [h2]; exact gp_val g s (.bl _)
      · exact g.elim
    · exact g.elim
  · exact g.elim
theorem re_cmpX {op : CmpOp} {o : Op2} {e1 e2 : Expr} {a b : EX} {pos : Pos} (h : ∃ r, OpR X (compareOp op) r ∧ OpOk X T false r o) (ha : RE T false X W e1 a) (hb : RE T false X W e2 b) (hm : behindInMarks op e2 = false) : RE T false X W (.Compare e1 [op] [e2] pos) (cBin o a b) := by
  obtain ⟨r, hr, ho⟩ := h
  exact re_cmp hr ho ha hb hm
theorem rt_cmpX {op : CmpOp} {o : Op2} {e1 e2 : Expr} {a b : EX} {pos : Pos} (h : ∃ r, OpR X (compareOp op) r ∧ OpOk X T false r o) (ha : RE T false X W e1 a) (hb : RE T false X W e2 b) (hm : behindInMarks op e2 = false) : RT T X W (.Compare e1 [op] [e2] pos) (cTest (cBin o a b)) := by
  obtain ⟨r, hr, ho⟩ := h
  exact rt_cmp hr ho ha hb hm
/-- TABLE[key] -/
theorem re_tabGet {t : List (Str × Option D)} {e1 e2 : Expr} {a b : EX} (tf : TabF X.K X.w x t) (ha : RE T false X W e1 a) (hb : RE T false X W e2 b) (hs : NoSl e2) : RE T false X W (.Subscript e1 e2 pos) (cBin (oTabGet x t) a b) := by
  obtain ⟨es, n, kd⟩ := tf.kd
  obtain ⟨ta, pa, fa⟩ := ha
  obtain ⟨tb, pb, fb⟩ := hb
  refine ⟨fun σ H Q => ta σ H fun x1 H1 => tb σ H1 fun y H2 => ∃ (z : Str) (u0 : Value) (v0 : V), x1 = .ref (He.ga X.K x) ∧ y = .str z ∧ PySem.W.nsIn X.K (He.ga X.K x) z = some (some u0) ∧ RelV v0 u0 ∧ Q v0 H2, ⟨fun pins s σ H Q I h => ?_⟩, fun σ ρ F μ S H Q s hE g => ?_⟩
  · refine subD_of PySem.F.slot_dict_getitem.lookup hs (thn (pa.run pins s σ H _ I h) fun u s1 ⟨x1, H1, I1, rx, q1⟩ => thn (pb.run pins s1 σ H1 _ I1 q1) fun iv s2 ⟨y, H2, I2, ry, z, u0, v0, e1, e2, e3, rv, q2⟩ => ?_)
    subst e1; subst e2
    obtain rfl : u = Value.ref (He.ga X.K x) := rx
    exact ⟨kd_type kd I2, op_item_kd kd pins s2 σ H2 (.ref (He.ga X.K x)) (.str z) _ _ _ I2 rfl ry ⟨z, u0, v0, rfl, rfl, e3, rv, q2⟩⟩
  · refine fa σ ρ F μ S H _ s hE (GP.seq g fun x1 F1 μ1 H1 S1 e1 p1 s1 g1 v rx => ?_)
    refine fb σ ρ F1 μ1 S1 H1 _ s1 (hE.mono e1 p1) (GP.seq g1 fun y F2 μ2 H2 S2 e2 p2 s2 g2 u ry => ?_)
    unfold oTabGet at g2
    split at g2
    · split at g2
      · rename_i e; subst e
        split at g2
        · rename_i d hd
          cases rx; cases ry
          obtain ⟨u0, v0, h1, h2, h3⟩ := tf.has _ (lkT_mem hd)
          exact ⟨_, u0, v0, rfl, rfl, h1, h2, gp_val g2 s2 (h3 _ _)⟩
        · exact g2.elim
      · exact g2.elim
    · exact g2.elim
/-! ### the call of a name that holds a def -/
structure Callee (P : Program) (w : World) (K : PySem.W.Frag) (mg : Str → Option Value) (base : Heap) (T : List (Addr × Str)) (k : Nat) (x : Str) (n : Nat) (o : OpB) : Prop where
  ex : ∃ params body scope ps fd, FunD K x x params body scope [] [] (He.ga K x) fd ∧ Posn params body scope x ps ∧ ps.length = n ∧ FnG P w K mg base k (He.ga K x) fd ps (spOf K mg T false n o)
theorem callee_of {P : Program} {w : World} {K : PySem.W.Frag} {mg : Str → Option Value} {base : Heap} {j k : Nat} {params : Arguments} {body : List Stmt} {scope : Scope} {ps : List Str} {o : OpB} (G : DefG P w K mg base T j x params body scope ps false o) (hp : Posn params body scope x ps) (hm : mg x = some (.ref (He.ga K x))) (l : j ≤ k) :
    Callee P w K mg base T k x ps.length o := by
  obtain ⟨f, fd, FD, hf, FG⟩ := G.ex
  have e : f = He.ga K x := by rw [hm] at hf; cases hf; rfl
  subst e
  exact ⟨params, body, scope, ps, fd, FD, hp, rfl, FG.mono l⟩
def pickO (x : Str) : List (Str × OpB) → Option OpB
  | [] => none
  | p :: l => if x = p.1 then some p.2 else pickO x l
theorem pickO_mem {x : Str} : ∀ {l : List (Str × OpB)} {o : OpB}, pickO x l = some o → (x, o) ∈ l
  | [], _, h => by cases h
  | p :: t, o, h => by
    simp only [pickO] at h
    split at h
    · rename_i e; cases h; subst e; exact List.mem_cons_self
    · exact List.mem_cons_of_mem _ (pickO_mem h)
def cCallGs (i n : Nat) (l : List (Str × OpB)) (r : AX) : EX := fun ρ S => match ρ[i]? with
  | some (some (.gfn x)) => (match pickO x l with
    | some o => bindO (r ρ S) fun ds S => if ds.length = n then o ds S else none
    | none => none)
  | _ => none
theorem re_callGs {k i n : Nat} {a : Str} {l : List (Str × OpB)} {e : Expr} {es : List Expr} {p : Pos} {c : AX} (G : ∀ q ∈ l, Callee X.prog X.w X.K X.mg X.base T k q.1 n q.2) (hr : Room k X.A) (hgu : X.A.guards = some []) (hx : ∀ σ, PassesAt (L2.CX X.prog X.w) X σ fun cls d H => W cls d σ H)
    (ha : RA T X W (e :: es) c) (hN : X.N[i]? = some a := by rfl) (hv : Vis X.env.scope a := by first | exact Or.inl rfl | exact Or.inr (Or.inl rfl) | exact Or.inr (Or.inr rfl)) (hd : (a == ("__debug__" : Str)) = false := by decide) (hcd : (a == ("__classdict__" : Str)) = false := by decide)
    (he : starEach (e :: es) X.env = (false, eval e X.env) :: starEach es X.env := by rfl) (hpl : (backTo pos (starEach es X.env)).any (·.1) = false := by rfl) :
    RE T false X W (.Call (.Name a p) (e :: es) [] pos) (cCallGs i n l c) := by
  obtain ⟨t, pa, rd⟩ := ha
  refine ⟨fun σ H Q => ∃ x o, σ[i]? = some (some (.ref (He.ga X.K x))) ∧ pickO x l = some o ∧ t σ H fun vs H1 => spOf X.K X.mg T false n o vs H1 Q (fun cls d H => W cls d σ H), ⟨fun pins s σ H Q I h => ?_⟩, fun σ ρ F μ S H Q s hE g => ?_⟩
  · obtain ⟨x, o, hs, ho, ht⟩ := h
    obtain ⟨params, body, scope, ps, fd, FD, hp, hn, FG⟩ := (G _ (pickO_mem ho)).ex
    refine wpAny_Call_Name_kw (thn ((pe_var (pos := p) (i := i) hN hv hd hcd).run pins s σ H (fun v H1 => v = .ref (He.ga X.K x) ∧ H1 = H) I ⟨.ref (He.ga X.K x), hs, rfl, rfl⟩) fun u s1 ⟨v, H1, I1, r1, q1⟩ => ?_)
    obtain ⟨rfl, rfl⟩ := q1
    obtain rfl : u = Value.ref (He.ga X.K x) := r1
    refine PySem.W.callWith_K (h₀ := X.base) I.ok.mod.kin FD.kp (thn (pa.run pos pins s1 σ _ _ I1 ht) fun us s2 ⟨vs, H2, I2, r, q⟩ => ⟨I2.kIn, ?_⟩) he hpl
    obtain ⟨kV, doc, pm, an, cdv, ct, rfl⟩ := FunD.to FD
    have hl : us.length = ps.length := by
      obtain ⟨_, _, _, _, _, _, hl, _⟩ := id q
      rw [← r.length, hn]; exact hl
    exact run_g (us := us) FG hr hgu (.of_eq (hp _ _ _ _ _ _ us hl)) (hx σ) I2 r q
  · unfold cCallGs at g
    split at g
    · rename_i x hρ
      split at g
      · rename_i o ho
        obtain ⟨v, hs, rv⟩ := hE.2 i _ hρ
        cases rv
        refine ⟨x, o, hs, ho, rd σ ρ F μ S H _ s hE (GP.seq g fun ds F1 μ1 H1 S1 e1 p1 s1 g1 vs rs => ?_)⟩
        split at g1
        · rename_i hn
          exact ⟨F1, μ1, S1, ds, s1, rs, by rw [← rs.length]; exact hn, g1⟩
        · exact g1.elim
      · exact g.elim
    · exact g.elim
theorem one_callee {P : Program} {w : World} {K : PySem.W.Frag} {mg : Str → Option Value} {base : Heap} {k n : Nat} {x : Str} {o : OpB} (c : Callee P w K mg base T k x n o) : ∀ q ∈ [(x, o)], Callee P w K mg base T k q.1 n q.2 := fun q hq => by
  rw [List.mem_singleton.mp hq]; exact c
theorem no_callee {P : Program} {w : World} {K : PySem.W.Frag} {mg : Str → Option Value} {base : Heap} {k n : Nat} : ∀ q ∈ ([] : List (Str × OpB)), Callee P w K mg base T k q.1 n q.2 := fun q hq => by cases hq
theorem more_callee {P : Program} {w : World} {K : PySem.W.Frag} {mg : Str → Option Value} {base : Heap} {k n : Nat} {x : Str} {o : OpB} {l : List (Str × OpB)} (c : Callee P w K mg base T k x n o) (h : ∀ q ∈ l, Callee P w K mg base T k q.1 n q.2) : ∀ q ∈ (x, o) :: l, Callee P w K mg base T k q.1 n q.2 := fun q hq => by
  rcases List.mem_cons.mp hq with e | hq
  · rw [e]; exact c
  · exact h q hq
/-! ### a try whose body lets nothing out -/
def sThru (b : SX) : SX := fun ρ S => match b ρ S with
  | some (.ok (.exc _ _), _) => none
  | r => r
theorem rs_thru {fr : Bool} {body : List Stmt} {h0 : ExceptHandler} {hs : List ExceptHandler} {b : SX} (h : RSs T fr X.nox WF body b) : RS T fr X W (.Try body (h0 :: hs) [] [] pos) (sThru b) := by
  obtain ⟨t, p, f⟩ := h
  refine ⟨_, ps_try_thru0 p, fun σ ρ F μ S H D s hE g => f σ ρ F μ S H D s hE ?_⟩
  unfold sThru at g
  match hb : b ρ S with
  | none => rw [hb] at g; exact g
  | some (.error y, S') => rw [hb] at g; exact g
  | some (.ok (.nx ρ'), S') => rw [hb] at g; exact g
  | some (.ok (.brk ρ'), S') => rw [hb] at g; exact g
  | some (.ok (.ct ρ'), S') => rw [hb] at g; exact g
  | some (.ok (.ret d), S') => rw [hb] at g; exact g
  | some (.ok (.exc y ρ'), S') => rw [hb] at g; exact g.elim
theorem pass_nox : ∀ σ, PassesAt (L2.CX X.nox.prog X.nox.w) X.nox σ fun cls d H => WF cls d σ H := fun σ pins H s e s' I h => by
  obtain ⟨_, _, _, _, _, _, _, _, _, _, _, _, z⟩ := h
  exact z.elim
/-! ### sorted(set(xs)) -/
def uniqI : List Int → List Int
  | x :: y :: r => if x = y then uniqI (y :: r) else x :: uniqI (y :: r)
  | l => l
theorem mem_uniqI : ∀ {l : List Int} {k : Int}, k ∈ uniqI l ↔ k ∈ l
  | [], _ => Iff.rfl
  | [x], _ => Iff.rfl
  | x :: y :: r, k => by
    unfold uniqI
    split
    · rename_i e
      rw [mem_uniqI (l := y :: r), e]
      constructor
      · exact List.mem_cons_of_mem _
      · intro h
        rcases List.mem_cons.mp h with h | h
        · rw [h]; exact List.mem_cons_self
        · exact h
    · rw [List.mem_cons, List.mem_cons, mem_uniqI (l := y :: r)]
theorem uniqI_lt : ∀ {l : List Int}, l.Pairwise (· ≤ ·) → (uniqI l).Pairwise (· < ·)
  | [], _ => .nil
  | [x], _ => by simp [uniqI]
  | x :: y :: r, h => by
    rw [List.pairwise_cons] at h
    unfold uniqI
    split
    · exact uniqI_lt h.2
    · rename_i e
      refine List.pairwise_cons.mpr ⟨fun z hz => ?_, uniqI_lt h.2⟩
      have hz := mem_uniqI.mp hz
      have h1 := h.1 y List.mem_cons_self
      have h2 : y ≤ z := by
        rcases List.mem_cons.mp hz with e2 | hz
        · omega
        · exact (List.pairwise_cons.mp h.2).1 z hz
      omega
theorem lt_unique : ∀ {a b : List Int}, a.Pairwise (· < ·) → b.Pairwise (· < ·) → (∀ k, k ∈ a ↔ k ∈ b) → a = b := by
  intro a b ha hb h
  have na : a.Nodup := ha.imp fun h e => absurd (e ▸ h) (Int.lt_irrefl _)
  have nb : b.Nodup := hb.imp fun h e => absurd (e ▸ h) (Int.lt_irrefl _)
  exact sorted_unique ((List.perm_ext_iff_of_nodup na nb).mpr h) (ha.imp Int.le_of_lt) (hb.imp Int.le_of_lt)
end
end PF
set_option Elab.async false
set_option linter.all false
set_option maxRecDepth 100000
set_option maxHeartbeats 4000000
/-! PFY: instances of the program's classes: made, their fields, properties, methods. -/
namespace PF
open PySem L2 Evl PySem.Spec PyProof.Rows
/-! ### fields -/
def decF : List D → Option (List Str × List D)
  | [] => some ([], [])
  | .str f :: d :: r => (decF r).map fun p => (f :: p.1, d :: p.2)
  | _ => none
theorem decF_enc : ∀ {ns : List Str} {es : List D}, ns.length = es.length → decF (encF ns es) = some (ns, es)
  | [], [], _ => rfl
  | n :: ns, d :: ds, h => by
    simp only [encF, decF]
    rw [decF_enc (ns := ns) (es := ds) (by simpa using h)]; rfl
/-- the fields of an instance of c -/
def fieldsOf (c : Str) : D → Store → Option (List Str × List D)
  | .ins c' ns ds, _ => if c' = c then some (ns, ds) else none
  | .obj c' n, S => if c' = c then (match S[n]? with
    | some es => decF es
    | none => none) else none
  | _, _ => none
def lkF (f : Str) : List Str → List D → Option D
  | n :: ns, d :: ds => if f = n then some d else lkF f ns ds
  | _, _ => none
section
variable {K : PySem.W.Frag} {T : List (Addr × Str)} {F H : Hp} {μ : List MA} {S : Store} {d : D} {v : V}
theorem lk_zip {f : Str} : ∀ {ns : List Str} {ds : List D} {vs : List V} {y : D}, Reps K F μ ds vs → lkF f ns ds = some y → ∃ u, (ns.zip vs).lookup f = some u ∧ Rep K F μ y u
  | [], _, _, _, _, h => by simp [lkF] at h
  | _ :: _, [], _, _, .nil, h => by simp [lkF] at h
  | n :: ns, d :: ds, v :: vs, y, .cons r rs, h => by
    simp only [lkF] at h
    by_cases e : f = n
    · rw [if_pos e] at h; cases h
      refine ⟨v, ?_, r⟩
      rw [List.zip_cons_cons, List.lookup_cons, e, beq_self_eq_true]
    · rw [if_neg e] at h
      obtain ⟨u, h1, h2⟩ := lk_zip rs h
      refine ⟨u, ?_, h2⟩
      rw [List.zip_cons_cons, List.lookup_cons, beq_false_of_ne e]
      exact h1
theorem lk_none {f : Str} : ∀ {ns : List Str} {ds : List D} {vs : List V}, Reps K F μ ds vs → ns.length = ds.length → lkF f ns ds = none → (ns.zip vs).lookup f = none
  | [], [], _, .nil, _, h => rfl
  | n :: ns, d :: ds, v :: vs, .cons r rs, hl, h => by
    simp only [lkF] at h
    by_cases e : f = n
    · rw [if_pos e] at h; cases h
    · rw [if_neg e] at h
      rw [List.zip_cons_cons, List.lookup_cons, beq_false_of_ne e]
      exact lk_none rs (by simpa using hl) h
theorem fields_ok {c : Str} {ns : List Str} {ds : List D} (s : SR K T F μ S H) (r : Rep K F μ d v) (h : fieldsOf c d S = some (ns, ds)) :
    ∃ a dx vs, v = .ref a ∧ H a = some (.ins (He.ga K c) dx (ns.zip vs)) ∧ Reps K F μ ds vs ∧ ns.length = ds.length := by
  cases r with
  | ins h1 h2 h3 =>
    simp only [fieldsOf] at h
    split at h
    · rename_i e
      cases h
      subst e
      exact ⟨_, _, _, rfl, s.ex _ _ h1, h3, h2⟩
    · cases h
  | obj hm =>
    simp only [fieldsOf] at h
    split at h
    · rename_i e
      subst e
      obtain ⟨es, h1, h2, h3, hc⟩ := s.at hm
      rw [h1] at h
      cases hc with
      | ins k1 k2 k3 =>
        dsimp only at h
        rw [decF_enc k1] at h
        cases h
        exact ⟨_, _, _, rfl, k2, k3, k1⟩
    · cases h
  | _ => simp [fieldsOf] at h
end
/-- what the written part says of a class -/
structure ClsI (K : PySem.W.Frag) (c : Str) : Prop where
  cl : Cls K (He.ga K c)
  ha : PySem.W.findIn K (.ref (He.ga K c)) "__class__" = some (some (.builtin "object.__class__"))
  hn : PySem.W.specialIn K (.builtin "object.__class__") "__get__" = some (some (.builtin "getset_descriptor.__get__"))
  ht : PySem.W.takesIn K (.builtin "object.__class__") = some true
  hm : PySem.W.mroIn K (He.ga K c) (.type "object") = some true
  kp : PySem.W.keepIn K (.ref (He.ga K c)) = true
section
variable {X : Cx} {T : List (Addr × Str)} {W : WX} {k : Nat} {c m f q : Str} {e o : Expr} {es : List Expr} {a : EX} {ca : AX} {pos apos : Pos}
/-- o.f -/
def cFld (c f : Str) (a : EX) : EX := fun ρ S => bindO (a ρ S) fun d S => match fieldsOf c d S with
  | some (ns, ds) => (match lkF f ns ds with
    | some y => some (.ok y, S)
    | none => none)
  | none => none
theorem re_fld (hc : ClsI X.K c) (hn : NoAttr X.K (He.ga X.K c) f) (ha : RE T false X W e a) (hb : attributeBase e f X.env (eval e X.env) = eval e X.env := by rfl) : RE T false X W (.Attribute e f pos) (cFld c f a) := by
  obtain ⟨t, pe, rd⟩ := ha
  refine ⟨_, pe_fld pe hb, fun σ ρ F μ S H Q s hE g => ?_⟩
  refine rd σ ρ F μ S H _ s hE (GP.seq g fun d F1 μ1 H1 S1 e1 p1 s1 g1 v rv => ?_)
  split at g1
  · rename_i ns ds hf
    split at g1
    · rename_i y hy
      obtain ⟨x, dx, vs, rfl, h1, h2, h3⟩ := fields_ok s1 rv hf
      obtain ⟨u, h4, h5⟩ := lk_zip h2 hy
      exact ⟨x, _, dx, _, u, rfl, h1, hc.cl, hn, h4, gp_val g1 s1 h5⟩
    · exact g1.elim
  · exact g1.elim
/-- o.f = e -/
def putN (f : Str) (y : D) : List Str → List D → List Str × List D
  | n :: ns, d :: ds => if n = f then (n :: ns, y :: ds) else let p := putN f y ns ds; (n :: p.1, d :: p.2)
  | _, _ => ([f], [y])
def sFldS (c f : Str) (o a : EX) : SX := fun ρ S => stm ρ (a ρ S) fun y S => stm ρ (o ρ S) fun x S => match x with
  | .obj c' n => if c' = c ∧ y.pure = true then (match S[n]? with
    | some es => (match decF es with
      | some (ns, ds) => if ns.length < 900 then some (.ok (.nx ρ), S.set n (encF (putN f y ns ds).1 (putN f y ns ds).2)) else none
      | none => none)
    | none => none) else none
  | _ => none
theorem putN_ok {K : PySem.W.Frag} {F : Hp} {μ : List MA} {f : Str} {y : D} {u : V} (ry : Rep K F μ y u) : ∀ {ns : List Str} {ds : List D} {vs : List V}, Reps K F μ ds vs → ns.length = ds.length →
    ∃ vs', putF f u (ns.zip vs) = (putN f y ns ds).1.zip vs' ∧ Reps K F μ (putN f y ns ds).2 vs' ∧ (putN f y ns ds).1.length = (putN f y ns ds).2.length
  | [], [], _, .nil, _ => ⟨[u], rfl, .cons ry .nil, rfl⟩
  | n :: ns, d :: ds, v :: vs, .cons r rs, hl => by
    simp only [putN, List.zip_cons_cons, putF]
    by_cases e : n = f
    · rw [if_pos e, if_pos e]
      exact ⟨u :: vs, by rw [List.zip_cons_cons], .cons ry rs, by simpa using hl⟩
    · rw [if_neg e, if_neg e]
      obtain ⟨vs', h1, h2, h3⟩ := putN_ok ry rs (by simpa using hl)
      exact ⟨v :: vs', by rw [h1, List.zip_cons_cons], .cons r h2, by simpa using h3⟩
theorem putN_pures {f : Str} {y : D} (hy : y.pure = true) : ∀ {ns : List Str} {ds : List D}, D.pures ds = true → D.pures (putN f y ns ds).2 = true
  | [], _, _ => by simp [putN, D.pures, hy]
  | _ :: _, [], _ => by simp [putN, D.pures, hy]
  | n :: ns, d :: ds, h => by
    simp only [D.pures, Bool.and_eq_true] at h
    simp only [putN]
    split
    · simp [D.pures, hy, h.2]
    · simp [D.pures, h.1, putN_pures hy h.2]
theorem rs_fld {fr : Bool} {cy co : EX} {pos' : Pos} (hc : ClsI X.K c) (hn : NoAttr X.K (He.ga X.K c) f) (ho : RE T false X W o co) (hy : RE T false X W e cy) (hs : swapsWith e (some (.Attribute o f pos')) pos.line X.env = pure false := by rfl) :
    RS T fr X W (.Assign [.Attribute o f pos'] e pos) (sFldS c f co cy) := by
  obtain ⟨to, po, fo⟩ := ho
  obtain ⟨te, pe, fe⟩ := hy
  refine ⟨_, ps_fld po pe hs, fun σ ρ F μ S H D s hE g => ?_⟩
  refine fe σ ρ F μ S H _ s hE (GP.stm g hE fun y F1 μ1 H1 S1 e1 p1 s1 g1 u ru => ?_)
  have hE1 := hE.mono e1 p1
  refine fo σ ρ F1 μ1 S1 H1 _ s1 hE1 (GP.stm g1 hE1 fun x F2 μ2 H2 S2 e2 p2 s2 g2 v rv => ?_)
  split at g2
  · rename_i c' n
    split at g2
    · rename_i hcp
      obtain ⟨rfl, hp⟩ := hcp
      cases rv with
      | obj hm =>
        obtain ⟨es, h1, h2, h3, hcell⟩ := s2.at hm
        rw [h1] at g2
        cases hcell with
        | ins k1 k2 k3 =>
          dsimp only at g2
          rw [decF_enc k1] at g2
          dsimp only at g2
          split at g2
          · rename_i hlen
            obtain ⟨vs', q1, q2, q3⟩ := putN_ok (f := f) (Rep.mono e2 p2 ru) k3 k1
            refine ⟨_, _, _, _, rfl, k2, hc.cl, hn, ?_, ?_⟩
            · rw [List.length_zip]; omega
            rw [q1]
            rw [pures_encF k1] at h3
            exact GP.here (er := NoEr) g2 (s2.putM hm (.ins q3 upd_same q2) (by rw [pures_encF q3]; exact putN_pures hp h3)) σ (hE1.mono e2 p2)
          · exact g2.elim
    · exact g2.elim
  · exact g2.elim

/-! ### properties -/
/-- the getter of a property -/
structure PropG (P : Program) (w : World) (K : PySem.W.Frag) (mg : Str → Option Value) (base : Heap) (T : List (Addr × Str)) (k : Nat) (c f q : Str) (params : Arguments) (body : List Stmt) (scope : Scope) (ps : List Str) (fr : Bool) (o : OpB) : Prop where
  ex : ∃ p g fd, PropOf K (He.ga K c) f p g ∧ FunD K f q params body scope [] [] g fd ∧ FnG P w K mg base k g fd ps (spOf K mg T fr ps.length o)
def PosnQ (params : Arguments) (body : List Stmt) (scope : Scope) (x q : Str) (ps : List Str) : Prop := ∀ (kV doc pm : Value) (an : Option Addr) (cdv ct : Value) (us : List Value), us.length = ps.length → bindArgs (PySem.W.fnOf x q params body scope .none kV doc pm an cdv ct) ⟨us, []⟩ = pure (ps.zip us)
def KeynQ (params : Arguments) (body : List Stmt) (scope : Scope) (x q : Str) (ps ks : List Str) (n : Nat) (g : {α : Type} → List α → List α → List α) : Prop := ∀ (kV doc pm : Value) (an : Option Addr) (cdv ct : Value) (us ws : List Value), us.length = n → ws.length = ks.length →
  bindArgs (PySem.W.fnOf x q params body scope .none kV doc pm an cdv ct) ⟨us, ks.zip ws⟩ = pure (ps.zip (g us ws))
def cProp (c : Str) (o : OpB) (a : EX) : EX := fun ρ S => bindO (a ρ S) fun d S => match fieldsOf c d S with
  | some _ => noX (o [d] S)
  | none => none
theorem re_prop {params : Arguments} {body : List Stmt} {scope : Scope} {s1 : Str} {fr : Bool} {o : OpB} (hc : ClsI X.K c) (G : PropG X.prog X.w X.K X.mg X.base T k c f q params body scope [s1] fr o) (hp : PosnQ params body scope f q [s1]) (hr : Room (k + 1) X.A) (hgu : X.A.guards = some [])
    (ha : RE T false X W e a) (hab : attributeBase e f X.env (eval e X.env) = eval e X.env := by rfl) : RE T fr X W (.Attribute e f pos) (cProp c o a) := by
  obtain ⟨p, g, fd, PO, FD, FG⟩ := G.ex
  obtain ⟨t, pe, rd⟩ := ha
  refine ⟨fun σ H Q => t σ H fun x H1 => ∃ b dx fs, x = .ref b ∧ H1 b = some (.ins (He.ga X.K c) dx fs) ∧ spOf X.K X.mg T fr 1 o [.ref b] H1 Q (fun _ _ _ => False), ⟨fun pins s σ H Q I h => ?_⟩, fun σ ρ F μ S H Q s hE gg => ?_⟩
  · refine attr_of hab (thn (pe.run pins s σ H _ I h) fun u s2 ⟨x, H1, I1, rx, b, dx, fs, ex, ea, h⟩ => ?_)
    subst ex
    obtain rfl : u = Value.ref b := rx
    obtain ⟨mA, O, _, _, _, _⟩ := ins_get I1.hok ea
    obtain ⟨od, J, _⟩ := O.look
    obtain ⟨rest, hrec⟩ := PO.rec_
    have I2 := I1.tok (s2.toks + 1)
    have hcl : (PySem.W.clsIn X.K (He.ga X.K c)).isSome = true := by
      obtain ⟨cd, hc, _⟩ := PySem.W.any_some hc.cl.hd
      rw [hc]
      rfl
    refine PySem.W.get_bind I1.kIn J (PySem.W.plainGet_of (hc.cl.get f)).1 (PySem.W.findObj_data hcl PO.at_ PO.get PO.tak) (PySem.W.plainGet_of (hc.cl.get f)).2 (wpAny_call (PySem.W.prop_get (s := { s2 with toks := s2.toks + 1 }) I1.kIn hrec ?_))
    obtain ⟨kV, doc, pm, an, cdv, ct, rfl⟩ := FunD.to FD
    refine codeAny_mono (FG.run X.A.in1 X.stack { s2 with toks := s2.toks + 1 } H1 ⟨[.ref b], []⟩ [.ref b] [.ref b] Q (fun _ _ _ => False) hr.in1 hgu I2.env0.in1 (.of_eq (hp _ _ _ _ _ _ [.ref b] rfl)) (.cons rfl .nil) h) fun r s' hq => ?_
    cases r with
    | error er =>
      obtain ⟨_, _, _, _, _, _, _, _, _, _, _, _, z⟩ := hq
      exact z.elim
    | ok fl =>
      cases fl with
      | ret u =>
        obtain ⟨v, H', I3, rv, q3⟩ := I2.after hq
        show wpAny _ _ (handedOut u) _ _ _
        rw [PySem.W.handedOut_of (handed_of rv)]
        exact wpAny_pure ⟨v, H', I3, rv, q3⟩
      | next => exact False.elim hq
      | brk => exact False.elim hq
      | cont => exact False.elim hq
  · refine rd σ ρ F μ S H _ s hE (GP.seq gg fun d F1 μ1 H1 S1 e1 p1 s1 g1 v rv => ?_)
    split at g1
    · rename_i pr hf
      obtain ⟨ns, ds⟩ := pr
      obtain ⟨b, dx, vs, rfl, h1, h2, h3⟩ := fields_ok s1 rv hf
      exact ⟨b, dx, _, rfl, h1, F1, μ1, S1, [d], s1, .cons rv .nil, rfl, GP.er (GP.noX (er' := NoEr) g1)⟩
    · exact g1.elim

/-! ### methods -/
structure MethG (P : Program) (w : World) (K : PySem.W.Frag) (mg : Str → Option Value) (base : Heap) (T : List (Addr × Str)) (k : Nat) (c m q : Str) (params : Arguments) (body : List Stmt) (scope : Scope) (ps : List Str) (fr : Bool) (o : OpB) : Prop where
  ex : ∃ g fd, Meth K (He.ga K c) m g ∧ FunD K m q params body scope [] [] g fd ∧ FnG P w K mg base k g fd ps (spOf K mg T fr ps.length o)
def cMeth (c m : Str) (n : Nat) (o : OpB) (a : EX) (r : AX) : EX := fun ρ S => bindO (a ρ S) fun d S => match fieldsOf c d S with
  | some (ns, ds) => (match lkF m ns ds with
    | some _ => none
    | none => bindO (r ρ S) fun xs S => if xs.length + 1 = n then o (d :: xs) S else none)
  | none => none
theorem re_meth {params : Arguments} {body : List Stmt} {scope : Scope} {ps : List Str} {fr : Bool} {ob : OpB} {pl : Sem Bool} (hc : ClsI X.K c) (G : MethG X.prog X.w X.K X.mg X.base T k c m q params body scope ps fr ob) (hp : PosnQ params body scope m q ps) (hr : Room k X.A) (hgu : X.A.guards = some [])
    (hx : ∀ σ, PassesAt (L2.CX X.prog X.w) X σ fun cls d H => W cls d σ H) (ho : RE T false X W o a) (ha : RA T X W (e :: es) ca)
    (hst : starEach (e :: es) X.env = (false, eval e X.env) :: starEach es X.env := by rfl) (hpl : (backTo pos (starEach es X.env)).any (·.1) = false := by rfl)
    (ht : eval (.Call (.Attribute o m apos) (e :: es) [] pos) X.env = (do
      let ov ← eval o X.env
      standAt apos.atName
      let (f, first) ← holding [ov] (getMethod ov m pl)
      callWith pos f first (backTo pos (starEach (e :: es) X.env)) (backToKw pos (keywordEach [] X.env))) := by rfl) :
    RE T fr X W (.Call (.Attribute o m apos) (e :: es) [] pos) (cMeth c m ps.length ob a ca) := by
  obtain ⟨g, fd, M, FD, FG⟩ := G.ex
  obtain ⟨t, pe, rd⟩ := ho
  obtain ⟨t2, pa, rd2⟩ := ha
  refine ⟨fun σ H Q => t σ H fun x H1 => ∃ b dx fs, x = .ref b ∧ H1 b = some (.ins (He.ga X.K c) dx fs) ∧ fs.lookup m = none ∧ t2 σ H1 fun vs H2 => spOf X.K X.mg T fr ps.length ob (.ref b :: vs) H2 Q (fun cls d H => W cls d σ H), ⟨fun pins s σ H Q I h => ?_⟩, fun σ ρ F μ S H Q s hE gg => ?_⟩
  · refine PySem.W.methodCall_KW (pl := pl) (thn (pe.run pins s σ H _ I h) fun u s1 ⟨x, H1, I1, rx, b, dx, fs, ex, ea, l, q⟩ => ?_) ht
    subst ex
    obtain rfl : u = Value.ref b := rx
    refine getmeth_ok I1 ea hc.cl M l ?_
    refine PySem.W.callWith_K (first := [.ref b]) (h₀ := X.base) I.ok.mod.kin M.kp (thn (pa.run pos pins s1 σ H1 _ I1 q) fun us s2 ⟨vs, H2, I2, r, q2⟩ => ⟨I2.kIn, ?_⟩) hst hpl
    obtain ⟨kV, doc, pm, an, cdv, ct, rfl⟩ := FunD.to FD
    have hl : (Value.ref b :: us).length = ps.length := by
      obtain ⟨_, _, _, _, _, _, hl, _⟩ := id q2
      rw [← hl, List.length_cons, List.length_cons, r.length]
    exact run_g (us := .ref b :: us) (vs := .ref b :: vs) FG hr hgu (.of_eq (hp _ _ _ _ _ _ _ hl)) (hx σ) I2 (.cons rfl r) q2
  · refine rd σ ρ F μ S H _ s hE (GP.seq gg fun d F1 μ1 H1 S1 e1 p1 s1 g1 v rv => ?_)
    split at g1
    · rename_i ns ds hf
      split at g1
      · exact g1.elim
      · rename_i hlk
        obtain ⟨b, dx, vs, rfl, h1, h2, h3⟩ := fields_ok s1 rv hf
        refine ⟨b, dx, _, rfl, h1, lk_none h2 h3 hlk, ?_⟩
        refine rd2 σ ρ F1 μ1 S1 H1 _ s1 (hE.mono e1 p1) (GP.seq g1 fun xs F2 μ2 H2 S2 e2 p2 s2 g2 us rs => ?_)
        split at g2
        · rename_i hn
          exact ⟨F2, μ2, S2, d :: xs, s2, .cons (Rep.mono e2 p2 rv) rs, by rw [List.length_cons, ← rs.length]; exact hn, g2⟩
        · exact g2.elim
    · exact g1.elim
end
end PF
set_option Elab.async false
set_option linter.all false
set_option maxRecDepth 100000
set_option maxHeartbeats 4000000
/-! PFY2: instances made; isinstance of a class of the program. -/
namespace PF
open PySem L2 Evl PySem.Spec PyProof.Rows
/-- what a constructor gives: the instance, which never changes behind it -/
def madeI (c : Str) (n0 : Nat) (r : Out D) : Out D := match r with
  | some (.ok .non, S2) => (match S2[n0]? with
    | some es => (match decF es with
      | some (ns, ds) => some (.ok (.ins c ns ds), S2.take n0)
      | none => none)
    | none => none)
  | some (.error x, S2) => if D.pures (x.fields.map (·.2)) = true then some (.error x, S2.take n0) else none
  | _ => none
/-- .. or a thing of the store, which may change -/
def madeM (c : Str) (n0 : Nat) (r : Out D) : Out D := match r with
  | some (.ok .non, S2) => some (.ok (.obj c n0), S2)
  | some (.error x, S2) => if D.pures (x.fields.map (·.2)) = true then some (.error x, S2.take n0) else none
  | _ => none
def cMake (mk : Str → Nat → Out D → Out D) (c : Str) (n : Nat) (o : OpB) (r : AX) : EX := fun ρ S => bindO (r ρ S) fun ds S => if ds.length + 1 = n then mk c S.length (o (.obj c S.length :: ds) (S ++ [[]])) else none
def cMakeK (mk : Str → Nat → Out D → Out D) (c : Str) (m : Nat) (g : List D → List D → List D) (o : OpB) (rk : AX) : EX := fun ρ S => bindO (rk ρ S) fun es S => if es.length = m then mk c S.length (o (g [.obj c S.length] es) (S ++ [[]])) else none
structure MakeG (P : Program) (w : World) (K : PySem.W.Frag) (mg : Str → Option Value) (base : Heap) (T : List (Addr × Str)) (k : Nat) (c q : Str) (params : Arguments) (body : List Stmt) (scope : Scope) (ps : List Str) (o : OpB) : Prop where
  ex : ∃ f fd, Mk K (He.ga K c) f ∧ mg c = some (.ref (He.ga K c)) ∧ FunD K "__init__" q params body scope [] [] f fd ∧ FnG P w K mg base k f fd ps (spOf K mg T false ps.length o)
section
variable {K : PySem.W.Frag} {mg : Str → Option Value} {T : List (Addr × Str)} {F H : Hp} {μ : List MA} {S : Store} {r : Out D} {Q : VK} {E : XK} {c : Str} {x : Addr}
theorem cut_pre {F' H' : Hp} {μ' : List MA} {S' : Store} (s0 : SR K T F μ S H) (p : μ <+: μ') (s' : SR K T F' μ' S' H') : SR K T F' μ (S'.take S.length) H' := by
  have := s'.cut S.length
  rwa [take_pre s0 p] at this
theorem er_cut (s0 : SR K T F μ S H) {y : XV} {S2 : Store} {μ2 : List MA} (q : μ <+: μ2) (g : GP K T F μ (if D.pures (y.fields.map (·.2)) = true then some (.error y, S2.take S.length) else none : Out D) (OkV K false Q) (ErW K mg E)) :
    GP K T F μ2 (some (.error y, S2) : Out D) (OkV K false fun v H3 => v = .non ∧ Q (.ref x) H3) (ErW K mg E) := by
  split at g
  · rename_i hp
    intro F' μ' H' e p s' cls dd hx
    obtain ⟨C, h1, h2, h3⟩ := hx
    exact g F' μ H' e (List.prefix_refl _) (cut_pre s0 (q.trans p) s') cls dd ⟨C, h1, h2, h3.imp id fun ⟨d, vs, a1, a2, a3⟩ => ⟨d, vs, a1, a2.free hp, a3⟩⟩
  · exact g.elim
theorem new_get (s0 : SR K T F μ S H) {m : MA} {μ' : List MA} (p : (μ ++ [m]) <+: μ') : μ'[S.length]? = some m := pre_get p (by rw [← s0.len, List.getElem?_append_right (Nat.le_refl _)]; simp)
theorem madeI_gp (s0 : SR K T F μ S H) (g : GP K T F μ (madeI c S.length r) (OkV K false Q) (ErW K mg E)) :
    GP K T F (μ ++ [⟨x, .ins c⟩]) r (OkV K false fun v H3 => v = .non ∧ Q (.ref x) H3) (ErW K mg E) := by
  match r, g with
  | none, g => exact g.elim
  | some (.error y, S2), g => exact er_cut s0 (List.prefix_append _ _) g
  | some (.ok d, S2), g =>
    intro F' μ' H' e q s' v rv
    have pq : μ <+: μ' := (List.prefix_append _ _).trans q
    cases d with
    | non =>
      cases rv
      have hm := new_get s0 q
      obtain ⟨es, h1, h2, h3, hc⟩ := s'.at hm
      simp only [madeI, h1] at g
      have na : Out_ x μ := out_new s0 s' pq (Nat.lt_irrefl _) hm
      cases hc with
      | ins k1 k2 k3 =>
        rw [decF_enc k1] at g
        rw [pures_encF k1] at h3
        exact ⟨rfl, g (upd F' x _) μ H' (e.trans (Ex.new h2)) (List.prefix_refl _) ((cut_pre s0 pq s').freezeO h2 na k2 (.inr (.inl ⟨_, _, _, rfl⟩))) _ (.ins upd_same k1 ((k3.free h3).mono (Ex.new h2) (List.prefix_refl _)))⟩
    | _ => exact g.elim
theorem madeM_gp (s0 : SR K T F μ S H) (g : GP K T F μ (madeM c S.length r) (OkV K false Q) (ErW K mg E)) :
    GP K T F (μ ++ [⟨x, .ins c⟩]) r (OkV K false fun v H3 => v = .non ∧ Q (.ref x) H3) (ErW K mg E) := by
  match r, g with
  | none, g => exact g.elim
  | some (.error y, S2), g => exact er_cut s0 (List.prefix_append _ _) g
  | some (.ok d, S2), g =>
    intro F' μ' H' e q s' v rv
    have pq : μ <+: μ' := (List.prefix_append _ _).trans q
    cases d with
    | non =>
      cases rv
      exact ⟨rfl, g F' μ' H' e pq s' _ (.obj (new_get s0 q))⟩
    | _ => exact g.elim
/-- the two ways a constructor's result is kept -/
def MkOk (mk : Str → Nat → Out D → Out D) : Prop := ∀ {K : PySem.W.Frag} {mg : Str → Option Value} {T : List (Addr × Str)} {F H : Hp} {μ : List MA} {S : Store} {r : Out D} {Q : VK} {E : XK} {c : Str} {x : Addr}, SR K T F μ S H →
  GP K T F μ (mk c S.length r) (OkV K false Q) (ErW K mg E) → GP K T F (μ ++ [⟨x, .ins c⟩]) r (OkV K false fun v H3 => v = .non ∧ Q (.ref x) H3) (ErW K mg E)
theorem madeI_ok : MkOk madeI := fun s g => madeI_gp s g
theorem madeM_ok : MkOk madeM := fun s g => madeM_gp s g
theorem sr_made (s0 : SR K T F μ S H) {dx : Addr} (hx : H x = none) (hd : H dx = none) (ne : dx ≠ x) :
    SR K T F (μ ++ [⟨x, .ins c⟩]) (S ++ [[]]) (upd (upd H dx (.own x)) x (.ins (He.ga K c) dx [])) := by
  have s1 := s0.lay (o := .own x) hd
  have hx1 : upd H dx (.own x) x = none := by rw [upd_ne (Ne.symm ne)]; exact hx
  have s2 := s1.lay (o := .ins (He.ga K c) dx []) hx1
  exact s2.allocM (m := ⟨x, .ins c⟩) (ds := encF [] []) (fresh_back s0.ex hx) (s0.notin hx) (.ins (ns := []) (es := []) (vs := []) rfl upd_same .nil) rfl
end
section
variable {X : Cx} {T : List (Addr × Str)} {W : WX} {k : Nat} {c q : Str} {e : Expr} {es : List Expr} {kws : List Keyword} {ca cs : AX} {p pos : Pos}
theorem run_makeG {C f : Addr} {fd : FuncData} {ps : List Str} {sp : Sp} {kw : List (Str × Value)} {us : List Value} {ws : Addr → List Value} {vs : Addr → List V} {pins : List (Addr × Obj)} {σ : L2.St} {H : Hp} {s : Shared} {Q : VK} {E : XK}
    (M : Mk X.K C f) (F : FnG X.prog X.w X.K X.mg X.base k f fd ps sp) (hr : Room (k + 1) X.A) (hgu : X.A.guards = some []) (hb : ∀ (s' : Shared) (x : Addr), BindsTo s' fd ⟨.ref x :: us, kw⟩ (ps.zip (ws x))) (hx : PassesAt (L2.CX X.prog X.w) X σ E)
    (I : Inv X pins σ H s) (r : ∀ x, Vals (vs x) (ws x)) (h : ∀ x dx, H x = none → H dx = none → dx ≠ x → sp (vs x) (upd (upd H dx (.own x)) x (.ins C dx [])) (fun v H2 => v = .non ∧ Q (.ref x) H2) E) :
    wpAny (model X.prog X.w) X.A (call (.ref C) us kw) (EP X pins σ Q) X.xe s := by
  have hq := h (s.heap.objs.size + 1) s.heap.objs.size (I.hok.fresh (Nat.le_succ _)) (I.hok.fresh (Nat.le_refl _)) (Nat.ne_of_lt (Nat.lt_succ_self _))
  have I2 := Inv.made (C := C) I
  refine wpAny_call (make_map (f := f) I.kIn M.makes M.init (beq_iff_eq.mp M.fn) (codeAny_mono (F.run _ X.stack _ _ ⟨Value.ref (s.heap.objs.size + 1) :: us, kw⟩ (ws (s.heap.objs.size + 1)) _ _ E (hr.make C us kw) ?_
    (I2.env0.make C us kw) (hb _ _) (r _) hq) fun r s' hq' => ?_))
  · show (X.A.under (.builtin "type.__call__" ⟨.ref C :: us, kw⟩)).guards = some []
    simp [Around.under, Code.guards, Code.isGuard, guardIds, pushGuards, hgu]
  cases r with
  | error e => exact hx pins _ _ e s' I2 hq'
  | ok fl =>
    cases fl with
    | ret u =>
      obtain ⟨v, H', I3, rv, ev, q3⟩ := I2.after hq'
      subst ev
      exact ⟨rv, ⟨V.ref (s.heap.objs.size + 1), H', I3, rfl, q3⟩⟩
    | next => exact False.elim hq'
    | brk => exact False.elim hq'
    | cont => exact False.elim hq'
theorem re_make {params : Arguments} {body : List Stmt} {scope : Scope} {ps : List Str} {o : OpB} {mk : Str → Nat → Out D → Out D} (hmk : MkOk mk) (hc : ClsI X.K c) (G : MakeG X.prog X.w X.K X.mg X.base T k c q params body scope ps o) (hp : PosnQ params body scope "__init__" q ps) (hr : Room (k + 1) X.A) (hgu : X.A.guards = some [])
    (hx : ∀ σ, PassesAt (L2.CX X.prog X.w) X σ fun cls d H => W cls d σ H) (ha : RA T X W (e :: es) ca) (hg : Gl X c := by rfl) (hdb : (c == ("__debug__" : Str)) = false := by decide)
    (he : starEach (e :: es) X.env = (false, eval e X.env) :: starEach es X.env := by rfl) (hpl : (backTo pos (starEach es X.env)).any (·.1) = false := by rfl) :
    RE T false X W (.Call (.Name c p) (e :: es) [] pos) (cMake mk c ps.length o ca) := by
  obtain ⟨f, fd, M, hm, FD, FG⟩ := G.ex
  obtain ⟨t, pa, rd⟩ := ha
  refine ⟨fun σ H Q => t σ H fun vs H1 => vs.length + 1 = ps.length ∧ ∀ x dx, H1 x = none → H1 dx = none → dx ≠ x → spOf X.K X.mg T false ps.length o (.ref x :: vs) (upd (upd H1 dx (.own x)) x (.ins (He.ga X.K c) dx [])) (fun v H2 => v = .non ∧ Q (.ref x) H2) (fun cls d H => W cls d σ H), ⟨fun pins s σ H Q I h => ?_⟩, fun σ ρ F μ S H Q s hE g => ?_⟩
  · refine wpAny_Call_Name_kw (ld_glob I hg hm ?_ hdb)
    refine PySem.W.callWith_K (h₀ := X.base) I.ok.mod.kin M.kp (thn (pa.run pos pins s σ H _ I h) fun us s1 ⟨vs, H1, I1, r, hl, q⟩ => ⟨I1.kIn, ?_⟩) he hpl
    obtain ⟨kV, doc, pm, an, cdv, ct, rfl⟩ := FunD.to FD
    exact run_makeG (ws := fun x => .ref x :: us) (vs := fun x => .ref x :: vs) M FG hr hgu (us := us) (fun s' x => .of_eq (hp _ _ _ _ _ _ (.ref x :: us) (by rw [List.length_cons, ← r.length]; exact hl))) (hx σ) I1 (fun x => .cons rfl r) q
  · refine rd σ ρ F μ S H _ s hE (GP.seq g fun ds F1 μ1 H1 S1 e1 p1 s1 g1 vs rs => ?_)
    split at g1
    · rename_i hn
      refine ⟨by rw [← rs.length]; exact hn, fun x dx nx ndx ne => ?_⟩
      exact ⟨F1, μ1 ++ [⟨x, .ins c⟩], S1 ++ [[]], _, sr_made s1 nx ndx ne, .cons (.obj (new_get s1 (List.prefix_refl _))) (rs.mono (Ex.refl _) (List.prefix_append _ _)), by rw [List.length_cons, ← rs.length]; exact hn, hmk s1 g1⟩
    · exact g1.elim
theorem re_makeK {params : Arguments} {body : List Stmt} {scope : Scope} {ps ks : List Str} {o : OpB} {mk : Str → Nat → Out D → Out D} {g : {α : Type} → List α → List α → List α} (hmk : MkOk mk) (hc : ClsI X.K c) (G : MakeG X.prog X.w X.K X.mg X.base T k c q params body scope ps o) (hp : KeynQ params body scope "__init__" q ps ks 1 g)
    (hgr : ∀ {K F μ} {ds es : List D} {vs us : List V}, ds.length = 1 → es.length = ks.length → Reps K F μ ds vs → Reps K F μ es us → Reps K F μ (g ds es) (g vs us))
    (hgv : ∀ {vs us : List V} {ws zs : List Value}, vs.length = 1 → us.length = ks.length → Vals vs ws → Vals us zs → Vals (g vs us) (g ws zs)) (hgl : ∀ {ds es : List V}, ds.length = 1 → es.length = ks.length → (g ds es).length = ps.length)
    (hr : Room (k + 1) X.A) (hgu : X.A.guards = some []) (hx : ∀ σ, PassesAt (L2.CX X.prog X.w) X σ fun cls d H => W cls d σ H)
    (hkw : RK T X W kws cs) (hg : Gl X c := by rfl) (hall : (backToKw pos (keywordEach kws X.env)).all (·.1.isSome) = true := by rfl) (hks : (backToKw pos (keywordEach kws X.env)).filterMap (·.1) = ks := by rfl)
    (hdb : (c == ("__debug__" : Str)) = false := by decide)
    (hpl : ((backTo pos (starEach [] X.env)).any (·.1) || (backToKw pos (keywordEach kws X.env)).any (·.1.isNone)) = false := by rfl) :
    RE T false X W (.Call (.Name c p) [] kws pos) (cMakeK mk c ks.length g o cs) := by
  obtain ⟨f, fd, M, hm, FD, FG⟩ := G.ex
  obtain ⟨t2, pk, rd2⟩ := hkw
  refine ⟨fun σ H Q => t2 σ H fun us H1 => us.length = ks.length ∧ ∀ x dx, H1 x = none → H1 dx = none → dx ≠ x → spOf X.K X.mg T false ps.length o (g [.ref x] us) (upd (upd H1 dx (.own x)) x (.ins (He.ga X.K c) dx [])) (fun v H2 => v = .non ∧ Q (.ref x) H2) (fun cls d H => W cls d σ H), ⟨fun pins s σ H Q I h => ?_⟩, fun σ ρ F μ S H Q s hE gg => ?_⟩
  · refine wpAny_Call_Name_kw (ld_glob I hg hm ?_ hdb)
    refine PySem.W.callWith_KW0 (h₀ := X.base) I.ok.mod.kin M.kp hall ?_ hpl
    refine thn (pk.run pos pins s σ H _ I h) fun ws s2 ⟨zs, H2, I2, rz, l2, q2⟩ => ⟨I2.kIn, ?_⟩
    obtain ⟨kV, doc, pm, an, cdv, ct, rfl⟩ := FunD.to FD
    rw [hks]
    exact run_makeG (us := []) (ws := fun x => g [.ref x] ws) (vs := fun x => g [.ref x] zs) M FG hr hgu (fun s' x => .of_eq (hp _ _ _ _ _ _ [.ref x] ws rfl (by rw [← rz.length]; exact l2))) (hx σ) I2 (fun x => hgv rfl l2 (.cons rfl .nil) rz) q2
  · refine rd2 σ ρ F μ S H _ s hE (GP.seq gg fun es F1 μ1 H1 S1 e1 p1 s1 g1 us rs => ?_)
    split at g1
    · rename_i hn
      have l2 : us.length = ks.length := by rw [← rs.length]; exact hn
      refine ⟨l2, fun x dx nx ndx ne => ?_⟩
      exact ⟨F1, μ1 ++ [⟨x, .ins c⟩], S1 ++ [[]], _, sr_made s1 nx ndx ne, hgr rfl hn (.cons (.obj (new_get s1 (List.prefix_refl _))) .nil) (rs.mono (Ex.refl _) (List.prefix_append _ _)), hgl rfl l2, hmk s1 g1⟩
    · exact g1.elim

/-! ### isinstance -/
def isC (c : Str) : D → Option Bool
  | .ins c' _ _ => if c' = c then some true else none
  | .obj c' _ => if c' = c then some true else none
  | .fn _ => none
  | .gfn _ => none
  | .dct _ => none
  | .dks _ _ => none
  | .dkc _ => none
  | _ => some false
structure IsF (K : PySem.W.Frag) (c : Str) : Prop where
  no : ∀ d : D, isC c d = some false → PySem.W.kitOne K (.type (tyNm d)) (.ref (He.ga K c)) = some false
def cIsC (c : Str) (a : EX) : EX := fun ρ S => bindO (a ρ S) fun x S => match isC c x with
  | some b => some (.ok (.bl b), S)
  | none => none
theorem tyx_ins {K : PySem.W.Frag} {F H : Hp} {μ : List MA} {S : Store} {d : D} {v : V} {c : Str} (hc : ClsI K c) (s : SR K T F μ S H) (r : Rep K F μ d v) (h : isC c d = some true) : TyX K H v (.ref (He.ga K c)) := by
  cases r with
  | ins h1 h2 h3 =>
    simp only [isC] at h
    split at h
    · rename_i e; subst e
      exact .base (.ins (s.ex _ _ h1) hc.cl hc.ha hc.hn hc.ht hc.hm)
    · cases h
  | obj hm =>
    simp only [isC] at h
    split at h
    · rename_i e; subst e
      obtain ⟨es, h1, h2, h3, hcell⟩ := s.at hm
      cases hcell with
      | ins k1 k2 k3 => exact .base (.ins k2 hc.cl hc.ha hc.hn hc.ht hc.hm)
    · cases h
  | _ => simp [isC] at h
theorem isC_fn {d : D} {c : Str} (h : isC c d = some false) : d.isFn = false := by
  cases d <;> first | rfl | (simp [isC] at h)
theorem re_isC {a : EX} {p2 : Pos} (hc : ClsI X.K c) (hi : IsF X.K c) (hmc : X.mg c = some (.ref (He.ga X.K c))) (ha : RE T false X W e a) (hm : X.mg "isinstance" = none) (hg : Gl X "isinstance" := by rfl) (hgt : Gl X c := by rfl)
    (hdt : (c == ("__debug__" : Str)) = false := by decide)
    (he : starEach [e, .Name c p2] X.env = (false, eval e X.env) :: starEach [.Name c p2] X.env := by rfl) (hpl : (backTo pos (starEach [.Name c p2] X.env)).any (·.1) = false := by rfl) :
    RE T false X W (.Call (.Name "isinstance" p) [e, .Name c p2] [] pos) (cIsC c a) := by
  obtain ⟨ta, pa, fa⟩ := ha
  refine ⟨_, pe_callB call_isi hg hm (by decide +kernel) (pa_cons pa (pa_cons (pe_glob (v := .ref (He.ga X.K c)) hgt hmc rfl hdt) pa_nil) he) (by decide) (by decide) he hpl, fun σ ρ F μ S H Q s hE g => ?_⟩
  refine fa σ ρ F μ S H _ s hE (GP.seq g fun x F1 μ1 H1 S1 e1 p1 s1 g1 v rx => ?_)
  split at g1
  · rename_i b hb
    cases b with
    | true => exact ⟨v, .ref (He.ga X.K c), _, _, true, rfl, .own _, tyx_ins hc s1 rx hb, by simp [PySem.W.kitOne], gp_val g1 s1 (.bl _)⟩
    | false => exact ⟨v, .ref (He.ga X.K c), _, _, false, rfl, .own _, tyx_of s1 rx (isC_fn hb), hi.no x hb, gp_val g1 s1 (.bl _)⟩
  · exact g1.elim
end
end PF
set_option Elab.async false
set_option linter.all false
set_option maxRecDepth 100000
set_option maxHeartbeats 4000000
/-! PFH: facts of a head that the layer wants beyond the kit's kinds: tables, classes. -/
namespace PF
open PySem L2 Evl PySem.Spec PyProof.Rows
/-- what stands in a table -/
inductive TV where | int (i : Int) | str (z : Str) | gfn (x : Str) | no
def TV.d : TV → Option D
  | .int i => some (.int i)
  | .str z => some (.str z)
  | .gfn x => some (.gfn x)
  | .no => none
def tvB (K : PySem.W.Frag) (a : Addr) (p : Str × TV) : Bool := match p.2, PySem.W.nsIn K a p.1 with
  | .int i, some (some (.int j _)) => decide (i = j)
  | .str i, some (some (.str j _)) => decide (i = j)
  | .gfn x, some (some (.ref b)) => decide (b = He.ga K x)
  | .no, some none => true
  | _, _ => false
def tabB (K : PySem.W.Frag) (x : Str) (t : List (Str × TV)) : Bool := t.all (tvB K (He.ga K x))
theorem tabF_of {K : PySem.W.Frag} {w : World} {x : Str} {t : List (Str × TV)} (kd : ∃ es n, KDict K w (He.ga K x) es n) (h : tabB K x t = true) : TabF K w x (t.map fun p => (p.1, p.2.d)) := by
  refine ⟨kd, fun p hp => ?_⟩
  obtain ⟨⟨k, v⟩, hq, rfl⟩ := List.mem_map.mp hp
  have hv : tvB K (He.ga K x) (k, v) = true := List.all_eq_true.mp h _ hq
  unfold tvB at hv
  cases v with
  | int i =>
    dsimp only at hv
    split at hv
    · rename_i e1 e2; cases e1
      have e := of_decide_eq_true hv; subst e
      exact ⟨_, .int i, e2, ⟨_, rfl⟩, fun F μ => .int i⟩
    · rename_i e1 _; cases e1
    · rename_i e1 _; cases e1
    · rename_i e1 _; cases e1
    · cases hv
  | str i =>
    dsimp only at hv
    split at hv
    · rename_i e1 _; cases e1
    · rename_i e1 e2; cases e1
      have e := of_decide_eq_true hv; subst e
      exact ⟨_, .str i, e2, ⟨_, rfl⟩, fun F μ => .str i⟩
    · rename_i e1 _; cases e1
    · rename_i e1 _; cases e1
    · cases hv
  | gfn i =>
    dsimp only at hv
    split at hv
    · rename_i e1 _; cases e1
    · rename_i e1 _; cases e1
    · rename_i e1 e2; cases e1
      have e := of_decide_eq_true hv; subst e
      exact ⟨_, .ref (He.ga K i), e2, rfl, fun F μ => .gfn⟩
    · rename_i e1 _; cases e1
    · cases hv
  | no =>
    dsimp only at hv
    split at hv
    · rename_i e1 _; cases e1
    · rename_i e1 _; cases e1
    · rename_i e1 _; cases e1
    · rename_i e1 e2; exact e2
    · cases hv
/-! ### classes -/
def clsIB (K : PySem.W.Frag) (c : Str) : Bool := (He.Fa.cls c).ok K && (decide (PySem.W.findIn K (.ref (He.ga K c)) "__class__" = some (some (.builtin "object.__class__"))) && (decide (PySem.W.specialIn K (.builtin "object.__class__") "__get__" = some (some (.builtin "getset_descriptor.__get__"))) &&
  (decide (PySem.W.takesIn K (.builtin "object.__class__") = some true) && (decide (PySem.W.mroIn K (He.ga K c) (.type "object") = some true) && PySem.W.keepIn K (.ref (He.ga K c))))))
theorem clsI_of {K : PySem.W.Frag} {c : Str} (h : clsIB K c = true) : ClsI K c := by
  obtain ⟨h1, h⟩ := Bool.and_eq_true_iff.mp h
  obtain ⟨h2, h⟩ := Bool.and_eq_true_iff.mp h
  obtain ⟨h3, h⟩ := Bool.and_eq_true_iff.mp h
  obtain ⟨h4, h⟩ := Bool.and_eq_true_iff.mp h
  obtain ⟨h5, h6⟩ := Bool.and_eq_true_iff.mp h
  exact ⟨He.cls_ok h1, of_decide_eq_true h2, of_decide_eq_true h3, of_decide_eq_true h4, of_decide_eq_true h5, h6⟩
def isFB (K : PySem.W.Frag) (c : Str) : Bool := ["NoneType", "bool", "int", "str", "tuple", "list"].all fun n => decide (PySem.W.kitOne K (.type n) (.ref (He.ga K c)) = some false)
theorem isF_of {K : PySem.W.Frag} {c : Str} (h : isFB K c = true) : IsF K c := by
  refine ⟨fun d hd => ?_⟩
  have g : ∀ n, n ∈ ["NoneType", "bool", "int", "str", "tuple", "list"] → PySem.W.kitOne K (.type n) (.ref (He.ga K c)) = some false := fun n hn => of_decide_eq_true (List.all_eq_true.mp h n hn)
  cases d <;> first
    | (refine g _ ?_; simp [tyNm]; done)
    | (simp [isC] at hd; done)
def propB (K : PySem.W.Frag) (c f : Str) : Bool := match PySem.W.findIn K (.ref (He.ga K c)) f with
  | some (some (.ref p)) => decide (PySem.W.specialIn K (.ref p) "__get__" = some (some (.builtin "property.__get__"))) && (decide (PySem.W.takesIn K (.ref p) = some true) && (match PySem.W.recIn K p "property" with
    | some (.ref _ :: _) => true
    | _ => false))
  | _ => false
/-- the getter of a property -/
def pga (c f : Str) (K : PySem.W.Frag) : Addr := match PySem.W.findIn K (.ref (He.ga K c)) f with
  | some (some (.ref p)) => (match PySem.W.recIn K p "property" with
    | some (.ref g :: _) => g
    | _ => 0)
  | _ => 0
theorem prop_of {K : PySem.W.Frag} {c f : Str} (h : propB K c f = true) : ∃ p, PropOf K (He.ga K c) f p (pga c f K) := by
  unfold propB at h
  unfold pga
  split at h
  · rename_i p hp
    obtain ⟨h1, h⟩ := Bool.and_eq_true_iff.mp h
    obtain ⟨h2, h⟩ := Bool.and_eq_true_iff.mp h
    split at h
    · rename_i g r hr
      exact ⟨p, hp, of_decide_eq_true h1, of_decide_eq_true h2, r, hr⟩
    · cases h
  · cases h
/-! ### a Hook that tells the getters of properties, too -/
abbrev AlZ : Type := He.AlX × He.AlD
def obsZ (n : Nat) (fa : List He.Fa) (fn : List He.DefD) (ts : List He.Tab) (tf : List He.Defn) (ex : PySem.W.Frag → Bool) (fp : List He5.DefA) (g : Addr → Option Obj) : AlZ := (He.obsX n fa fn ts tf ex g, He5.obsA [] fp (He.frT g (He.asD g n)))
def hookZ (n : Nat) (fa : List He.Fa) (fn : List He.DefD) (ts : List He.Tab) (tf : List He.Defn) (ex : PySem.W.Frag → Bool) (fp : List He5.DefA) : PySem.W.Hook where
  α := AlZ
  obs := fun s => obsZ n fa fn ts tf ex fp s.heap.get?
  val := fun w => (He.valX fn ts w, He5.valA fp)
  says := fun w h => ∃ K : PySem.W.Frag, K.In h ∧ He.SaysX fa fn ts tf ex w h K ∧ He5.SaysA [] fp K
  of := fun _ _ e => ⟨_, He.frT_in, He.saysX_of (congrArg Prod.fst e), congrArg Prod.snd e⟩
  keeps := fun _ _ _ ⟨K, hK, c, d⟩ k => ⟨K, PySem.W.Frag.In.keeps hK k, ⟨c.t, c.more, c.hd, c.out, fun p hp => k _ _ (c.empty p hp)⟩, d⟩
theorem obsZ_eq {n : Nat} {fa : List He.Fa} {fn : List He.DefD} {ts : List He.Tab} {tf : List He.Defn} {ex : PySem.W.Frag → Bool} {fp : List He5.DefA} {g : Addr → Option Obj} {s : Shared} (h : ∀ a, g a = s.heap.get? a) : obsZ n fa fn ts tf ex fp g = (hookZ n fa fn ts tf ex fp).obs s := by
  have e : g = s.heap.get? := funext h
  rw [e] <;> rfl
/-! ### tuples of numbers and texts that stand in the module -/
inductive CV where | int (i : Int) | str (z : Str)
def CV.d : CV → D
  | .int i => .int i
  | .str z => .str z
def cvB : CV → Value → Bool
  | .int i, .int j _ => decide (i = j)
  | .str i, .str j _ => decide (i = j)
  | _, _ => false
def cvsB : List CV → List Value → Bool
  | [], [] => true
  | c :: cs, v :: vs => cvB c v && cvsB cs vs
  | _, _ => false
def cstB (K : PySem.W.Frag) (x : Str) (cs : List CV) : Bool := match K.lookup (He.ga K x) with
  | some ⟨cls, _, .seq its _, _⟩ => decide (cls = .type "tuple") && (decide (its.size ≤ 1000) && cvsB cs its.toList)
  | _ => false
theorem cvB_ok {c : CV} {v : Value} (h : cvB c v = true) : ∃ x : V, RelV x v ∧ ∀ K F μ, Rep K F μ c.d x := by
  cases c with
  | int i =>
    cases v <;> try (cases h; done)
    have e := of_decide_eq_true h
    subst e
    exact ⟨.int i, ⟨_, rfl⟩, fun K F μ => .int i⟩
  | str i =>
    cases v <;> try (cases h; done)
    have e := of_decide_eq_true h
    subst e
    exact ⟨.str i, ⟨_, rfl⟩, fun K F μ => .str i⟩
theorem cvsB_ok : ∀ {cs : List CV} {vs : List Value}, cvsB cs vs = true → ∃ xs : List V, Vals xs vs ∧ ∀ K F μ, Reps K F μ (cs.map CV.d) xs
  | [], [], _ => ⟨[], .nil, fun _ _ _ => .nil⟩
  | c :: cs, v :: vs, h => by
    obtain ⟨h1, h2⟩ := Bool.and_eq_true_iff.mp h
    obtain ⟨x, r, d⟩ := cvB_ok h1
    obtain ⟨xs, rs, ds⟩ := cvsB_ok h2
    exact ⟨x :: xs, .cons r rs, fun K F μ => .cons (d K F μ) (ds K F μ)⟩
  | [], _ :: _, h => by cases h
  | _ :: _, [], h => by cases h
theorem globTup {K : PySem.W.Frag} {mg : Str → Option Value} {x : Str} {cs : List CV} (hm : mg x = some (.ref (He.ga K x))) (h : cstB K x cs = true) : GlobK K mg x (.tup (cs.map CV.d)) := by
  unfold cstB at h
  split at h
  · rename_i cls dd its n sl hk
    obtain ⟨h1, h⟩ := Bool.and_eq_true_iff.mp h
    obtain ⟨h2, h3⟩ := Bool.and_eq_true_iff.mp h
    have e1 := of_decide_eq_true h1
    have e2 := of_decide_eq_true h2
    subst e1
    obtain ⟨xs, rs, ds⟩ := cvsB_ok h3
    refine ⟨_, .ref (He.ga K x), hm, rfl, fun F μ => .tup (.inr ⟨_, its, n, hk, rfl, rfl, ?_, rs⟩) (ds K F μ)⟩
    rw [sizeLine_eq]
    omega
  · cases h
end PF
set_option Elab.async false
set_option linter.all false
set_option maxRecDepth 100000
set_option maxHeartbeats 4000000
/-! PFEQ: == and != by an own __eq__. -/
namespace StE
open PySem PySem.Spec PyProof.Rows PySem.W
section
variable {prog : Program} {w : World} {A : Around} {E : Value → Shared → Prop} {s : Shared} {K : Frag} {x C f t : Addr} {ox : Obj} {od : Option Obj} {b : Value}
theorem tup_no_eq {P : Fin → Shared → Prop} (hin : Looks (model prog w) s.heap (isInstance (.ref x) (.type "tuple")) false) (hq : P (.done (.ret .notImplemented)) s) : wpAny (model prog w) A (Builtin.«tuple.__eq__» ⟨[.ref t, .ref x], []⟩) P E s := by
  obtain ⟨hp, g, d, tk, os⟩ := s
  unfold Builtin.«tuple.__eq__»
  wp_delta
  repeat (first | with_reducible refine hin.at ?_ | wp_step)
  all_goals exact hq
theorem tup_no_ne {P : Fin → Shared → Prop} (hin : Looks (model prog w) s.heap (isInstance (.ref x) (.type "tuple")) false) (hq : P (.done (.ret .notImplemented)) s) : wpAny (model prog w) A (Builtin.«tuple.__ne__» ⟨[.ref t, .ref x], []⟩) P E s := by
  obtain ⟨hp, g, d, tk, os⟩ := s
  unfold Builtin.«tuple.__ne__»
  wp_delta
  repeat (first | with_reducible refine hin.at ?_ | wp_step)
  all_goals exact hq
/-- != of an instance whose class has its own __eq__ -/
theorem tc_ne (X : K.In s.heap) (I : InstAt s.heap x ox C od) (hne : findIn K (.ref C) "__ne__" = some (some (.builtin "object.__ne__"))) (he : findIn K (.ref C) "__eq__" = some (some (.ref f))) (hf : isFn K (.ref f) = true)
    (hob : mroIn K C (.type "object") = some true) (hu : A.units + 1 < cLine) {Q : Option Value → Shared → Prop}
    (hcall : wpAny (model prog w) A.in1 (call (.ref f) [.ref x, b]) (fun v s' => ∃ r, v = .bool r ∧ Q (some (.bool (!r))) s') E s) : wpAny (model prog w) A (tryCompare (.ref x) "__ne__" b) Q E s := by
  have sub : Looks (model prog w) s.heap (isInstance (.ref x) (.type "object")) true := I.type.andThen (looks_mroIn X hob)
  have S := F.cmp_object.ne
  have body : wpAny (model prog w) A.in1 (Builtin.«object.__ne__» ⟨[.ref x, b], []⟩) (GQ.FinOf prog w A (wants (fun v s' => ∃ r, v = .bool (!r) ∧ Q (some (.bool (!r))) s') E)) (fun e s' => wants (fun v s' => ∃ r, v = .bool (!r) ∧ Q (some (.bool (!r))) s') E (.error e) s') s := by
    unfold Builtin.«object.__ne__»
    obtain ⟨hp, g, d, tk, os⟩ := s
    repeat (first
      | with_reducible refine wpAny_cRoomFor hu ?_
      | (refine wpAny_bind (m := callSpecialIfBound? (.ref x) (Str.ofString "__eq__") [b])
          (ifBound_K X I he hf (wpAny_mono hcall (fun r s' hr => by
            obtain ⟨b, rfl, hq⟩ := hr
            repeat (first | exact ⟨b, rfl, hq⟩ | exact wpAny_pure ⟨b, rfl, hq⟩ | (refine wpAny_bind (m := truthy (.bool _)) (wpAny_truthy_bool ?_)) | wp_step)) fun _ _ e => e)))
      | wp_step)
  have call1 : wpAny (model prog w) A (call (.builtin "object.__ne__") [.ref x, b]) (fun v s' => ∃ r, v = .bool (!r) ∧ Q (some (.bool (!r))) s') E s :=
    wpAny_call (codeAny_call_builtin S.plain F.cmpEntry_ne (check_slot F.cmpKind_ne F.cmpSplit_ne sub (F.cmpArgs_ne _ _) body))
  unfold tryCompare
  refine wpAny_bind ?_
  simp only [callSpecialIfBound?, bindSpecialIfBound?]
  refine wpAny_holding (wpAny_bind (wpAny_bind (wpAny_bind (I.type.here ((looks_findIn X hne).here ?_)))))
  simp only [S.bind]
  refine wpAny_bind (wpAny_askSetting (wpAny_ite ?_))
  have fin : wpAny (model prog w) A (call (.builtin "object.__ne__") ([.ref x] ++ [b]) >>= fun v => pure (some v)) (fun r s' => wpAny (model prog w) A (match r with
      | some .notImplemented | none => pure none
      | some v => pure (some v)) Q E s') E s := wpAny_bind (wpAny_mono call1 (fun v s' h' => by
        obtain ⟨r, rfl, hq⟩ := h'
        exact wpAny_pure (wpAny_pure hq)) fun _ _ h' => h')
  split
  · exact wpAny_bind (wpAny_pure (wpAny_pure fin))
  · exact wpAny_tryCatch (wpAny_bind (wpAny_pure (wpAny_pure fin)))
theorem tc_eq (X : K.In s.heap) (I : InstAt s.heap x ox C od) (he : findIn K (.ref C) "__eq__" = some (some (.ref f))) (hf : isFn K (.ref f) = true) {Q : Option Value → Shared → Prop}
    (hcall : wpAny (model prog w) A (call (.ref f) [.ref x, b]) (fun v s' => ∃ r, v = .bool r ∧ Q (some (.bool r)) s') E s) : wpAny (model prog w) A (tryCompare (.ref x) "__eq__" b) Q E s := by
  unfold tryCompare
  refine wpAny_bind (ifBound_K X I he hf (wpAny_mono hcall (fun v s' hv => ?_) fun _ _ e => e))
  obtain ⟨r, rfl, hq⟩ := hv
  exact wpAny_pure hq
theorem rc_own {op : CmpOp} {tb : Value} {Q : Value → Shared → Prop} (hu : A.units < cLine) (X : K.In s.heap) (I : InstAt s.heap x ox C od) (hb : ∀ {P : Value → Shared → Prop}, P tb s → wpAny (model prog w) A (typeOf b) P E s) (hn : notFirst K C tb = true)
    (one : wpAny (model prog w) A (tryCompare (.ref x) (cmpInfo op).2.1 b) (fun r s' => ∃ v, r = some v ∧ Q v s') E s) : wpAny (model prog w) A (richCompare op (.ref x) b) Q E s := by
  unfold richCompare
  simp only [oneThing_ref]
  refine wpAny_holding (wpAny_bind (wpAny_cRoomFor hu ?_))
  refine wpAny_bind (I.type.here (wpAny_bind (hb ?_)))
  split
  · rename_i q
    have e : subIn K tb (.ref C) = some false := by
      rcases Bool.or_eq_true_iff.mp hn with e | e
      · rw [beq_iff_eq.mp e] at q; simp at q
      · exact beq_iff_eq.mp e
    refine wpAny_bind ((looks_subIn X e).here ?_)
    simp only [Bool.false_eq_true, if_false]
    refine wpAny_bind (wpAny_mono one (fun r s' z => ?_) fun _ _ e => e)
    obtain ⟨v, rfl, hq⟩ := z
    exact wpAny_pure hq
  · refine wpAny_bind (wpAny_pure ?_)
    simp only [Bool.false_eq_true, if_false]
    refine wpAny_bind (wpAny_mono one (fun r s' z => ?_) fun _ _ e => e)
    obtain ⟨v, rfl, hq⟩ := z
    exact wpAny_pure hq
/-- the left one declines, the right one is an instance with its own __eq__ -/
theorem rc_back {op : CmpOp} {a : Value} {T : String} {Q : Value → Shared → Prop} (hu : A.units < cLine) (X : K.In s.heap) (I : InstAt s.heap x ox C od) (ha : s.TypeIs a T) (hs : mroIn K C (.type T) = some false)
    (dec : wpAny (model prog w) A (tryCompare a (cmpInfo op).2.1 (.ref x)) (fun r s' => r = none ∧ s' = s) E s)
    (back : wpAny (model prog w) A (tryCompare (.ref x) (cmpInfo op).2.2 a) (fun r s' => ∃ v, r = some v ∧ Q v s') E s) : wpAny (model prog w) A (richCompare op a (.ref x)) Q E s := by
  unfold richCompare
  simp only [ha.oneThing_none]
  refine wpAny_holding (wpAny_bind (wpAny_cRoomFor hu ?_))
  refine wpAny_bind (wpAny_typeOf ha (wpAny_bind (I.type.here ?_)))
  rw [if_pos (show (Value.type T != Value.ref C) = true by rfl)]
  refine wpAny_bind ((looks_mroIn X hs).here ?_)
  simp only [Bool.false_eq_true, if_false, Bool.not_false, if_true]
  refine wpAny_bind (wpAny_mono dec (fun r s' z => ?_) fun _ _ e => e)
  obtain ⟨rfl, rfl⟩ := z
  refine wpAny_bind (wpAny_mono back (fun r s' z => ?_) fun _ _ e => e)
  obtain ⟨v, rfl, hq⟩ := z
  exact wpAny_pure hq
theorem dec_tup_eq (hT : s.TypeIs (.ref t) "tuple") (hin : Looks (model prog w) s.heap (isInstance (.ref x) (.type "tuple")) false) : wpAny (model prog w) A (tryCompare (.ref t) (cmpInfo .Eq).2.1 (.ref x)) (fun r s' => r = none ∧ s' = s) E s :=
  wpAny_tryCompare_declines hT F.slot_tuple_eq (GQ.call_here F.slot_tuple_eq hT F.entry_tuple_eq (F.args_tuple_eq_2 _ _) (tup_no_eq hin ⟨rfl, rfl, rfl⟩))
theorem dec_tup_ne (hT : s.TypeIs (.ref t) "tuple") (hin : Looks (model prog w) s.heap (isInstance (.ref x) (.type "tuple")) false) : wpAny (model prog w) A (tryCompare (.ref t) (cmpInfo .NotEq).2.1 (.ref x)) (fun r s' => r = none ∧ s' = s) E s :=
  wpAny_tryCompare_declines hT F.slot_tuple_ne (GQ.call_here F.slot_tuple_ne hT F.entry_tuple_ne (F.args_tuple_ne_2 _ _) (tup_no_ne hin ⟨rfl, rfl, rfl⟩))
theorem dec_non_eq : wpAny (model prog w) A (tryCompare .none (cmpInfo .Eq).2.1 (.ref x)) (fun r s' => r = none ∧ s' = s) E s :=
  wpAny_tryCompare_declines (T := "NoneType") rfl F.slot_NoneType_eq (call_gives F.slot_NoneType_eq rfl F.entry_NoneType_eq (F.args_NoneType_eq_2 _ _) (SeqAt.NoneType___eq___none_ref_0 x) ⟨rfl, rfl, rfl⟩)
theorem dec_non_ne : wpAny (model prog w) A (tryCompare .none (cmpInfo .NotEq).2.1 (.ref x)) (fun r s' => r = none ∧ s' = s) E s :=
  wpAny_tryCompare_declines (T := "NoneType") rfl F.slot_NoneType_ne (call_gives F.slot_NoneType_ne rfl F.entry_NoneType_ne (F.args_NoneType_ne_2 _ _) (SeqAt.NoneType___ne___none_ref_0 x) ⟨rfl, rfl, rfl⟩)
end
end StE
set_option Elab.async false
set_option linter.all false
set_option maxRecDepth 100000
set_option maxHeartbeats 4000000
/-! PFEQ2: == and != where one is an instance whose class has its own __eq__. -/
namespace PF
open PySem L2 Evl PySem.Spec PyProof.Rows
structure CmpI (K : PySem.W.Frag) (c : Str) : Prop where
  ne : PySem.W.findIn K (.ref (He.ga K c)) "__ne__" = some (some (.builtin "object.__ne__"))
  tu : PySem.W.mroIn K (He.ga K c) (.type "tuple") = some false
  no : PySem.W.mroIn K (He.ga K c) (.type "NoneType") = some false
  ut : PySem.W.subIn K (.type "tuple") (.ref (He.ga K c)) = some false
  un : PySem.W.subIn K (.type "NoneType") (.ref (He.ga K c)) = some false
def cmpIB (K : PySem.W.Frag) (c : Str) : Bool := decide (PySem.W.findIn K (.ref (He.ga K c)) "__ne__" = some (some (.builtin "object.__ne__"))) && (decide (PySem.W.mroIn K (He.ga K c) (.type "tuple") = some false) && (decide (PySem.W.mroIn K (He.ga K c) (.type "NoneType") = some false) &&
  (decide (PySem.W.subIn K (.type "tuple") (.ref (He.ga K c)) = some false) && decide (PySem.W.subIn K (.type "NoneType") (.ref (He.ga K c)) = some false))))
theorem cmpI_of {K : PySem.W.Frag} {c : Str} (h : cmpIB K c = true) : CmpI K c := by
  obtain ⟨h1, h⟩ := Bool.and_eq_true_iff.mp h
  obtain ⟨h2, h⟩ := Bool.and_eq_true_iff.mp h
  obtain ⟨h3, h⟩ := Bool.and_eq_true_iff.mp h
  obtain ⟨h4, h5⟩ := Bool.and_eq_true_iff.mp h
  exact ⟨of_decide_eq_true h1, of_decide_eq_true h2, of_decide_eq_true h3, of_decide_eq_true h4, of_decide_eq_true h5⟩
def InsV (K : PySem.W.Frag) (c : Str) (H : Hp) (x : V) (b : Addr) : Prop := x = .ref b ∧ ∃ dx fs, H b = some (.ins (He.ga K c) dx fs)
/-- a tuple or None -/
def TupNon (K : PySem.W.Frag) (H : Hp) (x : V) : Prop := (∃ a xs, x = .ref a ∧ SqT K H a xs) ∨ x = .non
def rEqI (K : PySem.W.Frag) (mg : Str → Option Value) (T : List (Addr × Str)) (c : Str) (o : OpB) (neg : Bool) : R2 := fun x y H Q =>
  (∃ b, InsV K c H x b ∧ ((∃ b', InsV K c H y b') ∨ TupNon K H y) ∧ spOf K mg T false 2 o [x, y] H (fun v H' => ∃ r, v = .bl r ∧ Q (.bl (r != neg)) H') (fun _ _ _ => False)) ∨
  (∃ b, InsV K c H y b ∧ TupNon K H x ∧ spOf K mg T false 2 o [y, x] H (fun v H' => ∃ r, v = .bl r ∧ Q (.bl (r != neg)) H') (fun _ _ _ => False))
def tupNon : D → Bool
  | .tup _ => true
  | .non => true
  | _ => false
def answer (neg : Bool) (r : Out D) : Out D := bindO (noX r) fun d S => match d with
  | .bl b => some (.ok (.bl (b != neg)), S)
  | _ => none
def oEqI (c : Str) (o : OpB) (neg : Bool) : Op2 := fun x y S => match fieldsOf c x S with
  | some _ => (match fieldsOf c y S with
    | some _ => answer neg (o [x, y] S)
    | none => if tupNon y = true then answer neg (o [x, y] S) else none)
  | none => (match fieldsOf c y S with
    | some _ => if tupNon x = true then answer neg (o [y, x] S) else none
    | none => none)
section
variable {X : Cx} {T : List (Addr × Str)} {c : Str} {o : OpB} {neg : Bool}
theorem tupNon_rep {K : PySem.W.Frag} {F : Hp} {μ : List MA} {S : Store} {H : Hp} {y : D} {u : V} (s : SR K T F μ S H) (r : Rep K F μ y u) (h : tupNon y = true) : TupNon K H u := by
  cases r with
  | @tup a xs ds hq rs => exact .inl ⟨a, xs, rfl, s.sqT hq⟩
  | non => exact .inr rfl
  | _ => cases h
theorem ins_rep {K : PySem.W.Frag} {F : Hp} {μ : List MA} {S : Store} {H : Hp} {y : D} {u : V} {z : List Str × List D} (s : SR K T F μ S H) (r : Rep K F μ y u) (h : fieldsOf c y S = some z) : ∃ b, InsV K c H u b := by
  obtain ⟨ns, ds⟩ := z
  obtain ⟨b, dx, vs, rfl, h1, _⟩ := fields_ok s r h
  exact ⟨b, rfl, dx, _, h1⟩
theorem answer_ok {K : PySem.W.Frag} {mg : Str → Option Value} {F : Hp} {μ : List MA} {S : Store} {H : Hp} {x y : D} {v u : V} {Q : VK} {er : XV → Hp → List MA → Hp → Prop} (s : SR K T F μ S H) (rx : Rep K F μ x v) (ry : Rep K F μ y u)
    (h : GP K T F μ (answer neg (o [x, y] S)) (OkV K false Q) er) : spOf K mg T false 2 o [v, u] H (fun v H' => ∃ r, v = .bl r ∧ Q (.bl (r != neg)) H') (fun _ _ _ => False) := by
  refine ⟨F, μ, S, [x, y], s, .cons rx (.cons ry .nil), rfl, GP.er (GP.noX (er' := NoEr) (GP.seq h fun d F1 μ1 H1 S1 e1 p1 s1 g1 v rv => ?_))⟩
  cases rv with
  | bl b => exact ⟨b, rfl, gp_val g1 s1 (.bl _)⟩
  | _ => exact g1.elim
theorem oEqI_ok : OpOk X T false (rEqI X.K X.mg T c o neg) (oEqI c o neg) := by
  intro F μ S H x y v u Q er s rx ry h
  unfold oEqI at h
  split at h
  · rename_i zx hx
    obtain ⟨b, ib⟩ := ins_rep s rx hx
    split at h
    · rename_i zy hy
      exact .inl ⟨b, ib, .inl (ins_rep s ry hy), answer_ok s rx ry h⟩
    · split at h
      · rename_i ht
        exact .inl ⟨b, ib, .inr (tupNon_rep s ry ht), answer_ok s rx ry h⟩
      · exact h.elim
  · split at h
    · rename_i zy hy
      obtain ⟨b, ib⟩ := ins_rep s ry hy
      split at h
      · rename_i ht
        exact .inr ⟨b, ib, tupNon_rep s rx ht, answer_ok s ry rx h⟩
      · exact h.elim
    · exact h.elim
variable {k : Nat} {q s1 s2 : Str} {params : Arguments} {body : List Stmt} {scope : Scope}
/-- the own __eq__, called with the two -/
theorem eq_run {g : Addr} {fd : FuncData} {A : Around} {pins : List (Addr × Obj)} {σ : L2.St} {H : Hp} {s : Shared} {Q : VK} {vs : List V} {us : List Value} (FD : FunD X.K "__eq__" q params body scope [] [] g fd) (FG : FnG X.prog X.w X.K X.mg X.base k g fd [s1, s2] (spOf X.K X.mg T false 2 o))
    (hp : PosnQ params body scope "__eq__" q [s1, s2]) (hr : Room k A) (hgu : A.guards = some []) (e0 : Env0 X.prog X.w X.K X.mg X.base A X.stack s H) (I : Inv X pins σ H s) (rel : Vals vs us)
    (h : spOf X.K X.mg T false 2 o vs H (fun v H' => ∃ r, v = .bl r ∧ Q (.bl (r != neg)) H') (fun _ _ _ => False)) :
    wpAny (model X.prog X.w) A (call (.ref g) us) (fun v s' => ∃ r, v = .bool r ∧ EP X pins σ Q (.bool (r != neg)) s') X.xe s := by
  have hl : us.length = [s1, s2].length := by
    obtain ⟨_, _, _, _, _, _, hl, _⟩ := id h
    rw [← rel.length, hl]
    rfl
  obtain ⟨kV, doc, pm, an, cdv, ct, rfl⟩ := FunD.to FD
  refine wpAny_call (codeAny_mono (FG.run A X.stack s H ⟨us, []⟩ us vs _ (fun _ _ _ => False) hr hgu e0 (.of_eq (hp _ _ _ _ _ _ us hl)) rel h) fun r s' hq => ?_)
  cases r with
  | error er =>
    obtain ⟨_, _, _, _, _, _, _, _, _, _, _, _, z⟩ := hq
    exact z.elim
  | ok fl =>
    cases fl with
    | ret u =>
      obtain ⟨v, H', I3, rv, b, e, q3⟩ := I.after hq
      subst e
      cases rv
      exact ⟨b, rfl, .bl (b != neg), H', I3, rfl, q3⟩
    | next => exact False.elim hq
    | brk => exact False.elim hq
    | cont => exact False.elim hq
theorem ins_at {pins : List (Addr × Obj)} {σ : L2.St} {H : Hp} {s : Shared} {x : V} {b : Addr} (I : Inv X pins σ H s) (h : InsV X.K c H x b) : ∃ ox od, PySem.W.InstAt s.heap b ox (He.ga X.K c) od := by
  obtain ⟨_, dx, fs, e⟩ := h
  obtain ⟨mA, J, _⟩ := ins_get I.hok e
  obtain ⟨od, J, _⟩ := J.look
  exact ⟨_, _, J⟩
theorem tup_at {pins : List (Addr × Obj)} {σ : L2.St} {H : Hp} {s : Shared} {a : Addr} {xs : List V} (I : Inv X pins σ H s) (h : SqT X.K H a xs) : s.TypeIs (.ref a) "tuple" := by
  obtain ⟨its, r, ⟨ob, ho, hc, _⟩, _⟩ := I.tuple h
  exact ⟨ob, ho, hc⟩
theorem op_eqI (hk : CmpI X.K c) (G : MethG X.prog X.w X.K X.mg X.base T k c "__eq__" q params body scope [s1, s2] false o) (hp : PosnQ params body scope "__eq__" q [s1, s2]) (hr : Room k X.A) (hgu : X.A.guards = some []) : OpR X (compareOp .Eq) (rEqI X.K X.mg T c o false) := by
  intro pins s σ H x y v u Q I rx ry h
  obtain ⟨g, fd, M, FD, FG⟩ := G.ex
  show wpAny (model X.prog X.w) X.A (richCompare .Eq v u) (EP X pins σ Q) X.xe s
  have hu := hr.units0
  have fin : ∀ {vs : List V} {us : List Value}, Vals vs us → spOf X.K X.mg T false 2 o vs H (fun v H' => ∃ r, v = .bl r ∧ Q (.bl (r != false)) H') (fun _ _ _ => False) →
      wpAny (model X.prog X.w) X.A (call (.ref g) us) (fun v s' => ∃ r, v = .bool r ∧ (∃ w, some (.bool r) = some w ∧ EP X pins σ Q w s')) X.xe s := fun {vs us} rel h =>
    wpAny_mono (eq_run FD FG hp hr hgu I.env0 I rel h) (fun v s' z => by
      obtain ⟨r, e, z⟩ := z
      rw [show (r != false) = r by cases r <;> rfl] at z
      exact ⟨r, e, _, rfl, z⟩) fun _ _ z => z
  rcases h with ⟨b, ib, hy, h⟩ | ⟨b, ib, hx, h⟩
  · obtain ⟨ox, od, J⟩ := ins_at I ib
    obtain ⟨rfl, _⟩ := ib
    obtain rfl : v = Value.ref b := rx
    have one := StE.tc_eq (A := X.A) (b := u) I.kIn J M.at_ M.fn (Q := fun r s' => ∃ w, r = some w ∧ EP X pins σ Q w s') (fin (.cons (show L2.RelV (V.ref b) (Value.ref b) from rfl) (.cons ry .nil)) h)
    rcases hy with ⟨b', ib'⟩ | ⟨a, xs, rfl, ht⟩ | rfl
    · obtain ⟨ox', od', J'⟩ := ins_at I ib'
      obtain ⟨rfl, _⟩ := ib'
      obtain rfl : u = Value.ref b' := ry
      exact StE.rc_own (op := .Eq) hu I.kIn J (fun hP => J'.type.here hP) (by simp [PySem.W.notFirst]) one
    · obtain rfl : u = Value.ref a := ry
      exact StE.rc_own (op := .Eq) hu I.kIn J (fun hP => wpAny_typeOf (tup_at I ht) hP) (by rw [PySem.W.notFirst, hk.ut]; rfl) one
    · obtain rfl : u = Value.none := ry
      exact StE.rc_own (op := .Eq) hu I.kIn J (fun hP => wpAny_typeOf (T := "NoneType") rfl hP) (by rw [PySem.W.notFirst, hk.un]; rfl) one
  · obtain ⟨ox, od, J⟩ := ins_at I ib
    obtain ⟨rfl, _⟩ := ib
    obtain rfl : u = Value.ref b := ry
    have back := StE.tc_eq (A := X.A) (b := v) I.kIn J M.at_ M.fn (Q := fun r s' => ∃ w, r = some w ∧ EP X pins σ Q w s') (fin (.cons (show L2.RelV (V.ref b) (Value.ref b) from rfl) (.cons rx .nil)) h)
    rcases hx with ⟨a, xs, rfl, ht⟩ | rfl
    · obtain rfl : v = Value.ref a := rx
      exact StE.rc_back (op := .Eq) hu I.kIn J (tup_at I ht) hk.tu (StE.dec_tup_eq (tup_at I ht) (J.type.andThen (PySem.W.looks_mroIn I.kIn hk.tu))) back
    · obtain rfl : v = Value.none := rx
      exact StE.rc_back (op := .Eq) hu I.kIn J (T := "NoneType") rfl hk.no StE.dec_non_eq back
theorem op_neI (hc : ClsI X.K c) (hk : CmpI X.K c) (G : MethG X.prog X.w X.K X.mg X.base T k c "__eq__" q params body scope [s1, s2] false o) (hp : PosnQ params body scope "__eq__" q [s1, s2]) (hr : Room (k + 1) X.A) (hgu : X.A.guards = some []) : OpR X (compareOp .NotEq) (rEqI X.K X.mg T c o true) := by
  intro pins s σ H x y v u Q I rx ry h
  obtain ⟨g, fd, M, FD, FG⟩ := G.ex
  show wpAny (model X.prog X.w) X.A (richCompare .NotEq v u) (EP X pins σ Q) X.xe s
  have hu := hr.units0
  have hu1 : X.A.units + 1 < cLine := hr.in1.units0
  have fin : ∀ {vs : List V} {us : List Value}, Vals vs us → spOf X.K X.mg T false 2 o vs H (fun v H' => ∃ r, v = .bl r ∧ Q (.bl (r != true)) H') (fun _ _ _ => False) →
      wpAny (model X.prog X.w) X.A.in1 (call (.ref g) us) (fun v s' => ∃ r, v = .bool r ∧ (∃ w, some (.bool (!r)) = some w ∧ EP X pins σ Q w s')) X.xe s := fun {vs us} rel h =>
    wpAny_mono (eq_run FD FG hp hr.in1 hgu I.env0.in1 I rel h) (fun v s' z => by
      obtain ⟨r, e, z⟩ := z
      rw [show (r != true) = !r by cases r <;> rfl] at z
      exact ⟨r, e, _, rfl, z⟩) fun _ _ z => z
  rcases h with ⟨b, ib, hy, h⟩ | ⟨b, ib, hx, h⟩
  · obtain ⟨ox, od, J⟩ := ins_at I ib
    obtain ⟨rfl, _⟩ := ib
    obtain rfl : v = Value.ref b := rx
    have one := StE.tc_ne (A := X.A) (b := u) I.kIn J hk.ne M.at_ M.fn hc.hm hu1 (Q := fun r s' => ∃ w, r = some w ∧ EP X pins σ Q w s') (fin (.cons (show L2.RelV (V.ref b) (Value.ref b) from rfl) (.cons ry .nil)) h)
    rcases hy with ⟨b', ib'⟩ | ⟨a, xs, rfl, ht⟩ | rfl
    · obtain ⟨ox', od', J'⟩ := ins_at I ib'
      obtain ⟨rfl, _⟩ := ib'
      obtain rfl : u = Value.ref b' := ry
      exact StE.rc_own (op := .NotEq) hu I.kIn J (fun hP => J'.type.here hP) (by simp [PySem.W.notFirst]) one
    · obtain rfl : u = Value.ref a := ry
      exact StE.rc_own (op := .NotEq) hu I.kIn J (fun hP => wpAny_typeOf (tup_at I ht) hP) (by rw [PySem.W.notFirst, hk.ut]; rfl) one
    · obtain rfl : u = Value.none := ry
      exact StE.rc_own (op := .NotEq) hu I.kIn J (fun hP => wpAny_typeOf (T := "NoneType") rfl hP) (by rw [PySem.W.notFirst, hk.un]; rfl) one
  · obtain ⟨ox, od, J⟩ := ins_at I ib
    obtain ⟨rfl, _⟩ := ib
    obtain rfl : u = Value.ref b := ry
    have back := StE.tc_ne (A := X.A) (b := v) I.kIn J hk.ne M.at_ M.fn hc.hm hu1 (Q := fun r s' => ∃ w, r = some w ∧ EP X pins σ Q w s') (fin (.cons (show L2.RelV (V.ref b) (Value.ref b) from rfl) (.cons rx .nil)) h)
    rcases hx with ⟨a, xs, rfl, ht⟩ | rfl
    · obtain rfl : v = Value.ref a := rx
      exact StE.rc_back (op := .NotEq) hu I.kIn J (tup_at I ht) hk.tu (StE.dec_tup_ne (tup_at I ht) (J.type.andThen (PySem.W.looks_mroIn I.kIn hk.tu))) back
    · obtain rfl : v = Value.none := rx
      exact StE.rc_back (op := .NotEq) hu I.kIn J (T := "NoneType") rfl hk.no StE.dec_non_ne back
end
end PF
set_option Elab.async false
set_option linter.all false
set_option maxRecDepth 100000
set_option maxHeartbeats 4000000
namespace LW
open PySem L2 Evl PySem.Spec PyProof.Rows PF
def top (i : Nat) : Stmt := PySem.Challenge.pw_pledgehall_k62_whole_plans_and_what_is_o.main.body.getD i (.Pass ⟨0, 0, 0, 0⟩)
abbrev s_part_up_to : Stmt := top 2
abbrev s_owed_of : Stmt := top 3
abbrev s_payer_of : Stmt := top 4
abbrev s_is_whole : Stmt := top 18
abbrev s_is_number : Stmt := top 19
abbrev s_check_number : Stmt := top 20
abbrev s_is_tuple_of : Stmt := top 21
abbrev s_wrong_at : Stmt := top 22
abbrev s_wrong_from_one : Stmt := top 23
abbrev s_is_letters : Stmt := top 24
abbrev s_is_name : Stmt := top 25
abbrev s_is_payer : Stmt := top 37
abbrev s_is_call : Stmt := top 38
abbrev s_is_outlay : Stmt := top 39
abbrev s_are_bounds : Stmt := top 40
abbrev s_check_payers : Stmt := top 41
abbrev s_check_calls : Stmt := top 42
abbrev s_check_outlays : Stmt := top 43
abbrev s_Calls___init__ : Stmt := nthS (C8.clsBody (top 44)) 0
abbrev s_Calls_payers : Stmt := nthS (C8.clsBody (top 44)) 1
abbrev s_Calls_calls : Stmt := nthS (C8.clsBody (top 44)) 2
abbrev s_Calls_outlays : Stmt := nthS (C8.clsBody (top 44)) 3
abbrev s_Calls_reserve : Stmt := nthS (C8.clsBody (top 44)) 4
abbrev s_Calls_bounds : Stmt := nthS (C8.clsBody (top 44)) 5
abbrev s_Calls_parts : Stmt := nthS (C8.clsBody (top 44)) 6
abbrev s_Calls___eq__ : Stmt := nthS (C8.clsBody (top 44)) 7
abbrev s_Calls_owed : Stmt := nthS (C8.clsBody (top 44)) 8
abbrev s_check_payer : Stmt := top 45
abbrev s__law_urn : Stmt := top 47
abbrev s__law_take : Stmt := top 48
abbrev s__law_of : Stmt := top 49
abbrev s__law_names : Stmt := top 50
abbrev s__law_plan : Stmt := top 51
abbrev s__law_bounds : Stmt := top 52
abbrev s__law_owed : Stmt := top 53
abbrev s__law_bent : Stmt := top 54
abbrev s__law_is_equal : Stmt := top 55
abbrev s__law_right : Stmt := top 56
abbrev s_law : Stmt := top 57
end LW
set_option Elab.async false
set_option linter.all false
set_option maxRecDepth 100000
set_option maxHeartbeats 0
namespace LW
open PySem L2 Evl PySem.Spec PyProof.Rows PF
def df_part_up_to : He.DefD := ⟨("part_up_to", none), "part_up_to", "part_up_to", defArgs s_part_up_to, defBody s_part_up_to, defScope s_part_up_to, [], []⟩
def df_owed_of : He.DefD := ⟨("owed_of", none), "owed_of", "owed_of", defArgs s_owed_of, defBody s_owed_of, defScope s_owed_of, [], []⟩
def df_payer_of : He.DefD := ⟨("payer_of", none), "payer_of", "payer_of", defArgs s_payer_of, defBody s_payer_of, defScope s_payer_of, [], []⟩
def df_is_whole : He.DefD := ⟨("is_whole", none), "is_whole", "is_whole", defArgs s_is_whole, defBody s_is_whole, defScope s_is_whole, [], []⟩
def df_is_number : He.DefD := ⟨("is_number", none), "is_number", "is_number", defArgs s_is_number, defBody s_is_number, defScope s_is_number, [], []⟩
def df_check_number : He.DefD := ⟨("check_number", none), "check_number", "check_number", defArgs s_check_number, defBody s_check_number, defScope s_check_number, [], []⟩
def df_is_tuple_of : He.DefD := ⟨("is_tuple_of", none), "is_tuple_of", "is_tuple_of", defArgs s_is_tuple_of, defBody s_is_tuple_of, defScope s_is_tuple_of, [], []⟩
def df_wrong_at : He.DefD := ⟨("wrong_at", none), "wrong_at", "wrong_at", defArgs s_wrong_at, defBody s_wrong_at, defScope s_wrong_at, [], []⟩
def df_wrong_from_one : He.DefD := ⟨("wrong_from_one", none), "wrong_from_one", "wrong_from_one", defArgs s_wrong_from_one, defBody s_wrong_from_one, defScope s_wrong_from_one, [], []⟩
def df_is_letters : He.DefD := ⟨("is_letters", none), "is_letters", "is_letters", defArgs s_is_letters, defBody s_is_letters, defScope s_is_letters, [], []⟩
def df_is_name : He.DefD := ⟨("is_name", none), "is_name", "is_name", defArgs s_is_name, defBody s_is_name, defScope s_is_name, [], []⟩
def df_is_payer : He.DefD := ⟨("is_payer", none), "is_payer", "is_payer", defArgs s_is_payer, defBody s_is_payer, defScope s_is_payer, [], []⟩
def df_is_call : He.DefD := ⟨("is_call", none), "is_call", "is_call", defArgs s_is_call, defBody s_is_call, defScope s_is_call, [], []⟩
def df_is_outlay : He.DefD := ⟨("is_outlay", none), "is_outlay", "is_outlay", defArgs s_is_outlay, defBody s_is_outlay, defScope s_is_outlay, [], []⟩
def df_are_bounds : He.DefD := ⟨("are_bounds", none), "are_bounds", "are_bounds", defArgs s_are_bounds, defBody s_are_bounds, defScope s_are_bounds, [], []⟩
def df_check_payers : He.DefD := ⟨("check_payers", none), "check_payers", "check_payers", defArgs s_check_payers, defBody s_check_payers, defScope s_check_payers, [], []⟩
def df_check_calls : He.DefD := ⟨("check_calls", none), "check_calls", "check_calls", defArgs s_check_calls, defBody s_check_calls, defScope s_check_calls, [], []⟩
def df_check_outlays : He.DefD := ⟨("check_outlays", none), "check_outlays", "check_outlays", defArgs s_check_outlays, defBody s_check_outlays, defScope s_check_outlays, [], []⟩
def df_Calls___init__ : He.DefD := ⟨("Calls", some "__init__"), "__init__", "Calls.__init__", defArgs s_Calls___init__, defBody s_Calls___init__, defScope s_Calls___init__, [], []⟩
def df_Calls___eq__ : He.DefD := ⟨("Calls", some "__eq__"), "__eq__", "Calls.__eq__", defArgs s_Calls___eq__, defBody s_Calls___eq__, defScope s_Calls___eq__, [], []⟩
def df_Calls_owed : He.DefD := ⟨("Calls", some "owed"), "owed", "Calls.owed", defArgs s_Calls_owed, defBody s_Calls_owed, defScope s_Calls_owed, [], []⟩
def df_check_payer : He.DefD := ⟨("check_payer", none), "check_payer", "check_payer", defArgs s_check_payer, defBody s_check_payer, defScope s_check_payer, [], []⟩
def df__law_urn : He.DefD := ⟨("_law_urn", none), "_law_urn", "_law_urn", defArgs s__law_urn, defBody s__law_urn, defScope s__law_urn, [], []⟩
def df__law_take : He.DefD := ⟨("_law_take", none), "_law_take", "_law_take", defArgs s__law_take, defBody s__law_take, defScope s__law_take, [], []⟩
def df__law_of : He.DefD := ⟨("_law_of", none), "_law_of", "_law_of", defArgs s__law_of, defBody s__law_of, defScope s__law_of, [], []⟩
def df__law_names : He.DefD := ⟨("_law_names", none), "_law_names", "_law_names", defArgs s__law_names, defBody s__law_names, defScope s__law_names, [], []⟩
def df__law_plan : He.DefD := ⟨("_law_plan", none), "_law_plan", "_law_plan", defArgs s__law_plan, defBody s__law_plan, defScope s__law_plan, [], []⟩
def df__law_bounds : He.DefD := ⟨("_law_bounds", none), "_law_bounds", "_law_bounds", defArgs s__law_bounds, defBody s__law_bounds, defScope s__law_bounds, [], []⟩
def df__law_owed : He.DefD := ⟨("_law_owed", none), "_law_owed", "_law_owed", defArgs s__law_owed, defBody s__law_owed, defScope s__law_owed, [], []⟩
def df__law_bent : He.DefD := ⟨("_law_bent", none), "_law_bent", "_law_bent", defArgs s__law_bent, defBody s__law_bent, defScope s__law_bent, [], []⟩
def df__law_is_equal : He.DefD := ⟨("_law_is_equal", none), "_law_is_equal", "_law_is_equal", defArgs s__law_is_equal, defBody s__law_is_equal, defScope s__law_is_equal, [], []⟩
def df__law_right : He.DefD := ⟨("_law_right", none), "_law_right", "_law_right", defArgs s__law_right, defBody s__law_right, defScope s__law_right, [], []⟩
def df_law : He.DefD := ⟨("law", none), "law", "law", defArgs s_law, defBody s_law, defScope s_law, [], []⟩
def df_Calls_payers : He5.DefA := ⟨pga "Calls" "payers", "payers", "Calls.payers", defArgs s_Calls_payers, defBody s_Calls_payers, defScope s_Calls_payers, [], []⟩
def df_Calls_calls : He5.DefA := ⟨pga "Calls" "calls", "calls", "Calls.calls", defArgs s_Calls_calls, defBody s_Calls_calls, defScope s_Calls_calls, [], []⟩
def df_Calls_outlays : He5.DefA := ⟨pga "Calls" "outlays", "outlays", "Calls.outlays", defArgs s_Calls_outlays, defBody s_Calls_outlays, defScope s_Calls_outlays, [], []⟩
def df_Calls_reserve : He5.DefA := ⟨pga "Calls" "reserve", "reserve", "Calls.reserve", defArgs s_Calls_reserve, defBody s_Calls_reserve, defScope s_Calls_reserve, [], []⟩
def df_Calls_bounds : He5.DefA := ⟨pga "Calls" "bounds", "bounds", "Calls.bounds", defArgs s_Calls_bounds, defBody s_Calls_bounds, defScope s_Calls_bounds, [], []⟩
def df_Calls_parts : He5.DefA := ⟨pga "Calls" "parts", "parts", "Calls.parts", defArgs s_Calls_parts, defBody s_Calls_parts, defScope s_Calls_parts, [], []⟩
def fns : List He.DefD := ([df_part_up_to, df_owed_of, df_payer_of, df_is_whole, df_is_number, df_check_number, df_is_tuple_of, df_wrong_at, df_wrong_from_one, df_is_letters, df_is_name, df_is_payer, df_is_call, df_is_outlay, df_are_bounds, df_check_payers, df_check_calls, df_check_outlays, df_Calls___init__, df_Calls___eq__, df_Calls_owed, df_check_payer, df__law_urn, df__law_take, df__law_of, df__law_names, df__law_plan, df__law_bounds, df__law_owed, df__law_bent] : List He.DefD) ++ ([df__law_is_equal, df__law_right, df_law] : List He.DefD)
def fnp : List He5.DefA := ([df_Calls_payers, df_Calls_calls, df_Calls_outlays, df_Calls_reserve, df_Calls_bounds, df_Calls_parts] : List He5.DefA)
def fas : List He.Fa := ([.glo "part_up_to", .glo "owed_of", .glo "payer_of", .glo "is_whole", .glo "is_number", .glo "check_number", .glo "is_tuple_of", .glo "wrong_at", .glo "wrong_from_one", .glo "is_letters", .glo "is_name", .glo "is_payer", .glo "is_call", .glo "is_outlay", .glo "are_bounds", .glo "check_payers", .glo "check_calls", .glo "check_outlays", .glo "check_payer", .glo "_law_urn", .glo "_law_take", .glo "_law_of", .glo "_law_names", .glo "_law_plan", .glo "_law_bounds", .glo "_law_owed", .glo "_law_bent", .glo "_law_is_equal", .glo "_law_right", .glo "law"] : List He.Fa) ++ ([.free "abs", .free "all", .free "any", .free "bool", .free "divmod", .free "enumerate", .free "int", .free "isinstance", .free "len", .free "max", .free "min", .free "range", .free "repr", .free "sorted", .free "str", .free "sum", .free "tuple", .free "zip", .int "ALL_PARTS" 1000, .glo "MOST_BOUNDS", .int "MOST_CALLS" 8, .int "MOST_DAY" 60, .int "MOST_DUE" 1000000, .int "MOST_IN_NAME" 8, .int "MOST_OFFICES" 4, .int "MOST_OUTLAYS" 8, .int "MOST_OUTLAY_DAY" 90, .int "MOST_PAYERS" 12, .int "MOST_UNITS" 10000000, .str "SMALL_LETTERS" "abcdefghijklmnopqrstuvwxyz"] : List He.Fa) ++ ([.int "THOUSAND" 1000, .glo "WORDS", .glo "Calls", .mkr "Calls", .meth "Calls" "__eq__", .meth "Calls" "owed", .noat "Calls" "__bool__", .noat "Calls" "__len__", .noat "Calls" "told"] : List He.Fa)
def loose : List Str := (["THOUSAND", "part_up_to", "owed_of", "payer_of", "PledgeError", "InvalidNumber", "InvalidBounds", "UnknownPayer", "Unfit", "InvalidPayers", "InvalidCalls", "InvalidOutlays", "SMALL_LETTERS", "MOST_IN_NAME", "WORDS", "is_whole", "is_number", "check_number", "is_tuple_of", "wrong_at", "wrong_from_one", "is_letters", "is_name", "MOST_PAYERS", "MOST_OFFICES", "MOST_DUE", "MOST_CALLS", "MOST_DAY", "ALL_PARTS", "MOST_OUTLAYS"] : List Str) ++ (["MOST_OUTLAY_DAY", "MOST_UNITS", "MOST_BOUNDS", "is_payer", "is_call", "is_outlay", "are_bounds", "check_payers", "check_calls", "check_outlays", "Calls", "check_payer", "_law_urn", "_law_take", "_law_of", "_law_names", "_law_plan", "_law_bounds", "_law_owed", "_law_bent", "_law_is_equal", "_law_right"] : List Str)
abbrev R : PySem.W.OpenRow := PySem.W.OpenLaw.row PySem.Challenge.rw_pledgehall_k62_whole_plans_and_what_is_o
def tf : List He.Defn := []
def exl (K : PySem.W.Frag) : List Bool := [cstB K "MOST_BOUNDS" [.int 6, .int 9, .int 3, .int 9], cstB K "WORDS" [.str "all", .str "any", .str "back", .str "cannot", .str "close", .str "day", .str "fixed", .str "gives", .str "goal", .str "hear", .str "match", .str "may", .str "met", .str "none", .str "office", .str "person", .str "some", .str "sum", .str "sure", .str "terms", .str "with"], clsIB K "Calls", isFB K "Calls", cmpIB K "Calls", propB K "Calls" "payers", propB K "Calls" "calls", propB K "Calls" "outlays", propB K "Calls" "reserve", propB K "Calls" "bounds", propB K "Calls" "parts"]
def exb (K : PySem.W.Frag) : Bool := (exl K).all id
theorem exb_at {K : PySem.W.Frag} (cm : exb K = true) (i : Nat) {b : Bool} (h : (exl K)[i]? = some b) : b = true := List.all_eq_true.mp cm _ (List.mem_of_getElem? h)
def tbs : List He.Tab := []
abbrev hk : PySem.W.Hook := hookZ 6 fas fns tbs tf exb fnp
def obs (s : PySem.W.SharedT) : AlZ := obsZ 6 fas fns tbs tf exb fnp (HandSHeadRun.getT s)
theorem obs_eq (s : PySem.W.SharedT) : obs s = hk.obs s.abs := obsZ_eq (HandSHeadRun.getT_eq s)
theorem run (w : World) : HandSHeadRun.RunEq R (PySem.W.view R.prog [57]) hk obs 100000 loose w := by
  intro os
  kernel_rfl
end LW
set_option Elab.async false
set_option linter.all false
set_option maxRecDepth 100000
set_option maxHeartbeats 4000000
/-! PFQ: min and max of a list or a tuple of ints. -/
namespace PF
open PySem L2 Evl PySem.Spec PyProof.Rows
section
variable {prog : Program} {w : World} {A : Around} {E : Value → Shared → Prop} {s : Shared} {l : Addr} {its : List Value} {ns : List Int} {Q : Value → Shared → Prop}
theorem tup_apart {t : Addr} {o : Obj} (ht : t < s.heap.objs.size) : ∀ b ∈ [s.heap.objs.size, t], b < (s.heap.push o).objs.size := fun b hb => by
  rw [Heap.size_push]
  rcases List.mem_cons.mp hb with rfl | hb
  · exact Nat.lt_succ_self _
  · rw [List.mem_singleton] at hb
    subst hb
    exact Nat.lt_succ_of_lt ht
theorem max_rawT (hh : A.handled = none) (hl : s.heap.IsTuple l its.toArray) (hi : IntsAre its ns) (hne : 0 < ns.length)
    (h : ∀ h' tk M t', (∀ b o, s.heap.get? b = some o → h'.get? b = some o) → M ∈ ns → (∀ a, a ∈ ns → a ≤ M) → Q (.int M t') { s with heap := h', toks := tk }) : wpAny (model prog w) A (call (.builtin "max") [.ref l]) Q E s := by
  obtain ⟨xs, e⟩ := hi.allInts.items
  have hn : numsOf (intItems xs).toList = ns := by rw [← e]; exact hi.numsOf
  rw [nums_intItems] at hn
  subst hn
  rw [e] at hl
  have hsz : 0 < xs.size := by simpa using hne
  have low : l < s.heap.objs.size := by obtain ⟨_, q, _⟩ := hl; exact Heap.lt_size q
  refine call_max_walk (wpAny_pyIter_tuple hl ⟨_, _, _, _, _, _, _, rfl, Walks.tuple (A := A.in1) hh s.heap.objs.size l (Nat.ne_of_lt low) (intItems xs), ⟨⟨_, Heap.get?_push_size _ rfl, rfl, rfl⟩, hl.push _⟩, tup_apart low,
    by simpa [intItems] using hsz, CmpOf.ints_gt (numAt xs) (fun _ _ => intItems_at), fun v h' tk hP hk => ?_⟩)
  have hv : (intItems xs)[argBest (fun i j => decide (numAt xs i > numAt xs j)) (xs.size - 1)]? = some v := by simpa [intItems] using hP
  obtain ⟨t, rfl⟩ := intItems_at hv
  obtain ⟨h1, h2⟩ := argBest_gt (numAt xs) (xs.size - 1)
  refine h h' tk _ t (fun b o q => hk b o (fun hm => ?_) (Heap.get?_push_of_some _ q)) ?_ fun a ha => ?_
  · rw [List.mem_singleton] at hm
    rw [hm] at q
    exact absurd (Heap.lt_size q) (Nat.lt_irrefl _)
  · rw [numAt_eq]; exact PySem.getD_mem (by rw [List.length_map, Array.length_toList]; omega)
  · obtain ⟨j, hj, rfl⟩ := mem_getD ha
    rw [List.length_map, Array.length_toList] at hj
    rw [← numAt_eq]; exact h2 j (by omega)
theorem min_rawT (hh : A.handled = none) (hl : s.heap.IsTuple l its.toArray) (hi : IntsAre its ns) (hne : 0 < ns.length)
    (h : ∀ h' tk M t', (∀ b o, s.heap.get? b = some o → h'.get? b = some o) → M ∈ ns → (∀ a, a ∈ ns → M ≤ a) → Q (.int M t') { s with heap := h', toks := tk }) : wpAny (model prog w) A (call (.builtin "min") [.ref l]) Q E s := by
  obtain ⟨xs, e⟩ := hi.allInts.items
  have hn : numsOf (intItems xs).toList = ns := by rw [← e]; exact hi.numsOf
  rw [nums_intItems] at hn
  subst hn
  rw [e] at hl
  have hsz : 0 < xs.size := by simpa using hne
  have low : l < s.heap.objs.size := by obtain ⟨_, q, _⟩ := hl; exact Heap.lt_size q
  refine call_min_walk (wpAny_pyIter_tuple hl ⟨_, _, _, _, _, _, _, rfl, Walks.tuple (A := A.in1) hh s.heap.objs.size l (Nat.ne_of_lt low) (intItems xs), ⟨⟨_, Heap.get?_push_size _ rfl, rfl, rfl⟩, hl.push _⟩, tup_apart low,
    by simpa [intItems] using hsz, CmpOf.ints_lt (numAt xs) (fun _ _ => intItems_at), fun v h' tk hP hk => ?_⟩)
  have hv : (intItems xs)[argBest (fun i j => decide (numAt xs i < numAt xs j)) (xs.size - 1)]? = some v := by simpa [intItems] using hP
  obtain ⟨t, rfl⟩ := intItems_at hv
  obtain ⟨h1, h2⟩ := argBest_lt (numAt xs) (xs.size - 1)
  refine h h' tk _ t (fun b o q => hk b o (fun hm => ?_) (Heap.get?_push_of_some _ q)) ?_ fun a ha => ?_
  · rw [List.mem_singleton] at hm
    rw [hm] at q
    exact absurd (Heap.lt_size q) (Nat.lt_irrefl _)
  · rw [numAt_eq]; exact PySem.getD_mem (by rw [List.length_map, Array.length_toList]; omega)
  · obtain ⟨j, hj, rfl⟩ := mem_getD ha
    rw [List.length_map, Array.length_toList] at hj
    rw [← numAt_eq]; exact h2 j (by omega)
end
section
variable {X : Cx} {T : List (Addr × Str)}
def rMaxT (K : PySem.W.Frag) : List V → Hp → VK → Prop := fun vs H Q => ∃ (a : Addr) (ns : List Int), vs = [V.ref a] ∧ SqT K H a (ns.map V.int) ∧ 0 < ns.length ∧ ∀ m, m ∈ ns → (∀ y, y ∈ ns → y ≤ m) → Q (.int m) H
def rMinT (K : PySem.W.Frag) : List V → Hp → VK → Prop := fun vs H Q => ∃ (a : Addr) (ns : List Int), vs = [V.ref a] ∧ SqT K H a (ns.map V.int) ∧ 0 < ns.length ∧ ∀ m, m ∈ ns → (∀ y, y ∈ ns → m ≤ y) → Q (.int m) H
theorem cr_maxT (hc : X.calm = true) : CallR X (.builtin "max") (rMaxT X.K) := by
  intro pins s σ H vs us Q I r h
  obtain ⟨a, ns, rfl, hs, hne, q⟩ := h
  obtain ⟨its, rv, hl, _⟩ := I.tuple hs
  rw [Vals.ref1 r]
  exact max_rawT (I.ok.hd hc) hl rv.ints hne fun h' tk m t' hk h1 h2 => ⟨.int _, H, I.kept hk, ⟨_, rfl⟩, q m h1 h2⟩
theorem cr_minT (hc : X.calm = true) : CallR X (.builtin "min") (rMinT X.K) := by
  intro pins s σ H vs us Q I r h
  obtain ⟨a, ns, rfl, hs, hne, q⟩ := h
  obtain ⟨its, rv, hl, _⟩ := I.tuple hs
  rw [Vals.ref1 r]
  exact min_rawT (I.ok.hd hc) hl rv.ints hne fun h' tk m t' hk h1 h2 => ⟨.int _, H, I.kept hk, ⟨_, rfl⟩, q m h1 h2⟩
def bMaxT : OpB := fun ds S => match ds with
  | [.tup xs] => (match intsOf xs with
    | some ns => (match ns.max? with
      | some m => some (.ok (.int m), S)
      | none => none)
    | none => none)
  | _ => none
def bMinT : OpB := fun ds S => match ds with
  | [.tup xs] => (match intsOf xs with
    | some ns => (match ns.min? with
      | some m => some (.ok (.int m), S)
      | none => none)
    | none => none)
  | _ => none
theorem bMaxT_ok : BltOk X T false (rMaxT X.K) bMaxT := by
  intro F μ S H ds vs Q er s rs h
  unfold bMaxT at h
  split at h
  · rename_i xs
    split at h
    · rename_i ns hn
      split at h
      · rename_i m hm
        obtain ⟨v, rfl, r⟩ := rs.inv1
        obtain ⟨b, ws, rfl, h1, h2⟩ := asT_ok s r (ds := xs) rfl
        rw [ints_rep h2 hn] at h1
        obtain ⟨q1, q2⟩ := List.max?_eq_some_iff.mp hm
        refine ⟨b, ns, rfl, h1, List.length_pos_of_mem q1, fun m' k1 k2 => ?_⟩
        have e : m' = m := Int.le_antisymm (q2 m' k1) (k2 m q1)
        subst e
        exact gp_val h s (.int _)
      · exact h.elim
    · exact h.elim
  · exact h.elim
theorem bMinT_ok : BltOk X T false (rMinT X.K) bMinT := by
  intro F μ S H ds vs Q er s rs h
  unfold bMinT at h
  split at h
  · rename_i xs
    split at h
    · rename_i ns hn
      split at h
      · rename_i m hm
        obtain ⟨v, rfl, r⟩ := rs.inv1
        obtain ⟨b, ws, rfl, h1, h2⟩ := asT_ok s r (ds := xs) rfl
        rw [ints_rep h2 hn] at h1
        obtain ⟨q1, q2⟩ := List.min?_eq_some_iff.mp hm
        refine ⟨b, ns, rfl, h1, List.length_pos_of_mem q1, fun m' k1 k2 => ?_⟩
        have e : m' = m := Int.le_antisymm (k2 m q1) (q2 m' k1)
        subst e
        exact gp_val h s (.int _)
      · exact h.elim
    · exact h.elim
  · exact h.elim
end
end PF
set_option Elab.async false
set_option linter.all false
set_option maxRecDepth 100000
set_option maxHeartbeats 4000000
/-! PF9: the plain reckoning of outcomes. -/
namespace PF
open PySem L2 Evl PySem.Spec PyProof.Rows
/-- an outcome: a value with Q, or an exception with E -/
def Pst {α : Type} (r : Out α) (Q : α → Store → Prop) (E : XV → Store → Prop) : Prop := match r with
  | none => False
  | some (.ok a, S) => Q a S
  | some (.error x, S) => E x S
abbrev NoE : XV → Store → Prop := fun _ _ => False
section
variable {α β : Type} {Q : α → Store → Prop} {E : XV → Store → Prop} {S : Store}
theorem Pst_congr {r r' : Out α} (h : r = r') : Pst r Q E = Pst r' Q E := by rw [h]
@[simp] theorem Pst_ok {a : α} : Pst (some (.ok a, S)) Q E = Q a S := rfl
@[simp] theorem Pst_err {x : XV} : Pst (some (.error x, S)) Q E = E x S := rfl
@[simp] theorem Pst_none : Pst none Q E = False := rfl
@[simp] theorem Pst_bind {r : Out β} {k : β → Store → Out α} : Pst (bindO r k) Q E = Pst r (fun a S => Pst (k a S) Q E) E := by
  unfold bindO
  split <;> rfl
@[simp] theorem Pst_stm {r : Out β} {k : β → Store → Out Fl} {ρ : PF.Env} {Q : Fl → Store → Prop} : Pst (stm ρ r k) Q E = Pst r (fun a S => Pst (k a S) Q E) (fun x S => Q (.exc x ρ) S) := by
  unfold stm
  split <;> rfl
@[simp] theorem Pst_noX {r : Out α} : Pst (noX r) Q E = Pst r Q NoE := by
  unfold noX
  split
  · rfl
  · rename_i h
    match r with
    | none => rfl
    | some (.ok a, S) => rfl
    | some (.error x, S) => exact absurd rfl (h x S)
@[simp] theorem Pst_exit {fr : Bool} {n : Nat} {r : Out Fl} {Q : D → Store → Prop} : Pst (exitF fr n r) Q E = Pst r (fun fl S => Pst (exitF fr n (some (.ok fl, S))) Q E) NoE := by
  match r with
  | none => rfl
  | some (.ok a, S) => rfl
  | some (.error x, S) => rfl
@[simp] theorem Pst_ite {c : Prop} [Decidable c] {r : Out α} : Pst (if c then r else none) Q E = (c ∧ Pst r Q E) := by
  split <;> simp_all
theorem Pst.mono {r : Out α} {Q0 : α → Store → Prop} {E0 : XV → Store → Prop} (h : Pst r Q0 E0) (hq : ∀ a S, Q0 a S → Q a S) (he : ∀ x S, E0 x S → E x S) : Pst r Q E := by
  match r, h with
  | some (.ok a, S), h => exact hq _ _ h
  | some (.error x, S), h => exact he _ _ h
theorem Pst.imp {r : Out α} {Q0 : α → Store → Prop} (h : Pst r Q0 NoE) (hq : ∀ a S, Q0 a S → Q a S) : Pst r Q E := h.mono hq fun _ _ h => h.elim
theorem Pst.eq {r : Out α} {a : α} : Pst r (fun x S' => x = a ∧ S' = S) NoE ↔ r = some (.ok a, S) := by
  match r with
  | none => exact ⟨fun h => h.elim, fun h => by cases h⟩
  | some (.ok a, S) => exact ⟨fun h => by obtain ⟨rfl, rfl⟩ := h; rfl, fun h => by cases h; exact ⟨rfl, rfl⟩⟩
  | some (.error x, S) => exact ⟨fun h => h.elim, fun h => by cases h⟩
end
theorem bindO_congr {α β : Type} {r r' : Out α} {k : α → Store → Out β} (h : r = r') : bindO r k = bindO r' k := by rw [h]
theorem stm_congr {α : Type} {ρ : PF.Env} {r r' : Out α} {k : α → Store → Out Fl} (h : r = r') : stm ρ r k = stm ρ r' k := by rw [h]
@[simp] theorem noX_ok {α : Type} {a : α} {S : Store} : noX (some (.ok a, S)) = some (.ok a, S) := rfl
/-! ### by letters -/
section
variable {ρ : PF.Env} {S : Store}
@[simp] theorem ap_var {i : Nat} : cVar i ρ S = (match ρ[i]? with | some (some d) => some (.ok d, S) | _ => none) := rfl
@[simp] theorem ap_k {d : D} : cK d ρ S = some (.ok d, S) := rfl
@[simp] theorem ap_bin {o : Op2} {a b : EX} : cBin o a b ρ S = bindO (a ρ S) fun x S => bindO (b ρ S) fun y S => o x y S := rfl
@[simp] theorem ap_un {o : D → Store → Out D} {a : EX} : cUn o a ρ S = bindO (a ρ S) fun x S => o x S := rfl
@[simp] theorem ap_nil : aNil ρ S = some (.ok [], S) := rfl
@[simp] theorem ap_cons {a : EX} {r : AX} : aCons a r ρ S = bindO (a ρ S) fun x S => bindO (r ρ S) fun xs S => some (.ok (x :: xs), S) := rfl
@[simp] theorem ap_tup {r : AX} : cTup r ρ S = bindO (r ρ S) fun xs S => if xs.length ≤ lim then some (.ok (.tup xs), S) else none := rfl
@[simp] theorem ap_lst {r : AX} : cLst r ρ S = bindO (r ρ S) fun xs S => if xs.length ≤ lim then some (.ok (.lst xs), S) else none := rfl
@[simp] theorem ap_blt {o : OpB} {r : AX} : cBlt o r ρ S = bindO (r ρ S) fun ds S => o ds S := rfl
@[simp] theorem ap_call {n : Nat} {o : OpB} {r : AX} : cCall n o r ρ S = bindO (r ρ S) fun ds S => if ds.length = n then o ds S else none := rfl
@[simp] theorem ap_callK {n m : Nat} {g : List D → List D → List D} {o : OpB} {r rk : AX} : cCallK n m g o r rk ρ S = bindO (r ρ S) fun ds S => bindO (rk ρ S) fun es S => if ds.length = n ∧ es.length = m then o (g ds es) S else none := rfl
@[simp] theorem ap_mt {o : OpM} {a : EX} {r : AX} : cMt o a r ρ S = bindO (a ρ S) fun d S => match d with
  | .loc n => bindO (r ρ S) fun ds S => o (.loc n) ds S
  | _ => none := rfl
@[simp] theorem ap_isi {t : Ty} {a : EX} : cIsi t a ρ S = bindO (a ρ S) fun x S => if x.isFn = false then some (.ok (.bl (isTy x t)), S) else none := rfl
@[simp] theorem ap_slice {a : EX} {lo hi : OX} : cSliceA a lo hi ρ S = bindO (a ρ S) fun x S => bindO (lo ρ S) fun l S => bindO (hi ρ S) fun h S => match x with
  | .tup xs => some (.ok (.tup (cutL xs l h)), S)
  | .str z => if z.length ≤ lim then some (.ok (.str (cutS z l h)), S) else none
  | d => (match asL d S with
    | some xs => some (.ok (.lst (cutL xs l h)), S)
    | none => none) := rfl
@[simp] theorem ap_sliceL {a : EX} {lo hi : OX} : cSliceL a lo hi ρ S = bindO (a ρ S) fun x S => bindO (lo ρ S) fun l S => bindO (hi ρ S) fun h S => match asL x S with
  | some xs => some (.ok (.lst (cutL xs l h)), S)
  | none => none := rfl
@[simp] theorem ap_no : cNo ρ S = some (.ok none, S) := rfl
@[simp] theorem ap_part {c : EX} : cPart c ρ S = bindO (c ρ S) fun d S => match d with
  | .int i => some (.ok (some i), S)
  | _ => none := rfl
@[simp] theorem ap_alloc {c : EX} : cAlloc c ρ S = bindO (c ρ S) fun d S => match d with
  | .lst ds => if D.pures ds = true then some (.ok (.loc S.length), S ++ [ds]) else none
  | _ => none := rfl
variable {Q : D → Store → Prop} {E : XV → Store → Prop} {QB : Bool → Store → Prop} {QF : Fl → Store → Prop}
@[simp] theorem ap_test {c : EX} : Pst (cTest c ρ S) QB E = Pst (c ρ S) (fun d S => match d with
  | .bl b => QB b S
  | _ => False) E := by
  unfold cTest
  rw [Pst_bind]
  congr 1
  funext d S
  cases d <;> rfl
@[simp] theorem ap_band {a b : BX} : Pst (bAnd a b ρ S) QB E = Pst (a ρ S) (fun x S => (x = true → Pst (b ρ S) QB E) ∧ (x = false → QB false S)) E := by
  unfold bAnd
  rw [Pst_bind]
  congr 1
  funext d S
  cases d <;> simp
@[simp] theorem ap_bor {a b : BX} : Pst (bOr a b ρ S) QB E = Pst (a ρ S) (fun x S => (x = false → Pst (b ρ S) QB E) ∧ (x = true → QB true S)) E := by
  unfold bOr
  rw [Pst_bind]
  congr 1
  funext d S
  cases d <;> simp
@[simp] theorem ap_bnot {a : BX} : Pst (bNot a ρ S) QB E = Pst (a ρ S) (fun x S => QB (!x) S) E := by
  unfold bNot
  rw [Pst_bind]
  rfl
@[simp] theorem ap_byes : bYes ρ S = some (.ok true, S) := rfl
@[simp] theorem ap_and {a b : EX} : Pst (cAnd a b ρ S) Q E = Pst (a ρ S) (fun x S => match x with
  | .bl x => (x = true → Pst (b ρ S) Q E) ∧ (x = false → Q (.bl false) S)
  | _ => False) E := by
  unfold cAnd
  rw [Pst_bind]
  congr 1
  funext d S
  cases d <;> try rfl
  rename_i b
  cases b <;> simp
@[simp] theorem ap_or {a b : EX} : Pst (cOr a b ρ S) Q E = Pst (a ρ S) (fun x S => match x with
  | .bl x => (x = false → Pst (b ρ S) Q E) ∧ (x = true → Q (.bl true) S)
  | _ => False) E := by
  unfold cOr
  rw [Pst_bind]
  congr 1
  funext d S
  cases d <;> try rfl
  rename_i b
  cases b <;> simp
@[simp] theorem ap_not {a : EX} : Pst (cNot a ρ S) Q E = Pst (a ρ S) (fun x S => match x with
  | .bl x => Q (.bl (!x)) S
  | _ => False) E := by
  unfold cNot
  rw [Pst_bind]
  congr 1
  funext d S
  cases d <;> rfl
@[simp] theorem ap_ife {c : BX} {a b : EX} : Pst (cIfE c a b ρ S) Q E = Pst (c ρ S) (fun x S => (x = true → Pst (a ρ S) Q E) ∧ (x = false → Pst (b ρ S) Q E)) E := by
  unfold cIfE
  rw [Pst_bind]
  congr 1
  funext d S
  cases d <;> simp
@[simp] theorem ap_chain {o o' : Op2} {a b c : EX} : Pst (cChain o o' a b c ρ S) Q E = Pst (a ρ S) (fun x S => Pst (b ρ S) (fun y S => Pst (o x y S) (fun z S => match z with
  | .bl z => (z = true → Pst (c ρ S) (fun w S => Pst (o' y w S) Q E) E) ∧ (z = false → Q (.bl false) S)
  | _ => False) E) E) E := by
  unfold cChain
  simp only [Pst_bind]
  congr 1
  funext x S
  congr 1
  funext y S
  congr 1
  funext z S
  cases z <;> try rfl
  rename_i b
  cases b <;> simp
/-! statements -/
@[simp] theorem st_nil : sNil ρ S = some (.ok (.nx ρ), S) := rfl
@[simp] theorem st_brk : sBrk ρ S = some (.ok (.brk ρ), S) := rfl
@[simp] theorem st_ct : sCt ρ S = some (.ok (.ct ρ), S) := rfl
@[simp] theorem st_ret {c : EX} : sRet c ρ S = stm ρ (c ρ S) fun d S => some (.ok (.ret d), S) := rfl
@[simp] theorem st_retL {c : EX} : sRetL c ρ S = stm ρ (c ρ S) fun d S => match d with
  | .loc n => some (.ok (.ret (.loc n)), S)
  | _ => none := rfl
@[simp] theorem st_expr {c : EX} : sExpr c ρ S = stm ρ (c ρ S) fun _ S => some (.ok (.nx ρ), S) := rfl
@[simp] theorem st_set {i : Nat} {c : EX} : sSet i c ρ S = stm ρ (c ρ S) fun d S => some (.ok (.nx (ρ.set i (some d))), S) := rfl
@[simp] theorem st_par {i j : Nat} {r : AX} : sPar i j r ρ S = stm ρ (r ρ S) fun ds S => match ds with
  | [x, y] => some (.ok (.nx ((ρ.set i (some x)).set j (some y))), S)
  | _ => none := rfl
@[simp] theorem st_asg {t : TX} {c : EX} : sAsg t c ρ S = stm ρ (c ρ S) fun d S => bindO (noX (t d ρ S)) fun ρ' S => some (.ok (.nx ρ'), S) := rfl
@[simp] theorem st_stuck : sStuck ρ S = none := rfl
@[simp] theorem tg_name {i : Nat} {d : D} : tName i d ρ S = some (.ok (ρ.set i (some d)), S) := rfl
@[simp] theorem tg_tup {n : Nat} {c : TXs} {ds : List D} : tTup n c (.tup ds) ρ S = if ds.length = n then c ds ρ S else none := rfl
@[simp] theorem tg_nil : tsNil [] ρ S = some (.ok ρ, S) := rfl
@[simp] theorem tg_cons {t : TX} {r : TXs} {d : D} {ds : List D} : tsCons t r (d :: ds) ρ S = bindO (t d ρ S) fun ρ1 S => r ds ρ1 S := rfl
@[simp] theorem tg_sub {a b : EX} {d : D} : tSub a b d ρ S = bindO (noX (a ρ S)) fun o S => bindO (noX (b ρ S)) fun i S => match o, i with
  | .loc n, .int k => (match S[n]? with
    | some ds => (match ixN ds.length k with
      | some j => if d.pure = true then some (.ok ρ, S.set n (ds.set j d)) else none
      | none => none)
    | none => none)
  | _, _ => none := rfl
@[simp] theorem st_seq {a b : SX} : Pst (sSeq a b ρ S) QF E = Pst (a ρ S) (fun fl S => match fl with
  | .nx ρ' => Pst (b ρ' S) QF E
  | fl => QF fl S) E := by
  unfold sSeq
  rw [Pst_bind]
  congr 1
  funext d S
  cases d <;> rfl
@[simp] theorem st_if {c : BX} {a b : SX} : Pst (sIf c a b ρ S) QF E = Pst (c ρ S) (fun x S => (x = true → Pst (a ρ S) QF E) ∧ (x = false → Pst (b ρ S) QF E)) (fun x S => QF (.exc x ρ) S) := by
  unfold sIf
  rw [Pst_stm]
  congr 1
  funext d S
  cases d <;> simp
end
/-! ### operators on letters -/
section
variable {S : Store}
@[simp] theorem o_sub {i j : Int} : oSub (.int i) (.int j) S = some (.ok (.int (i - j)), S) := rfl
@[simp] theorem o_add {i j : Int} : oAddA (.int i) (.int j) S = some (.ok (.int (i + j)), S) := rfl
@[simp] theorem o_mul {i j : Int} : oMul (.int i) (.int j) S = if i.natAbs < 18446744073709551616 ∨ j.natAbs < 18446744073709551616 then some (.ok (.int (i * j)), S) else none := by
  simp [oMul, oI]
@[simp] theorem o_div {i j : Int} : oDiv (.int i) (.int j) S = if j ≠ 0 ∧ j.natAbs < 1073741824 then some (.ok (.int (i.fdiv j)), S) else none := by
  simp [oDiv, oI]
@[simp] theorem o_mod {i j : Int} : oMod (.int i) (.int j) S = if j ≠ 0 then some (.ok (.int (i.fmod j)), S) else none := by
  simp [oMod, oI]
@[simp] theorem o_pow {i j : Int} : oPow (.int i) (.int j) S = if 0 ≤ j ∧ j ≤ 1000 ∧ i.natAbs < 18446744073709551616 then some (.ok (.int (i ^ j.toNat)), S) else none := by
  simp [oPow, oI]
@[simp] theorem o_lt {i j : Int} : oLtA (.int i) (.int j) S = some (.ok (.bl (decide (i < j))), S) := rfl
@[simp] theorem o_le {i j : Int} : oLe (.int i) (.int j) S = some (.ok (.bl (decide (i ≤ j))), S) := rfl
@[simp] theorem o_gt {i j : Int} : oGt (.int i) (.int j) S = some (.ok (.bl (decide (j < i))), S) := rfl
@[simp] theorem o_ge {i j : Int} : oGe (.int i) (.int j) S = some (.ok (.bl (decide (j ≤ i))), S) := rfl
@[simp] theorem o_neg {i : Int} : oNeg (.int i) S = some (.ok (.int (-i)), S) := rfl
@[simp] theorem o_eq {i j : Int} : oEq (.int i) (.int j) S = some (.ok (.bl (i == j)), S) := by
  simp [oEq, told, eqOk, D.pure, D.eqv, D.py, SeqAt.shaped, PyData.canLay0, PyData.depth]
@[simp] theorem o_ne {i j : Int} : oNe (.int i) (.int j) S = some (.ok (.bl (!(i == j))), S) := by
  simp [oNe, told, eqOk, D.pure, D.eqv, D.py, SeqAt.shaped, PyData.canLay0, PyData.depth]
@[simp] theorem o_addT {xs ys : List D} : oAddA (.tup xs) (.tup ys) S = if xs.length + ys.length ≤ lim then some (.ok (.tup (xs ++ ys)), S) else none := by
  simp only [oAddA, oAdd]
  split
  · rename_i h
    split at h
    · cases h; simp [*]
    · cases h
  · rename_i h
    split at h
    · cases h
    · simp [oCat, asM, *]
@[simp] theorem o_addL {xs ys : List D} : oAddA (.lst xs) (.lst ys) S = if xs.length + ys.length ≤ lim then some (.ok (.lst (xs ++ ys)), S) else none := rfl
@[simp] theorem o_ixT {xs : List D} {i : Int} : oIx (.tup xs) (.int i) S = (match atI xs i with
  | some d => some (.ok d, S)
  | none => none) := rfl
@[simp] theorem o_ixL {xs : List D} {i : Int} : oIx (.lst xs) (.int i) S = (match atI xs i with
  | some d => some (.ok d, S)
  | none => none) := rfl
@[simp] theorem o_ixF {xs : List D} {i : Int} : oIx (.fz xs) (.int i) S = (match atI xs i with
  | some d => some (.ok d, S)
  | none => none) := rfl
@[simp] theorem o_ixC {n : Nat} {i : Int} : oIx (.loc n) (.int i) S = (match S[n]? with
  | some ds => (match atI ds i with
    | some d => some (.ok d, S)
    | none => none)
  | none => none) := by
  first | (simp only [oIx, asS, asL]; done) | (simp only [oIx, asS, asL]; rfl)
end
/-! ### built-ins on letters -/
section
variable {S : Store}
@[simp] theorem b_lenT {xs : List D} : bLen [.tup xs] S = some (.ok (.int xs.length), S) := rfl
@[simp] theorem b_lenL {xs : List D} : bLen [.lst xs] S = some (.ok (.int xs.length), S) := rfl
@[simp] theorem b_lenF {xs : List D} : bLen [.fz xs] S = some (.ok (.int xs.length), S) := rfl
@[simp] theorem b_lenC {n : Nat} : bLen [.loc n] S = (match S[n]? with
    | some xs => some (.ok (.int xs.length), S)
    | none => none) := rfl
@[simp] theorem b_abs {i : Int} : bAbs [.int i] S = some (.ok (.int (if i < 0 then -i else i)), S) := rfl
@[simp] theorem b_int {i : Int} : bInt [.int i] S = some (.ok (.int i), S) := rfl
@[simp] theorem b_min2 {i j : Int} : bMin2 [.int i, .int j] S = some (.ok (.int (if j < i then j else i)), S) := rfl
@[simp] theorem b_max2 {i j : Int} : bMax2 [.int i, .int j] S = some (.ok (.int (if i < j then j else i)), S) := rfl
@[simp] theorem b_tupleL {xs : List D} : bTuple [.lst xs] S = some (.ok (.tup xs), S) := rfl
@[simp] theorem b_tupleT {xs : List D} : bTuple [.tup xs] S = some (.ok (.tup xs), S) := rfl
@[simp] theorem b_tupleC {n : Nat} : bTuple [.loc n] S = (match S[n]? with
    | some xs => some (.ok (.tup xs), S)
    | none => none) := rfl
@[simp] theorem b_listT {xs : List D} : bList [.tup xs] S = some (.ok (.lst xs), S) := rfl
theorem intsOf_map {ns : List Int} : intsOf (ns.map D.int) = some ns := by
  induction ns with
  | nil => rfl
  | cons n ns ih => simp [intsOf, ih]
theorem blsOf_map {ns : List Bool} : blsOf (ns.map D.bl) = some ns := by
  induction ns with
  | nil => rfl
  | cons n ns ih => simp [blsOf, ih]
theorem b_all {ns : List Bool} : bAll [.lst (ns.map D.bl)] S = some (.ok (.bl (ns.all id)), S) := by
  simp [bAll, bL1, asL, blsOf_map]
theorem b_any {ns : List Bool} : bAny [.lst (ns.map D.bl)] S = some (.ok (.bl (ns.any id)), S) := by
  simp [bAny, bL1, asL, blsOf_map]
theorem b_sorted {ns : List Int} : bSorted [.lst (ns.map D.int)] S = some (.ok (.lst ((sortI ns).map D.int)), S) := by
  simp [bSorted, bL1, asL, intsOf_map]
theorem b_sum {ns : List Int} : bSum [.lst (ns.map D.int)] S = some (.ok (.int ns.sum), S) := by
  simp [bSum, bL1, asL, intsOf_map]
@[simp] theorem b_divmod {i j : Int} : bDivmod [.int i, .int j] S = if 0 < j ∧ j < 1073741824 then some (.ok (.tup [.int (i / j), .int (i % j)]), S) else none := rfl
@[simp] theorem m_append {n : Nat} {x : D} : mAppend (.loc n) [x] S = (match S[n]? with
    | some xs => if x.pure = true ∧ xs.length < lim then some (.ok .non, S.set n (xs ++ [x])) else none
    | none => none) := rfl
@[simp] theorem is_nonN {S : Store} : oIsN .non .non S = some (.ok (.bl true), S) := rfl
@[simp] theorem is_nonI {i : Int} : oIsN (.int i) .non S = some (.ok (.bl false), S) := rfl
@[simp] theorem not_nonN {S : Store} : oNotN .non .non S = some (.ok (.bl false), S) := rfl
@[simp] theorem not_nonI {i : Int} : oNotN (.int i) .non S = some (.ok (.bl true), S) := rfl
@[simp] theorem is_nonT {xs : List D} : oIsN (.tup xs) .non S = some (.ok (.bl false), S) := rfl
@[simp] theorem not_nonT {xs : List D} : oNotN (.tup xs) .non S = some (.ok (.bl true), S) := rfl
end
/-! ### a call's end -/
section
variable {fr : Bool} {n0 : Nat} {S : Store} {ρ : PF.Env}
theorem call_pst {n : Nat} {b : SX} {ds : List D} {Q : D → Store → Prop} {E : XV → Store → Prop} : Pst (callF fr n b ds S) Q E = Pst (b (startE n ds) S) (fun fl S1 => Pst (exitF fr S.length (some (.ok fl, S1))) Q E) NoE := by
  unfold callF
  rw [Pst_exit]
@[simp] theorem exit_nx : exitF false n0 (some (.ok (.nx ρ), S)) = some (.ok .non, S.take n0) := rfl
@[simp] theorem exit_int {i : Int} : exitF fr n0 (some (.ok (.ret (.int i)), S)) = some (.ok (.int i), S.take n0) := rfl
@[simp] theorem exit_bl {i : Bool} : exitF fr n0 (some (.ok (.ret (.bl i)), S)) = some (.ok (.bl i), S.take n0) := rfl
@[simp] theorem exit_non : exitF fr n0 (some (.ok (.ret .non), S)) = some (.ok .non, S.take n0) := rfl
@[simp] theorem exit_str {i : Str} : exitF fr n0 (some (.ok (.ret (.str i)), S)) = some (.ok (.str i), S.take n0) := rfl
@[simp] theorem exit_tup {ds : List D} : exitF fr n0 (some (.ok (.ret (.tup ds)), S)) = if D.pures ds = true then some (.ok (.tup ds), S.take n0) else none := rfl
@[simp] theorem exit_lst {ds : List D} : exitF fr n0 (some (.ok (.ret (.lst ds)), S)) = if D.pures ds = true then some (.ok (.lst ds), S.take n0) else none := rfl
@[simp] theorem exit_tpn {ds : List D} : exitF fr n0 (some (.ok (.ret (.tpn ds)), S)) = if D.pures ds = true then some (.ok (.tpn ds), S.take n0) else none := rfl
theorem exit_pure {d : D} (h : d.pure = true) : exitF fr n0 (some (.ok (.ret d), S)) = some (.ok d, S.take n0) := by
  cases d <;> simp_all [D.pure] <;> first | rfl | skip
theorem exit_loc {n : Nat} {ds : List D} (h : n0 ≤ n) (e : S[n]? = some ds) : exitF fr n0 (some (.ok (.ret (.loc n)), S)) = some (.ok (.lst ds), S.take n0) := by
  simp only [exitF, exitD, if_neg (Nat.not_lt.mpr h), e]
end
/-! ### loops -/
section
variable {QF : Fl → Store → Prop} {E : XV → Store → Prop} {Q : D → Store → Prop} {ρ : PF.Env} {S : Store}
@[simp] theorem st_for {src : IX} {t : TX} {b : SX} : Pst (sFor src t b ρ S) QF E = Pst (src ρ S) (fun src S => match srcAt src S with
  | some ds => Pst (forGo src t b ds.length 0 ρ S) QF E
  | none => False) (fun x S => QF (.exc x ρ) S) := by
  unfold sFor
  rw [Pst_stm]
  congr 1
  funext src S
  cases srcAt src S <;> rfl
theorem for_inv {src : Src} {t : TX} {b : SX} {ds : List D} (I : Nat → PF.Env → Store → Prop) (hs : ∀ i ρ S, I i ρ S → srcAt src S = some ds)
    (step : ∀ i d ρ S, ds[i]? = some d → I i ρ S → Pst (t d ρ S) (fun ρ1 S => Pst (b ρ1 S) (fun fl S => match fl with
      | .nx ρ' => I (i + 1) ρ' S
      | .ct ρ' => I (i + 1) ρ' S
      | .brk ρ' => QF (.nx ρ') S
      | fl => QF fl S) E) NoE) (fin : ∀ ρ S, I ds.length ρ S → QF (.nx ρ) S) :
    ∀ (k i : Nat) (ρ : PF.Env) (S : Store), k + i = ds.length → I i ρ S → Pst (forGo src t b k i ρ S) QF E
  | 0, i, ρ, S, hk, hi => by
    have hi' : i = ds.length := by omega
    subst hi'
    simp only [forGo, hs _ _ _ hi, Nat.le_refl, if_true]
    exact fin _ _ hi
  | k + 1, i, ρ, S, hk, hi => by
    have h1 : i < ds.length := by omega
    have h2 : ds[i]? = some ds[i] := List.getElem?_eq_getElem h1
    simp only [forGo, hs _ _ _ hi, h2, Pst_bind, Pst_noX]
    refine (step i _ ρ S h2 hi).mono (fun ρ1 S1 h => h.mono (fun fl S2 h => ?_) fun _ _ h => h) fun _ _ h => h
    match fl, h with
    | .nx ρ', h => exact for_inv I hs step fin k (i + 1) ρ' S2 (by omega) h
    | .ct ρ', h => exact for_inv I hs step fin k (i + 1) ρ' S2 (by omega) h
    | .brk ρ', h => exact h
    | .ret d, h => exact h
    | .exc x ρ', h => exact h
theorem for_of {src : Src} {t : TX} {b : SX} {ds : List D} (I : Nat → PF.Env → Store → Prop) (h0 : I 0 ρ S) (hs : ∀ i ρ S, I i ρ S → srcAt src S = some ds)
    (step : ∀ i d ρ S, ds[i]? = some d → I i ρ S → Pst (t d ρ S) (fun ρ1 S => Pst (b ρ1 S) (fun fl S => match fl with
      | .nx ρ' => I (i + 1) ρ' S
      | .ct ρ' => I (i + 1) ρ' S
      | .brk ρ' => QF (.nx ρ') S
      | fl => QF fl S) E) NoE) (fin : ∀ ρ S, I ds.length ρ S → QF (.nx ρ) S) : Pst (forGo src t b ds.length 0 ρ S) QF E :=
  for_inv I hs step fin ds.length 0 ρ S rfl h0
/-- a while: I k with k turns left at most -/
theorem while_inv {c : BX} {b : SX} (I : Nat → PF.Env → Store → Prop)
    (step : ∀ k ρ S, I k ρ S → Pst (c ρ S) (fun x S => (x = true → ∃ k', k = k' + 1 ∧ Pst (b ρ S) (fun fl S => match fl with
      | .nx ρ' => I k' ρ' S
      | .ct ρ' => I k' ρ' S
      | .brk ρ' => QF (.nx ρ') S
      | fl => QF fl S) E) ∧ (x = false → QF (.nx ρ) S)) (fun x S => QF (.exc x ρ) S)) :
    ∀ (m k : Nat) (ρ : PF.Env) (S : Store), k < m → I k ρ S → Pst (sWhile m c b ρ S) QF E
  | 0, k, ρ, S, hk, hi => absurd hk (Nat.not_lt_zero _)
  | m + 1, k, ρ, S, hk, hi => by
    have h := step k ρ S hi
    show Pst (whileGo c b (m + 1) ρ S) QF E
    unfold whileGo
    rw [Pst_stm]
    refine h.mono (fun x S1 h => ?_) fun _ _ h => h
    cases x with
    | false => exact h.2 rfl
    | true =>
      obtain ⟨k', hk', h2⟩ := h.1 rfl
      subst hk'
      show Pst (bindO (b ρ S1) _) QF E
      rw [Pst_bind]
      refine h2.mono (fun fl S2 h => ?_) fun _ _ h => h
      cases fl with
      | nx ρ' => exact while_inv I step m k' ρ' S2 (by omega) h
      | ct ρ' => exact while_inv I step m k' ρ' S2 (by omega) h
      | brk ρ' => exact h
      | ret d => exact h
      | exc x ρ' => exact h
@[simp] theorem src_items {ds : List D} : srcAt (.items ds) S = some ds := rfl
@[simp] theorem src_cell {n : Nat} : srcAt (.cell n) S = S[n]? := rfl
@[simp] theorem sq_tup {c : EX} : cSeqA c ρ S = bindO (c ρ S) fun d S => match srcOfA d with
  | some src => some (.ok src, S)
  | none => none := rfl
@[simp] theorem sq_range {c : AX} : cRange1 c ρ S = bindO (c ρ S) fun ds S => match ds with
  | [.int n] => if n < 1000000000 ∧ -1000000000 < n then some (.ok (.items (ranged 0 n.toNat)), S) else none
  | _ => none := rfl
@[simp] theorem sq_range2 {c : AX} : cRange2 c ρ S = bindO (c ρ S) fun ds S => match ds with
  | [.int m, .int n] => if (n < 1000000000 ∧ -1000000000 < n) ∧ (m < 1000000000 ∧ -1000000000 < m) then some (.ok (.items (ranged m (n - m).toNat)), S) else none
  | _ => none := rfl
@[simp] theorem sq_ofT {ds : List D} : srcOfA (.tup ds) = some (.items ds) := rfl
@[simp] theorem sq_ofL {ds : List D} : srcOfA (.lst ds) = some (.items ds) := rfl
@[simp] theorem sq_ofF {ds : List D} : srcOfA (.fz ds) = some (.items ds) := rfl
@[simp] theorem sq_ofC {n : Nat} : srcOfA (.loc n) = some (.cell n) := rfl
/-- a list that is made: I after i of the source's items, with what is made -/
theorem comp_inv {src : IX} {js : List Nat} {tgt : TX} {test : BX} {elt : EX} {so : Src} {S0 : Store} {ds : List D} (I : Nat → List D → Store → Prop)
    (hsrc : src ρ S = some (.ok so, S0)) (hs : ∀ i acc S1, I i acc S1 → S1.length = S0.length ∧ srcAt so (S1 ++ [acc]) = some ds) (hs0 : srcAt so S0 = some ds) (hl : ds.length ≤ lim) (h0 : I 0 [] S0)
    (step : ∀ i d acc S1, ds[i]? = some d → I i acc S1 → Pst (tgt d (wipeE ρ js) (S1 ++ [acc])) (fun ρ1 S2 => Pst (test ρ1 S2) (fun b S2 =>
      (b = true → Pst (elt ρ1 S2) (fun y S2 => ∃ S3, S2 = S3 ++ [acc] ∧ y.pure = true ∧ I (i + 1) (acc ++ [y]) S3) NoE) ∧ (b = false → ∃ S3, S2 = S3 ++ [acc] ∧ I (i + 1) acc S3)) NoE) NoE)
    (fin : ∀ acc S1, I ds.length acc S1 → Q (.lst acc) S1) : Pst (cComp src js tgt test elt ρ S) Q E := by
  unfold cComp
  rw [hsrc, bindO_ok]
  simp only [hs0, Pst_bind]
  have go : ∀ (k i : Nat) (acc : List D) (S1 : Store), k + i = ds.length → acc.length ≤ i → I i acc S1 →
      Pst (compGo so S0.length (fun d S => bindO (tgt d (wipeE ρ js) S) fun ρ1 S => bindO (test ρ1 S) fun b S => match b with
      | true => bindO (elt ρ1 S) fun y S => some (.ok (some y), S)
      | false => some (.ok none, S)) k i (S1 ++ [acc])) (fun _ S' => ∃ acc S1, S' = S1 ++ [acc] ∧ I ds.length acc S1) E := by
    intro k
    induction k with
    | zero =>
      intro i acc S1 hk ha hi
      have hi' : i = ds.length := by omega
      subst hi'
      simp only [compGo, (hs _ _ _ hi).2, Nat.le_refl, if_true, Pst_ok]
      exact ⟨acc, S1, rfl, hi⟩
    | succ k ih =>
      intro i acc S1 hk ha hi
      have h1 : i < ds.length := by omega
      have h2 : ds[i]? = some ds[i] := List.getElem?_eq_getElem h1
      simp only [compGo, (hs _ _ _ hi).2, h2, Pst_bind, Pst_noX]
      refine (step i _ acc S1 h2 hi).mono (fun ρ1 S2 h => h.mono (fun b S2 h => ?_) fun _ _ h => h) fun _ _ h => h
      match b, h with
      | false, h =>
        obtain ⟨S3, rfl, hi3⟩ := h.2 rfl
        exact ih (i + 1) acc S3 (by omega) (by omega) hi3
      | true, h =>
        rw [Pst_bind]
        refine (h.1 rfl).mono (fun y S2 h => ?_) fun _ _ h => h
        obtain ⟨S3, rfl, hp, hi3⟩ := h
        have l3 := (hs _ _ _ hi3).1
        have e1 : (S3 ++ [acc])[S0.length]? = some acc := by rw [← l3]; simp
        have e2 : (S3 ++ [acc]).set S0.length (acc ++ [y]) = S3 ++ [acc ++ [y]] := by rw [← l3]; simp
        have e3 : acc.length < lim := by omega
        simp only [Pst_ok, e1, e2, hp, e3, and_self, if_true]
        exact ih (i + 1) (acc ++ [y]) S3 (by omega) (by simp; omega) hi3
  refine (go ds.length 0 [] S0 rfl (Nat.le_refl _) h0).mono (fun _ S' h => ?_) fun _ _ h => h
  obtain ⟨acc, S1, rfl, hi⟩ := h
  have l3 := (hs _ _ _ hi).1
  have e1 : (S1 ++ [acc])[S0.length]? = some acc := by rw [← l3]; simp
  have e2 : (S1 ++ [acc]).take S0.length = S1 := by rw [← l3]; simp
  simp only [e1, e2, Pst_ok]
  exact fin acc S1 hi
/-- a list that is made of a source by a function, with nothing written -/
theorem comp_pure {src : IX} {js : List Nat} {tgt : TX} {test : BX} {elt : EX} {so : Src} {ds : List D} (g : D → Option D)
    (hsrc : src ρ S = some (.ok so, S)) (hs : srcAt so S = some ds) (hs1 : ∀ acc, srcAt so (S ++ [acc]) = some ds) (hl : ds.length ≤ lim)
    (hg : ∀ d ∈ ds, ∀ acc, Pst (tgt d (wipeE ρ js) (S ++ [acc])) (fun ρ1 S2 => Pst (test ρ1 S2) (fun b S2 =>
      (b = true → Pst (elt ρ1 S2) (fun y S2 => S2 = S ++ [acc] ∧ y.pure = true ∧ g d = some y) NoE) ∧ (b = false → S2 = S ++ [acc] ∧ g d = none)) NoE) NoE) :
    cComp src js tgt test elt ρ S = some (.ok (.lst (ds.filterMap g)), S) := by
  refine Pst.eq.mp (comp_inv (so := so) (ds := ds) (fun i acc S1 => S1 = S ∧ acc = (ds.take i).filterMap g) hsrc ?_ hs hl ⟨rfl, rfl⟩ ?_ ?_)
  · rintro i acc S1 ⟨rfl, rfl⟩
    exact ⟨rfl, hs1 _⟩
  · rintro i d acc S1 hd ⟨rfl, ha⟩
    have hm : d ∈ ds := List.mem_of_getElem? hd
    have ht : ds.take (i + 1) = ds.take i ++ [d] := by
      have h1 : i < ds.length := by
        rcases Nat.lt_or_ge i ds.length with h | h
        · exact h
        · rw [List.getElem?_eq_none h] at hd; cases hd
      rw [List.getElem?_eq_getElem h1] at hd
      cases hd
      exact List.take_succ_eq_append_getElem h1
    refine (hg d hm acc).mono (fun ρ1 S2 h => h.mono (fun b S2 h => ⟨fun hb => (h.1 hb).mono (fun y S2 h => ?_) fun _ _ h => h, fun hb => ?_⟩) fun _ _ h => h) fun _ _ h => h
    · exact ⟨S1, h.1, h.2.1, rfl, by rw [ht, List.filterMap_append, ← ha]; simp [h.2.2]⟩
    · exact ⟨S1, (h.2 hb).1, rfl, by rw [ht, List.filterMap_append, ← ha]; simp [(h.2 hb).2]⟩
  · rintro acc S1 ⟨rfl, rfl⟩
    rw [List.take_length]
    exact ⟨rfl, rfl⟩
end
section
variable {ρ : PF.Env} {S : Store}
@[simp] theorem ap_lam {l : LamSite} : cLam l ρ S = some (.ok (.fn l), S) := rfl
@[simp] theorem ap_back {a : EX} : cBack a ρ S = bindO (a ρ S) fun x S => match asL x S with
  | some xs => some (.ok (.lst xs.reverse), S)
  | none => none := rfl
theorem pure_noFn {d : D} (h : d.pure = true) : d.isFn = false := by cases d <;> first | rfl | (cases h)
end
end PF
set_option Elab.async false
set_option linter.all false
set_option maxRecDepth 100000
set_option maxHeartbeats 4000000
/-! PFP: a, b, c = x, y, z. -/
namespace PF
open PySem L2 Evl PySem.Spec PyProof.Rows
section
variable {X : Cx} {T : List (Addr × Str)} {W : WX} {fr : Bool}
def sPar3 (i j l : Nat) (r : AX) : SX := fun ρ S => stm ρ (r ρ S) fun ds S => match ds with
  | [x, y, z] => some (.ok (.nx (((ρ.set i (some x)).set j (some y)).set l (some z))), S)
  | _ => none
theorem Reps.inv3 {K : PySem.W.Frag} {F : Hp} {μ : List MA} {x y z : D} {vs : List V} (r : Reps K F μ [x, y, z] vs) : ∃ u v w, vs = [u, v, w] ∧ Rep K F μ x u ∧ Rep K F μ y v ∧ Rep K F μ z w := by
  cases r with
  | cons r1 r =>
    obtain ⟨v, w, rfl, r2, r3⟩ := r.inv2
    exact ⟨_, v, w, rfl, r1, r2, r3⟩
theorem rs_par3 {i j l : Nat} {x y z : Str} {a b c : Expr} {cx : AX} {px py pz pt : Pos} {kt k2 pt2} {pos : Pos} (hc : X.calm = true) (hN : X.N.Nodup) (ha : RA T X W [a, b, c] cx) (hi : X.N[i]? = some x := by rfl) (hj : X.N[j]? = some y := by rfl) (hl : X.N[l]? = some z := by rfl)
    (hij : i ≠ j := by decide) (hil : i ≠ l := by decide) (hjl : j ≠ l := by decide)
    (hx : X.env.scope.names.lookup x = some .local := by rfl) (hy : X.env.scope.names.lookup y = some .local := by rfl) (hz : X.env.scope.names.lookup z = some .local := by rfl)
    (hw : swappedStores [.Tuple [.Name x px, .Name y py, .Name z pz] kt pt] (.Tuple [a, b, c] k2 pt2) X.env = pure (some [x, y, z]) := by rfl)
    (hs : swapsWithSole [.Tuple [.Name x px, .Name y py, .Name z pz] kt pt] (.Tuple [a, b, c] k2 pt2) pos.line X.env = pure false := by rfl) :
    RS T fr X W (.Assign [.Tuple [.Name x px, .Name y py, .Name z pz] kt pt] (.Tuple [a, b, c] k2 pt2) pos) (sPar3 i j l cx) := by
  obtain ⟨t, p, f⟩ := ha
  refine ⟨_, ps_par3 hc hN hi hj hl hij hil hjl hx hy hz p hw hs, fun σ ρ F μ S H D s hE g => f σ ρ F μ S H _ s hE (GP.stm g hE fun ds F1 μ1 H1 S1 e1 q1 s1 g1 vs r => ?_)⟩
  split at g1
  · obtain ⟨u, v, w, rfl, r1, r2, r3⟩ := r.inv3
    exact ⟨u, v, w, rfl, GP.here g1 s1 _ ((((hE.mono e1 q1).set r1).set r2).set r3)⟩
  · exact g1.elim
end
theorem s_par3 {ρ : PF.Env} {S : Store} {Q : Fl → Store → Prop} {E : XV → Store → Prop} {i j l : Nat} {r : AX} (h : Pst (r ρ S) (fun ds S => ∃ x y z, ds = [x, y, z] ∧ Q (.nx (((ρ.set i (some x)).set j (some y)).set l (some z))) S) (fun x S => Q (.exc x ρ) S)) : Pst (sPar3 i j l r ρ S) Q E := by
  unfold sPar3
  rw [Pst_stm]
  refine h.mono (fun d S h => ?_) fun _ _ h => h
  obtain ⟨x, y, z, rfl, h⟩ := h
  exact h
end PF
set_option Elab.async false
set_option linter.all false
set_option maxRecDepth 100000
set_option maxHeartbeats 4000000
/-! PFDC: {k: v for target in iter}: a dict. -/
namespace PF
open PySem L2 Evl PySem.Spec PyProof.Rows
/-- a key -/
def keyD : D → Option Key
  | .int i => some (.inl i)
  | .str x => some (.inr x)
  | _ => none
theorem keyD_ok {K : PySem.W.Frag} {F : Hp} {μ : List MA} {d : D} {v : V} {k : Key} (r : Rep K F μ d v) (h : keyD d = some k) : v = kV k := by
  cases d <;> cases h <;> cases r <;> rfl
def putD (kds : List (Key × D)) (k : Key) (d : D) : List (Key × D) := if (kds.any fun kv => decide (kv.1 = k)) = true then kds.map (fun kv => if kv.1 = k then (kv.1, d) else kv) else kds ++ [(k, d)]
def encP (kds : List (Key × D)) : List D := encK (kds.map (·.1)) (kds.map (·.2))
def decP : List D → Option (List (Key × D))
  | [] => some []
  | k :: d :: r => match keyD k, decP r with
    | some k, some l => some ((k, d) :: l)
    | _, _ => none
  | _ => none
theorem keyD_kD (k : Key) : keyD (kD k) = some k := by cases k <;> rfl
theorem decP_enc : ∀ kds : List (Key × D), decP (encP kds) = some kds
  | [] => rfl
  | (k, d) :: r => by
    show decP (kD k :: d :: encP r) = _
    unfold decP
    rw [keyD_kD, decP_enc r]
theorem decP_of : ∀ {ks : List Key} {ds : List D}, ks.length = ds.length → decP (encK ks ds) = some (ks.zip ds)
  | [], [], _ => rfl
  | k :: ks, d :: ds, h => by
    show decP (kD k :: d :: encK ks ds) = _
    unfold decP
    rw [keyD_kD, decP_of (by simpa using h)]
    rfl
/-- the entries stand for entries -/
inductive RepP (K : PySem.W.Frag) (F : Hp) (μ : List MA) : List (Key × D) → List (Key × V) → Prop
  | nil : RepP K F μ [] []
  | cons {k : Key} {d : D} {v : V} {r : List (Key × D)} {s : List (Key × V)} : Rep K F μ d v → RepP K F μ r s → RepP K F μ ((k, d) :: r) ((k, v) :: s)
section
variable {K : PySem.W.Frag} {F : Hp} {μ : List MA}
theorem RepP.of : ∀ {ks : List Key} {ds : List D} {vs : List V}, Reps K F μ ds vs → RepP K F μ (ks.zip ds) (ks.zip vs)
  | [], _, _, _ => by simp; exact .nil
  | k :: ks, [], [], .nil => .nil
  | k :: ks, d :: ds, v :: vs, .cons r rs => .cons r (RepP.of rs)
theorem RepP.split : ∀ {kds : List (Key × D)} {kvs : List (Key × V)}, RepP K F μ kds kvs → kvs.map (·.1) = kds.map (·.1) ∧ Reps K F μ (kds.map (·.2)) (kvs.map (·.2))
  | _, _, .nil => ⟨rfl, .nil⟩
  | _, _, .cons r rs => ⟨by simp only [List.map_cons, rs.split.1], .cons r rs.split.2⟩
theorem RepP.length {kds : List (Key × D)} {kvs : List (Key × V)} (h : RepP K F μ kds kvs) : kds.length = kvs.length := by
  have := congrArg List.length h.split.1
  simpa using this.symm
theorem RepP.any {kds : List (Key × D)} {kvs : List (Key × V)} (h : RepP K F μ kds kvs) (k : Key) : (kds.any fun kv => decide (kv.1 = k)) = (kvs.any fun kv => decide (kv.1 = k)) := by
  induction h with
  | nil => rfl
  | cons r rs ih => simp only [List.any_cons, ih]
theorem RepP.snoc {kds : List (Key × D)} {kvs : List (Key × V)} (h : RepP K F μ kds kvs) {k : Key} {d : D} {v : V} (r : Rep K F μ d v) : RepP K F μ (kds ++ [(k, d)]) (kvs ++ [(k, v)]) := by
  induction h with
  | nil => exact .cons r .nil
  | cons r' rs ih => exact .cons r' ih
theorem RepP.swap {kds : List (Key × D)} {kvs : List (Key × V)} (h : RepP K F μ kds kvs) {k : Key} {d : D} {v : V} (r : Rep K F μ d v) : RepP K F μ (kds.map fun kv => if kv.1 = k then (kv.1, d) else kv) (kvs.map fun kv => if kv.1 = k then (kv.1, v) else kv) := by
  induction h with
  | nil => exact .nil
  | @cons k' d' v' r0 s0 r' rs ih =>
    simp only [List.map_cons]
    by_cases e : k' = k
    · rw [if_pos e, if_pos e]; exact .cons r ih
    · rw [if_neg e, if_neg e]; exact .cons r' ih
theorem RepP.put {kds : List (Key × D)} {kvs : List (Key × V)} (h : RepP K F μ kds kvs) {k : Key} {d : D} {v : V} (r : Rep K F μ d v) : RepP K F μ (putD kds k d) (putK kvs k v) := by
  unfold putD putK
  rw [h.any k]
  split
  · exact h.swap r
  · exact h.snoc r
theorem zip_fs {α β : Type} (l : List (α × β)) : (l.map (·.1)).zip (l.map (·.2)) = l := by
  induction l with
  | nil => rfl
  | cons p l ih => simp [ih]
theorem RepP.cell {kds : List (Key × D)} {kvs : List (Key × V)} (h : RepP K F μ kds kvs) {H : Hp} {a : Addr} (hH : H a = some (.dK kvs)) : Cell K F μ H ⟨a, .dk⟩ (encP kds) := by
  obtain ⟨h1, h2⟩ := h.split
  refine .dk (vs := kvs.map (·.2)) (by simp) ?_ h2
  rw [← h1, zip_fs]
  exact hH
theorem cell_dk {H : Hp} {a : Addr} {ds : List D} (c : Cell K F μ H ⟨a, .dk⟩ ds) : ∃ kds kvs, ds = encP kds ∧ decP ds = some kds ∧ H a = some (.dK kvs) ∧ RepP K F μ kds kvs := by
  cases c with
  | @dk _ ks es vs h1 h r =>
    have e : encP (ks.zip es) = encK ks es := by
      unfold encP
      rw [List.map_fst_zip (by omega), List.map_snd_zip (by omega)]
    exact ⟨ks.zip es, ks.zip vs, e.symm, decP_of h1, h, .of r⟩
theorem pures_putD {kds : List (Key × D)} {k : Key} {d : D} (h : D.pures (kds.map (·.2)) = true) (hd : d.pure = true) : D.pures ((putD kds k d).map (·.2)) = true := by
  rw [D.pures_iff] at h ⊢
  intro x hx
  obtain ⟨p, hp, rfl⟩ := List.mem_map.mp hx
  unfold putD at hp
  split at hp
  · obtain ⟨q, hq, rfl⟩ := List.mem_map.mp hp
    split
    · exact hd
    · exact h _ (List.mem_map.mpr ⟨q, hq, rfl⟩)
  · rcases List.mem_append.mp hp with hp | hp
    · exact h _ (List.mem_map.mpr ⟨p, hp, rfl⟩)
    · rw [List.mem_singleton] at hp; subst hp; exact hd
theorem pures_encP {kds : List (Key × D)} : D.pures (encP kds) = D.pures (kds.map (·.2)) := pures_encK (by simp)
end
def dcGo (src : Src) (n : Nat) (f : D → Store → Out (Option (D × D))) : Nat → Nat → Store → Out Unit
  | 0, i, S => match srcAt src S with
    | some ds => if ds.length ≤ i then some (.ok (), S) else none
    | none => none
  | k + 1, i, S => match srcAt src S with
    | some ds => (match ds[i]? with
      | some d => bindO (noX (f d S)) fun o S1 => match o with
        | none => dcGo src n f k (i + 1) S1
        | some (x, y) => (match keyD x with
          | some key => (match S1[n]? with
            | some acc => (match decP acc with
              | some kds => if y.pure = true ∧ kds.length < lim then dcGo src n f k (i + 1) (S1.set n (encP (putD kds key y))) else none
              | none => none)
            | none => none)
          | none => none)
      | none => none)
    | none => none
def cDc (src : IX) (js : List Nat) (tgt : TX) (test : BX) (ek ev : EX) : EX := fun ρ S => bindO (src ρ S) fun src S => match srcAt src S with
  | some ds => bindO (dcGo src S.length (fun d S => bindO (tgt d (wipeE ρ js) S) fun ρ1 S => bindO (test ρ1 S) fun b S => match b with
      | true => bindO (ek ρ1 S) fun x S => bindO (ev ρ1 S) fun y S => some (.ok (some (x, y)), S)
      | false => some (.ok none, S)) ds.length 0 (S ++ [[]])) fun _ S' => (match S'[S.length]? with
    | some acc => (match decP acc with
      | some kds => some (.ok (.dks (kds.map (·.1)) (kds.map (·.2))), S'.take S.length)
      | none => none)
    | none => none)
  | none => none
section
variable {X : Cx} {T : List (Addr × Str)} {W : WX} {js : List Nat} {kx vx tg iter : Expr} {ifs : List Expr} {scope : Scope} {own : List (Str × Nat)} {pos : Pos} {ci : IX} {ct : TX} {cb : BX} {ck ce : EX}
theorem dc_read {wi : TI} {g : TG} {tt : TT} {tk te : TE} (hjs : ∀ j ∈ js, j ∈ own.map (·.2))
    (fi : ∀ σ ρ F μ S H (R : It → Hp → Prop), SR X.K T F μ S H → EnvR X.K F μ ρ σ → GP X.K T F μ (ci ρ S) (fun src F' μ' H' _ => ∀ J, Walks X.K T F' μ' src J → R J H') (ErW X.K X.mg fun cls dd H' => W cls dd σ H') → wi σ H R)
    (fg : ∀ d v σ ρ F μ S H (Q : L2.St → Hp → Prop), SR X.K T F μ S H → EnvR X.K F μ ρ σ → Rep X.K F μ d v → GP X.K T F μ (ct d ρ S) (fun ρ' F' μ' H' _ => ∀ σ', EnvR X.K F' μ' ρ' σ' → Agree js σ σ' → Q σ' H') NoEr → g v σ H Q)
    (ft : ∀ σ ρ F μ S H (Q : Bool → Hp → Prop), SR X.K T F μ S H → EnvR X.K F μ ρ σ → GP X.K T F μ (cb ρ S) (fun b _ _ H' _ => Q b H') (ErW X.K X.mg fun cls dd H' => WF cls dd σ H') → tt σ H Q)
    (fk : ∀ σ ρ F μ S H Q, SR X.K T F μ S H → EnvR X.K F μ ρ σ → GP X.K T F μ (ck ρ S) (OkV X.K false Q) (ErW X.K X.mg fun cls dd H' => WF cls dd σ H') → tk σ H Q)
    (fe : ∀ σ ρ F μ S H Q, SR X.K T F μ S H → EnvR X.K F μ ρ σ → GP X.K T F μ (ce ρ S) (OkV X.K false Q) (ErW X.K X.mg fun cls dd H' => WF cls dd σ H') → te σ H Q)
    {σ ρ F μ S H Q} (s : SR X.K T F μ S H) (hE : EnvR X.K F μ ρ σ) (gg : GP X.K T F μ (cDc ci (own.map (·.2)) ct cb ck ce ρ S) (OkV X.K false Q) (ErW X.K X.mg fun cls dd H' => W cls dd σ H')) :
    tDc wi g tt tk te (own.map (·.2)) σ H Q := by
  refine fi σ ρ F μ S H _ s hE (GP.seq gg fun src F1 μ1 H1 S1 e1 p1 s1 g1 J hJ => ?_)
  have hE1 := hE.mono e1 p1
  split at g1
  case h_2 => exact g1.elim
  rename_i ds hds
  intro Dl hD
  have hF := fresh_back s1.ex hD
  have s2 : SR X.K T F1 (μ1 ++ [⟨Dl, .dk⟩]) (S1 ++ [[]]) (upd H1 Dl (.dK [])) := (s1.lay hD).allocM (m := ⟨Dl, .dk⟩) (ds := encP []) hF (s1.notin hD) (RepP.nil.cell upd_same) rfl
  have hn : (μ1 ++ [⟨Dl, .dk⟩])[S1.length]? = some ⟨Dl, .dk⟩ := by rw [← s1.len, List.getElem?_append_right (Nat.le_refl _)]; simp
  generalize hf : (fun d S => bindO (ct d (wipeE ρ (own.map (·.2))) S) fun ρ1 S => bindO (cb ρ1 S) fun b S => match b with
      | true => bindO (ck ρ1 S) fun x S => bindO (ce ρ1 S) fun y S => some (.ok (some (x, y)), S)
      | false => some (.ok none, S) : D → Store → Out (Option (D × D))) = f at g1
  generalize hk : (fun _ S' => match S'[S1.length]? with
    | some acc => (match decP acc with
      | some kds => some (.ok (.dks (kds.map (·.1)) (kds.map (·.2))), S'.take S1.length)
      | none => none)
    | none => none : Unit → Store → Out D) = k at g1
  generalize hr : bindO (dcGo src S1.length f ds.length 0 (S1 ++ [[]])) k = r at g1
  refine ⟨fun i m H' => ∃ F' μ' S', Ex F1 F' ∧ (μ1 ++ [⟨Dl, .dk⟩]) <+: μ' ∧ SR X.K T F' μ' S' H' ∧ bindO (dcGo src S1.length f m i S') k = r,
    ⟨ds.length, F1, μ1 ++ [⟨Dl, .dk⟩], _, Ex.refl _, List.prefix_refl _, s2, hr⟩, ?_⟩
  rintro i m H2 ⟨F2, μ2, S2, e2, p2, s3, k2⟩
  have hDl2 := pre_get p2 hn
  have p12 : μ1 <+: μ2 := (List.prefix_append _ _).trans p2
  cases m with
  | zero =>
    left
    unfold dcGo at k2
    split at k2
    case h_2 => rw [← k2] at g1; exact g1.elim
    rename_i es hes
    split at k2
    case isFalse => rw [← k2] at g1; exact g1.elim
    rename_i hl
    refine ⟨(hJ F2 μ2 S2 H2 es i e2 p12 s3 hes).2 hl, ?_⟩
    obtain ⟨acc, a1, a3, a4, a5⟩ := s3.at hDl2
    obtain ⟨kds, kvs, b1, b2, b3, b4⟩ := cell_dk a5
    rw [bindO_ok, ← hk] at k2
    dsimp only at k2
    rw [a1] at k2
    dsimp only at k2
    rw [b2] at k2
    dsimp only at k2
    rw [← k2] at g1
    have s4 := s3.cut S1.length
    have hcut : μ2.take S1.length = μ1 := by
      obtain ⟨t, rfl⟩ := p12
      rw [← s1.len]; simp
    rw [hcut] at s4
    have s5 := s4.freezeO a3 (s1.notin hD) b3 (.inr (.inr ⟨_, rfl⟩))
    have hp : D.pures (kds.map (·.2)) = true := by rw [← pures_encP, ← b1]; exact a4
    obtain ⟨q1, q2⟩ := b4.split
    exact g1 (upd F2 Dl (.dK kvs)) μ1 H2 (e2.trans (Ex.new a3)) (List.prefix_refl _) s5 _ (.dks (vs := kvs.map (·.2)) (by rw [← q1, zip_fs]; exact upd_same) (by simp) ((q2.free hp).mono (Ex.new a3) (List.prefix_refl _)))
  | succ m =>
    right
    unfold dcGo at k2
    split at k2
    case h_2 => rw [← k2] at g1; exact g1.elim
    rename_i es hes
    split at k2
    case h_2 => rw [← k2] at g1; exact g1.elim
    rename_i d hd
    obtain ⟨hgo, hy⟩ := (hJ F2 μ2 S2 H2 es i e2 p12 s3 hes).1 d hd
    cases hfd : noX (f d S2) with
    | none => rw [hfd] at k2; rw [← k2] at g1; exact g1.elim
    | some q =>
      obtain ⟨q, S3⟩ := q
      cases q with
      | error x =>
        exfalso
        unfold noX at hfd
        split at hfd
        · cases hfd
        · rename_i hne
          exact hne _ _ hfd
      | ok o =>
        rw [hfd, bindO_ok] at k2
        have known : GP X.K T F2 μ2 (f d S2) (fun o' F' μ' H' S' => o' = o ∧ S' = S3 ∧ Ex F2 F' ∧ μ2 <+: μ' ∧ SR X.K T F' μ' S' H') NoEr := by
          apply GP.noX (er := NoEr)
          rw [hfd]
          exact fun F' μ' H' e p s' => ⟨rfl, rfl, e, p, s'⟩
        rw [← hf] at known
        refine ⟨hgo, fun H' => ∃ F' μ' S', Ex F1 F' ∧ (μ1 ++ [⟨Dl, .dk⟩]) <+: μ' ∧ SR X.K T F' μ' S' H' ∧ bindO (dcGo src S1.length f m (i + 1) S') k = r, fun H' h => ⟨m, Nat.lt_succ_self _, h⟩, fun x H3 yl => ?_⟩
        obtain ⟨F3, e3, s5, rx⟩ := hy x H3 yl
        have hE3 : EnvR X.K F3 μ2 (wipeE ρ (own.map (·.2))) (wipe σ (own.map (·.2))) := (hE1.wipe _).mono (e2.trans e3) p12
        have known3 := GP.mono known e3 (List.prefix_refl _)
        dsimp only at known3
        refine fg d x _ _ F3 μ2 S2 H3 _ s5 hE3 rx (GP.seq known3 fun ρ1 F4 μ4 H4 S4 e4 p4 s4 k4 σ4 hE4 a4 => ?_)
        refine ⟨wipe_agree a4 hjs, ?_⟩
        refine ft σ4 ρ1 F4 μ4 S4 H4 _ s4 hE4 (GP.seq (GP.er k4) fun b F5 μ5 H5 S5 e5 p5 s5' k5 => ?_)
        cases b with
        | false =>
          rw [if_neg Bool.false_ne_true]
          obtain ⟨h1, h2, h3, h4, h5⟩ := GP.here k5 s5'
          subst h1; subst h2
          exact ⟨F5, μ5, S5, e2.trans h3, p2.trans h4, h5, k2⟩
        | true =>
          rw [if_pos rfl]
          have hE5 := hE4.mono e5 p5
          refine fk σ4 ρ1 F5 μ5 S5 H5 _ s5' hE5 (GP.seq k5 fun y F6 μ6 H6 S6 e6 p6 s6 k6 v rv => ?_)
          refine fe σ4 ρ1 F6 μ6 S6 H6 _ s6 (hE5.mono e6 p6) (GP.seq k6 fun z F7 μ7 H7 S7 e7 p7 s7 k7 w rw' => ?_)
          obtain ⟨h1, h2, h3, h4, h5⟩ := GP.here k7 s7
          subst h1; subst h2
          have hDl7 := pre_get h4 hDl2
          obtain ⟨acc, a1, a3, a4', a5⟩ := s7.at hDl7
          obtain ⟨kds, kvs, b1, b2, b3, b4⟩ := cell_dk a5
          dsimp only at k2
          split at k2
          case h_2 => rw [← k2] at g1; exact g1.elim
          rename_i key hkey
          rw [a1] at k2
          dsimp only at k2
          rw [b2] at k2
          dsimp only at k2
          split at k2
          case isFalse => rw [← k2] at g1; exact g1.elim
          rename_i hc
          have hp : D.pures (kds.map (·.2)) = true := by rw [← pures_encP, ← b1]; exact a4'
          refine ⟨kvs, key, keyD_ok rv hkey, b3, by rw [← b4.length]; exact Nat.lt_of_lt_of_le hc.2 (by decide), F7, μ7, _, e2.trans h3, p2.trans h4,
            s7.putM hDl7 ((b4.put rw').cell upd_same) (by rw [pures_encP]; exact pures_putD hp hc.1), k2⟩
theorem re_dc {os : List Nat} (hc : X.calm = true) (hN : X.N.Nodup) (ok : BlkOk X.N X.env.scope scope own) (hos : own.map (·.2) = os) (hjs : ∀ j ∈ js, j ∈ os) (hi : RI T X W tg iter ci)
    (hg : ∀ (s : Shared) (H : Hp) (C : Addr) (cl : List (Str × Addr)) (fp : List Addr), RG T (X.blk s H scope (compEnvC scope cl C X.env) fp) js tg ct) (ht : ∀ (s : Shared) (H : Hp) (C : Addr) (cl : List (Str × Addr)) (fp : List Addr), RTs T (X.blk s H scope (compEnvC scope cl C X.env) fp) WF ifs cb)
    (hk : ∀ (s : Shared) (H : Hp) (C : Addr) (cl : List (Str × Addr)) (fp : List Addr), RE T false (X.blk s H scope (compEnvC scope cl C X.env) fp) WF kx ck)
    (he : ∀ (s : Shared) (H : Hp) (C : Addr) (cl : List (Str × Addr)) (fp : List Addr), RE T false (X.blk s H scope (compEnvC scope cl C X.env) fp) WF vx ce) (hs : ∀ x, foldedSetIterable iter X.env x = pure x := by intro _; rfl) :
    RE T false X W (.DictComp kx vx [⟨tg, iter, ifs, 0⟩] scope pos) (cDc ci os ct cb ck ce) := by
  subst hos
  obtain ⟨wi, pi, fi⟩ := hi
  refine ⟨_, pe_dc (g := gE T X.K js ct) (tt := tTs T X.K X.mg WF cb) (tk := tE T false X.K X.mg WF ck) (tv := tE T false X.K X.mg WF ce) hc hN pi ok (fun s H C cl fp => (hg s H C cl fp).pg) (fun s H C cl fp => (ht s H C cl fp).pts) (fun s H C cl fp => (hk s H C cl fp).pe) (fun s H C cl fp => (he s H C cl fp).pe) hs, fun σ ρ F μ S H Q s hE g => ?_⟩
  exact dc_read hjs fi (fun d v σ ρ F μ S H Q a b c g => ⟨d, ρ, F, μ, S, a, b, c, g⟩) (fun σ ρ F μ S H Q a b g => ⟨ρ, F, μ, S, a, b, g⟩) (fun σ ρ F μ S H Q a b g => ⟨ρ, F, μ, S, a, b, g⟩) (fun σ ρ F μ S H Q a b g => ⟨ρ, F, μ, S, a, b, g⟩) s hE g
end
end PF
set_option Elab.async false
set_option linter.all false
set_option maxRecDepth 100000
set_option maxHeartbeats 4000000
/-! PFSS: sorted(set(xs)) of texts. -/
namespace PF
open PySem L2 Evl PySem.Spec PyProof.Rows PySem.Froz
/-- the set at a holds the texts l -/
def TxR (P : Program) (w : World) (h : Heap) (a : Addr) (l : List Str) : Prop :=
  ∃ D : SD, h.get? a = some (sObj "set" D) ∧ TxOk P w D l ∧ Ris D.2.2.place.toList ∧ (w.params.followText "set-order" = true ∨ D.2.2.led = true)
theorem tail_ris {ep : Nat} {es1 : Array (Int × Value)} {t2 : SetTable} {b : Bool} (r : Ris t2.place.toList) : Ris (tailTx ep es1 t2 b).2.2.place.toList ∧ (tailTx ep es1 t2 b).2.2.led = t2.led := by
  unfold tailTx
  split
  · exact ⟨relayAll_ris _ _ _, relayAll_led _ _ _⟩
  · exact ⟨r, rfl⟩
theorem add_ris {h : Int} {v : Value} {D : SD} (r : Ris D.2.2.place.toList) : Ris (addTx h v D).2.2.place.toList ∧ (addTx h v D).2.2.led = D.2.2.led := by
  have r1 := layNew_ris D.2.2 D.1 h v r
  have l1 := layNew_led D.2.2 D.1 h v
  unfold addTx
  split
  · exact ⟨(tail_ris (t2 := { (layNew D.2.2 D.1 h v).2.1 with plain := false }) r1).1, ((tail_ris (t2 := { (layNew D.2.2 D.1 h v).2.1 with plain := false }) r1).2).trans l1⟩
  · exact ⟨(tail_ris r1).1, (tail_ris r1).2.trans l1⟩
section
variable {P : Program} {w : World} {A : Around} {E : Value → Shared → Prop} {s : Shared}
theorem TxR.keep {h h' : Heap} {a : Addr} {l : List Str} (x : TxR P w h a l) (k : ∀ o, h.get? a = some o → h'.get? a = some o) : TxR P w h' a l := by
  obtain ⟨D, h1, h2⟩ := x
  exact ⟨D, k _ h1, h2⟩
theorem txr_fresh {h : Heap} {a : Addr} (ho : h.get? a = some { cls := .type "set", dict := none, data := .set #[] 0 (.fresh 0 0 (!w.params.followText "set-order")) }) : TxR P w h a [] := by
  refine ⟨(#[], 0, .fresh 0 0 (!w.params.followText "set-order")), ho, TxOk.nil rfl, List.Pairwise.nil, ?_⟩
  show _ ∨ (!w.params.followText "set-order") = true
  cases w.params.followText "set-order"
  · exact .inr rfl
  · exact .inl rfl
/-- what a set makes of one text more -/
def putS (l : List Str) (k : Str) : List Str := if k ∈ l then l else k :: l
/-- the add of a text that is there -/
theorem add_old {a : Addr} {T : String} {D : SD} {l : List Str} {k : Str} {u : Tok} {Q : Bool → Shared → Prop} (ho : s.heap.get? a = some (sObj T D)) (F : TxOk P w D l) (hk : k ∈ l) (hb : l.length < scanBound)
    (h : Q false s) : wpAny (model P w) A (setAddHashed a (.str k u) (hashStr w k)) Q E s := by
  obtain ⟨es, ep, t⟩ := D
  have hd : (sObj T (es, ep, t)).data = .set es ep t := rfl
  have hf : t.fits es.size = true := F.fit
  have hel : ElemsOf (strKind P w) es.toList := F.el
  have hsz : es.size = l.length := F.sz
  have hb0 : es.size < scanBound := by omega
  have hkey : (strKind P w).is k (.str k u) = true := is_str k u
  obtain ⟨j, hj⟩ : ∃ j, List.findIdx? (fun e => (strKind P w).is k e.2) es.toList = some j := by
    cases hr : List.findIdx? (fun e => (strKind P w).is k e.2) es.toList with
    | some j => exact ⟨j, rfl⟩
    | none =>
      obtain ⟨e, he, q⟩ := (F.mem k).mp hk
      have := List.findIdx?_eq_none_iff.mp hr e he
      rw [q] at this
      cases this
  unfold setAddHashed setAddHashedIn
  refine wpAny_holding (wpAny_bind (wpAny_setState_of ho hd hf ?_))
  dsimp only
  rw [byScan_of rfl hb0 hel]
  simp only [↓reduceIte]
  unfold setAddByScan
  refine wpAny_bind ?_
  refine wpAny_bind (wpAny_rule ?_)
  refine wpAny_bind (wpAny_setScan_of (knd := strKind P w) (k := k) hkey ho hd hf hel ?_)
  rw [hj]
  dsimp only
  exact wpAny_pure (wpAny_pure h)
/-- one text more, there or not -/
theorem add_any {a : Addr} {l : List Str} {k : Str} {u : Tok} {Q : Bool → Shared → Prop} (x : TxR P w s.heap a l) (hb : l.length + 1 < scanBound)
    (h : ∀ b h', Heap.ExtBut a s.heap h' → TxR P w h' a (putS l k) → Q b { s with heap := h' }) : wpAny (model P w) A (setAddHashed a (.str k u) (hashStr w k)) Q E s := by
  obtain ⟨D, ho, F, r, hl⟩ := x
  by_cases hk : k ∈ l
  · refine add_old ho F hk (by omega) (h false s.heap (fun b o _ e => e) ?_)
    unfold putS
    rw [if_pos hk]
    exact ⟨D, ho, F, r, hl⟩
  · refine add_x ho F hk hb (h true _ (fun b o hb e => ?_) ?_)
    · rw [Heap.get?_update_ne _ _ _ _ hb]; exact e
    · unfold putS
      rw [if_neg hk]
      obtain ⟨r2, l2⟩ := add_ris (h := hashStr w k) (v := .str k u) r
      exact ⟨_, get_upd _ ho rfl, add_ok u F, r2, hl.imp id fun z => l2.trans z⟩
/-- set.update's loop over texts -/
theorem set_update_txt {I : Addr} {fp wr : List Addr} {G : Array GenState → Array GenState → Prop} {n : Nat} {Pv : Nat → Value → Prop} {St : Nat → Shared → Prop} {R : Result → Shared → Prop}
    (W : WalksS P w A.in1 I fp wr G n Pv St) (S : Addr) (hSf : S ∉ fp) (xs : List Str) (hn : n = xs.length) (hb : xs.length + 1 < scanBound) (hval : ∀ i v, Pv i v → ∃ x u, xs[i]? = some x ∧ v = .str x u) :
    ∀ (k i : Nat) (s : Shared), n - i = k → i ≤ n → St i s → TxR P w s.heap S ((xs.take i).foldl putS []) →
      (∀ s', Moved (S :: wr) G s s' → TxR P w s'.heap S (xs.foldl putS []) → R (.ok (.ret .none)) s') →
      codeAny (model P w) A (.builtin "set.update.loop" ⟨[.ref S, .ref I], []⟩) R s := by
  have hSw : S ∉ wr := fun h => hSf (W.sub _ h)
  have hsub : ∀ b ∈ wr, b ∈ S :: wr := fun b hb => List.mem_cons_of_mem _ hb
  have few : ∀ (l : List Str) (z : List Str), (l.foldl putS z).length ≤ z.length + l.length := by
    intro l
    induction l with
    | nil => intro z; simp
    | cons a l ih =>
      intro z
      rw [List.foldl_cons]
      have := ih (putS z a)
      have h2 : (putS z a).length ≤ z.length + 1 := by
        unfold putS
        split
        · omega
        · simp
      rw [List.length_cons]
      omega
  intro k
  induction k with
  | zero =>
    intro i s hk' hi hst hS hR
    have hin : i = n := by omega
    subst hin
    refine codeAny_builtin F.entry_set_update_loop ?_
    rw [Around.under_plainId F.plain_set_update_loop _]
    show wpAny _ A.in1 (pyNext (.ref I) >>= _) _ _ s
    refine wpAny_bind (W.done s _ _ hst fun s' hm => ?_)
    show wpAny _ A.in1 (PySem.ret Value.none) _ _ s'
    rw [hn, List.take_length] at hS
    exact wpAny_pure (hR s' (hm.mono hsub) (hS.keep fun o e => hm.heap S o hSw e))
  | succ k ih =>
    intro i s hk' hi hst hS hR
    have hlt : i < n := by omega
    refine codeAny_builtin F.entry_set_update_loop ?_
    rw [Around.under_plainId F.plain_set_update_loop _]
    show wpAny _ A.in1 (pyNext (.ref I) >>= _) _ _ s
    refine wpAny_bind (W.item i s _ _ hlt hst fun v s' hP hst' hm => ?_)
    obtain ⟨x, u, hx, rfl⟩ := hval i v hP
    have hS' := hS.keep (h' := s'.heap) fun o e => hm.heap S o hSw e
    have hl := few (xs.take i) []
    rw [List.length_take, List.length_nil] at hl
    show wpAny _ A.in1 (holding [Value.str x u] (setAdd S (.str x u)) >>= _) _ _ s'
    refine wpAny_bind (wpAny_holding ?_)
    unfold setAdd
    refine wpAny_holding ?_
    refine wpAny_bind (wpAny_pyHash_str ?_)
    refine add_any (s := { s' with toks := s'.toks + 1 }) hS' (by omega) fun b h' hsb hS2 => ?_
    have e2 : (xs.take (i + 1)).foldl putS [] = putS ((xs.take i).foldl putS []) x := by
      rw [L2.take_next hx, List.foldl_append]; rfl
    rw [← e2] at hS2
    refine wpAny_pure ⟨plainId_quiet F.plain_set_update_loop _, ih (i + 1) _ (by omega) hlt (W.frame _ s' _ _ hst' (Nat.le_add_right _ _) fun b hb o e => ?_) hS2 fun s'' hm'' hS'' => ?_⟩
    · exact hsb b o (fun h : b = S => hSf (by rw [← h]; exact hb)) e
    · refine hR s'' (Moved.trans W.gtrans ((hm.mono hsub).then_heap (Nat.le_add_right _ _) fun b o hb e => ?_) hm'') hS''
      exact hsb b o (fun h : b = S => hb (by rw [h]; exact List.mem_cons_self)) e
set_option maxHeartbeats 3200000 in
/-- set(xs) of texts -/
theorem call_set_txt {l : Addr} {items : Array Value} (xs : List Str) {Q : Value → Shared → Prop} (hh : A.handled = none) (hl : s.heap.IsList l items) (hit : StrsAre items.toList xs)
    (hb : xs.length + 1 < scanBound)
    (h : ∀ (h' : Heap) (tk : Nat), TxR P w h' s.heap.objs.size (xs.foldl putS []) → (∀ b o, s.heap.get? b = some o → h'.get? b = some o) → Q (.ref s.heap.objs.size) { s with heap := h', toks := tk }) :
    wpAny (model P w) A (call (.type "set") [.ref l]) Q E s := by
  have hisz : items.size = xs.length := by rw [← Array.length_toList]; exact hit.length
  obtain ⟨c, tl, hmro⟩ := F.called_set.mro
  have hmade := F.called_set.made
  have hsub := F.called_set.sub
  refine wpAny_call (codeAny_of_tree ?_)
  show wpAny _ _ (callAny (.type "set") _) _ _ _
  refine wpAny_pure ⟨Code.quiet_builtin _ (by decide +kernel), codeAny_builtin F.entry_type_call ?_⟩
  rw [Around.under_plain (weight_type_call_type "set" [.ref l] []) rfl]
  have h1 := F.called_set.notType
  have h2 := F.called_set.canCreate
  have hct := F.typeCall_set_1 (.ref l)
  repeat (any_goals (first | assumption | wp_step))
  refine codeAny_mono (code_set_led1 (.ref l) (E := E) (Q₁ := fun obj s₁ => obj = .ref s.heap.objs.size ∧ s₁ = { s with heap := s.heap.push { cls := .type "set", dict := none, data := .set #[] 0 (.fresh 0 0 (!w.params.followText "set-order")) } }) ⟨rfl, rfl⟩) fun r s₁ hr => ?_
  cases r with
  | error e => exact hr
  | ok fl =>
    cases fl with
    | ret obj =>
      obtain ⟨rfl, rfl⟩ := hr
      have hS : (s.heap.push { cls := .type "set", dict := none, data := .set #[] 0 (.fresh 0 0 (!w.params.followText "set-order")) }).get? s.heap.objs.size = some { cls := .type "set", dict := none, data := .set #[] 0 (.fresh 0 0 (!w.params.followText "set-order")) } := Heap.get?_push_size _ rfl
      have hT : Shared.TypeIs { s with heap := s.heap.push { cls := .type "set", dict := none, data := .set #[] 0 (.fresh 0 0 (!w.params.followText "set-order")) } } (.ref s.heap.objs.size) "set" := ⟨_, hS, rfl⟩
      have hli := F.called_set.init.lookup
      have hbi := F.called_set.init.bind (.ref s.heap.objs.size)
      repeat (any_goals (first | assumption | wp_step))
      refine codeAny_mono (codeAny_call_builtin (R := wants (fun r s₂ => r = .none ∧ ∃ h' tk, s₂ = { s with heap := h', toks := tk } ∧ TxR P w h' s.heap.objs.size (xs.foldl putS []) ∧
          (∀ b o, s.heap.get? b = some o → h'.get? b = some o)) E) F.called_set.init.plain F.entry_set_init (check_set_init_1 hT ?_)) fun r₂ s₂ hr₂ => ?_
      · obtain ⟨ol, hol, hcl, nl, hdl⟩ := hl
        obtain ⟨ocls, odict, odata, oslots⟩ := ol
        simp only at hcl hdl
        subst hcl; subst hdl
        have hol' : (s.heap.push { cls := .type "set", dict := none, data := .set #[] 0 (.fresh 0 0 (!w.params.followText "set-order")) }).get? l = some { cls := .type "list", dict := odict, data := .seq items nl, slots := oslots } := Heap.get?_push_of_some _ hol
        have hsls := F.sub_list_set
        have hslf := F.sub_list_frozenset
        have hne : (Value.type "list" == Value.type "dict") = false := by decide
        have hl1 : (s.heap.push { cls := .type "set", dict := none, data := .set #[] 0 (.fresh 0 0 (!w.params.followText "set-order")) }).IsList l items := ⟨_, hol', rfl, nl, rfl⟩
        unfold Builtin.«set.__init__» noKeywords Builtin.Frozenset.updateFrom
        generalize hPI : pyIter = PI
        wp_walk
        subst hPI
        refine wpAny_pyIter_list hl1 ?_
        refine wpAny_bind (wpAny_runValue ?_)
        have hlS : l < s.heap.objs.size := Heap.lt_size hol
        have hh3 : A.in1.in1.in1.handled = none := by simp [hh]
        have hneI : l ≠ (s.heap.push { cls := .type "set", dict := none, data := .set #[] 0 (.fresh 0 0 (!w.params.followText "set-order")) }).objs.size := by
          rw [Heap.size_push]; exact Nat.ne_of_lt (Nat.lt_succ_of_lt hlS)
        have hSf : s.heap.objs.size ∉ [(s.heap.push { cls := .type "set", dict := none, data := .set #[] 0 (.fresh 0 0 (!w.params.followText "set-order")) }).objs.size, l] := by
          rw [Heap.size_push]; simp only [List.mem_cons, List.mem_singleton, List.not_mem_nil, or_false, not_or]
          exact ⟨Nat.ne_of_lt (Nat.lt_succ_self _), Nat.ne_of_gt hlS⟩
        have hval : ∀ (i : Nat) (v : Value), items[i]? = some v → ∃ x u, xs[i]? = some x ∧ v = .str x u := fun i v hv => by
          have q : items.toList[i]? = some v := by rw [Array.getElem?_toList]; exact hv
          obtain ⟨u, e⟩ := SS.strs_at hit i v q
          have hi : i < xs.length := by
            have := (List.getElem?_eq_some_iff.mp q).1
            rw [Array.length_toList, hisz] at this
            exact this
          exact ⟨xs[i], u, List.getElem?_eq_getElem hi, by rw [e, List.getD_eq_getElem?_getD, List.getElem?_eq_getElem hi]; rfl⟩
        refine set_update_txt ((Walks.list hh3 _ l hneI items).toS) s.heap.objs.size hSf xs hisz hb hval (items.size - 0) 0 _ (by omega) (Nat.zero_le _)
          ⟨⟨_, Heap.get?_push_size _ rfl, rfl, rfl⟩, (hl1.push _)⟩ ?hS0 ?hR
        case hS0 =>
          have hget : ((s.heap.push { cls := .type "set", dict := none, data := .set #[] 0 (.fresh 0 0 (!w.params.followText "set-order")) }).push { cls := .type "list_iterator", data := .fields #[.ref l, .int 0 0] }).get? s.heap.objs.size
              = some { cls := .type "set", dict := none, data := .set #[] 0 (.fresh 0 0 (!w.params.followText "set-order")) } := Heap.get?_push_of_some _ hS
          exact txr_fresh hget
        case hR =>
          intro s' hm hS'
          obtain ⟨h', g2, d', tk', os'⟩ := s'
          have eg : g2 = s.gens := hm.gens
          have ed : d' = s.drawn := hm.drawn
          have eo : os' = s.os := hm.os
          subst eg; subst ed; subst eo
          show wpAny _ _ _ _ _ _
          refine wpAny_pure ?_
          show wpAny _ _ (PySem.ret Value.none) _ _ _
          refine wpAny_pure ⟨rfl, h', tk', rfl, hS', fun b o e => hm.heap b o (fun hb => ?_) (Heap.get?_push_of_some _ (Heap.get?_push_of_some _ e))⟩
          have hlt := Heap.lt_size e
          rcases List.mem_cons.mp hb with z | z
          · rw [z] at hlt; exact Nat.lt_irrefl _ hlt
          · rw [List.mem_singleton.mp z, Heap.size_push] at hlt
            exact absurd hlt (Nat.not_lt.mpr (Nat.le_succ _))
      · cases r₂ with
        | error e => exact hr₂
        | ok fl₂ =>
          cases fl₂ with
          | ret r =>
            obtain ⟨rfl, h', tk, rfl, hS', hk'⟩ := hr₂
            repeat (any_goals (first | assumption | wp_step))
            exact h _ _ hS' hk'
          | _ => exact hr₂.elim
    | _ => exact hr.elim
end
end PF
set_option Elab.async false
set_option linter.all false
set_option maxRecDepth 100000
set_option maxHeartbeats 4000000
namespace PF
open PySem L2 Evl PySem.Spec PyProof.Rows PySem.Froz
section
variable {P : Program} {w : World} {A : Around} {E : Value → Shared → Prop} {s : Shared}
theorem nodup_perm : ∀ {l m : List Str}, l.Nodup → (∀ x ∈ l, x ∈ m) → m.length = l.length → m.Perm l
  | [], m, _, _, h => by
    rw [List.length_eq_zero_iff.mp h]
  | a :: l, m, nd, hs, h => by
    have ha : a ∈ m := hs a (List.mem_cons_self ..)
    have p := List.perm_cons_erase ha
    have nd' := List.nodup_cons.mp nd
    have ih := nodup_perm (l := l) (m := m.erase a) nd'.2 (fun x hx => (List.mem_erase_of_ne (fun e => nd'.1 (by rw [← e]; exact hx))).mpr (hs x (List.mem_cons_of_mem _ hx))) (by
      rw [List.length_erase_of_mem ha, h, List.length_cons]; rfl)
    exact p.trans (ih.cons a)
theorem putS_nodup {l : List Str} {k : Str} (h : l.Nodup) : (putS l k).Nodup := by
  unfold putS
  split
  · exact h
  · rename_i hk; exact List.nodup_cons.mpr ⟨hk, h⟩
theorem putS_mem {l : List Str} {k x : Str} : x ∈ putS l k ↔ x ∈ l ∨ x = k := by
  unfold putS
  split
  · rename_i hk
    constructor
    · exact fun h => .inl h
    · rintro (h | h)
      · exact h
      · rw [h]; exact hk
  · rw [List.mem_cons]
    exact ⟨fun h => h.elim .inr .inl, fun h => h.elim .inr .inl⟩
theorem fold_putS : ∀ (xs z : List Str), z.Nodup → (xs.foldl putS z).Nodup ∧ ∀ x, x ∈ xs.foldl putS z ↔ x ∈ z ∨ x ∈ xs
  | [], z, h => ⟨h, fun x => by simp⟩
  | a :: xs, z, h => by
    obtain ⟨h1, h2⟩ := fold_putS xs (putS z a) (putS_nodup h)
    refine ⟨h1, fun x => ?_⟩
    rw [List.foldl_cons, h2, putS_mem, List.mem_cons, or_assoc]
theorem strs_are_of (es : List (Int × Value)) (h : ∀ e ∈ es, ∃ k, Value.isStrOf k e.2 = true) : ∃ ss : List Str, StrsAre (es.map (·.2)) ss ∧ ∀ k, k ∈ ss ↔ ∃ e ∈ es, Value.isStrOf k e.2 = true := by
  induction es with
  | nil => exact ⟨[], .nil, fun k => by simp⟩
  | cons e es ih =>
    obtain ⟨ss, h1, h2⟩ := ih fun e he => h e (List.mem_cons_of_mem _ he)
    obtain ⟨k, hk⟩ := h e (List.mem_cons_self ..)
    obtain ⟨i, v⟩ := e
    cases v <;> simp [Value.isStrOf] at hk
    rename_i y u
    subst hk
    refine ⟨y :: ss, .cons y u h1, fun z => ?_⟩
    rw [List.mem_cons, h2]
    constructor
    · rintro (e | ⟨e, he, q⟩)
      · exact ⟨(i, .str y u), List.mem_cons_self .., by rw [e]; exact beq_self_eq_true y⟩
      · exact ⟨e, List.mem_cons_of_mem _ he, q⟩
    · rintro ⟨e, he, q⟩
      rcases List.mem_cons.mp he with e1 | he
      · rw [e1] at q; exact .inl (eq_of_beq (show (y == z) = true from q)).symm
      · exact .inr ⟨e, he, q⟩
theorem strsAre_len {vs : List Value} {ss : List Str} (h : StrsAre vs ss) : vs.length = ss.length := by
  induction h with
  | nil => rfl
  | cons _ _ _ ih => simp [ih]
theorem strsAre_perm {us vs : List Value} {ss : List Str} (p : vs.Perm us) : StrsAre us ss → ∃ ts, StrsAre vs ts ∧ ts.Perm ss := by
  induction p generalizing ss with
  | nil => intro h; exact ⟨ss, h, .refl _⟩
  | @cons x l1 l2 _ ih =>
    intro h
    cases h with
    | cons y t h =>
      obtain ⟨ts, h1, h2⟩ := ih h
      exact ⟨y :: ts, .cons y t h1, h2.cons y⟩
  | swap x y l =>
    intro h
    cases h with
    | cons a t h =>
      cases h with
      | cons b t2 h => exact ⟨b :: a :: _, .cons b t2 (.cons a t h), List.Perm.swap ..⟩
  | trans _ _ ih1 ih2 =>
    intro h
    obtain ⟨ts, h1, h2⟩ := ih2 h
    obtain ⟨rs, h3, h4⟩ := ih1 h1
    exact ⟨rs, h3, h4.trans h2⟩
theorem sorted_set_txt {a : Addr} {l : List Str} {Q : Value → Shared → Prop} (x : TxR P w s.heap a l) (nd : l.Nodup) (hh : A.handled = none) (h64 : l.length < 64)
    (hQ : ∀ s' p (out : Array Value) (c : Nat) (ys : List Str), (∀ b o, s.heap.get? b = some o → s'.heap.get? b = some o) → s'.gens = s.gens → s'.os = s.os → s.heap.objs.size ≤ p →
      s'.heap.get? p = some (seqObj "list" out c) → StrsAre out.toList ys → ys.Perm l → sortedS ys = true → Q (.ref p) s') :
    wpAny (model P w) A (call (.builtin "sorted") [.ref a]) Q E s := by
  obtain ⟨⟨es, ep, t⟩, ho, F, r, hl⟩ := x
  have hsz : es.size = l.length := F.sz
  have hf : t.fits es.size = true := F.fit
  obtain ⟨ss, g1, g2⟩ := strs_are_of es.toList fun e he => (F.el e he).1.imp fun k h => h.1
  have pl : ss.Perm l := nodup_perm nd (fun k hk => (g2 k).mpr ((F.mem k).mp hk)) (by
    have := strsAre_len g1
    rw [List.length_map, Array.length_toList] at this
    omega)
  refine Calls.call_function_entry kind_sorted plain_sorted entry_sorted (args_sorted1 _) ?_
  unfold Builtin.«sorted»
  refine wpAny_bind (m := checkCount "sorted" 1 1 _) (wpAny_pure ?_)
  refine wpAny_bind (collect_set (A := A.in1) hh ⟨_, ho, rfl, rfl⟩ hf (show es.size < scanBound by unfold scanBound; omega) r hl fun s1 vs k1 hz gg o1 pm => ?_)
  have hvl : vs.length = l.length := by rw [pm.length_eq, List.length_map, Array.length_toList]; exact hsz
  obtain ⟨ts, hI, pt⟩ := strsAre_perm pm g1
  refine wpAny_bind (wpAny_newList ?_ (by rw [hvl, sizeLine_eq]; omega))
  have hoL : (s1.heap.push (seqObj "list" vs.toArray 0)).get? s1.heap.objs.size = some (seqObj "list" vs.toArray 0) := Heap.get?_push_size _ rfl
  refine wpAny_bind (wpAny_holding (wpAny_call_entry slot_list_sort ⟨_, hoL, rfl⟩ entry_list_sort (list_sort_treeK strKind_oneLt hoL hI.keysOf (fun v₁ v₂ rest e => keyKind_strs (by rw [← e]; exact hI)) (by rw [hvl]; exact h64) fun st' hp hs => ⟨_, rfl, ?_⟩) (args_list_sort _)))
  obtain ⟨ys, a1, a2, a3⟩ := sorted_out_str hI hp hs
  obtain ⟨c, hc⟩ := sortedHeap_at (vs := vs) (out := (arrOf st').map (·.2)) hoL
  refine wpAny_pure ⟨_, rfl, hQ _ s1.heap.objs.size _ c ys (fun b u e => ?_) gg o1 hz hc a1 ((a2.trans pt).trans pl) a3⟩
  have q := k1 b u e
  have hlt := Heap.lt_size q
  show (sortedHeap (s1.heap.push (seqObj "list" vs.toArray 0)) s1.heap.objs.size vs _).get? b = some u
  rw [sortedHeap_old (Nat.ne_of_lt hlt) (by rw [size_push']; exact Nat.lt_succ_of_lt hlt)]
  exact Heap.get?_push_of_some _ q
end
/-- sorted(set(xs)), xs a list of texts -/
def tSS (K : PySem.W.Frag) (ta : TE) : TE := fun σ H Q => ta σ H fun x H1 => ∃ (l : Addr) (xs : List Str), x = .ref l ∧ SqL K H1 l (xs.map V.str) ∧ xs.length < 64 ∧
  ∀ (ys : List Str) (p : Addr), ys.Nodup → (∀ y, y ∈ ys ↔ y ∈ xs) → sortedS ys = true → H1 p = none → Q (.ref p) (upd H1 p (.lst (ys.map V.str)))
theorem pe_ss {X : Cx} {a : Expr} {ta : TE} {p p2 q pos : Pos} (hg : Gl X "sorted") (hm : X.mg "sorted" = none) (hg2 : Gl X "set") (hm2 : X.mg "set" = none) (ha : PE X a ta) (hc : X.calm = true := by rfl)
    (na : starEach [a] X.env = (false, eval a X.env) :: starEach [] X.env := by rfl)
    (nb : starEach [.Call (.Name "set" p2) [a] [] q] X.env = (false, eval (.Call (.Name "set" p2) [a] [] q) X.env) :: starEach [] X.env := by rfl) : PE X (.Call (.Name "sorted" p) [.Call (.Name "set" p2) [a] [] q] [] pos) (tSS X.K ta) := by
  refine ⟨fun pins s σ H Q I h => ?_⟩
  refine Call_ (ld_blt I hg hm boot_sorted ?_)
  refine PyProof.Rows.callWith_builtin1 (PyProof.Rows.args_cons ?_ nb) rfl rfl
  refine Call_ (ld_blt I hg2 hm2 boot_set ?_)
  refine PyProof.Rows.callWith_type1 (PyProof.Rows.args_cons (thn (ha.run pins s σ H _ I h) fun v s1 ⟨x, H1, I1, r1, q1⟩ => PyProof.Rows.args_nil ?_) na) na rfl
  obtain ⟨l, xs, rfl, hq, hl, q1⟩ := q1
  cases r1
  obtain ⟨its, r, pl, hz⟩ := I1.list hq
  obtain ⟨n1, n2⟩ := fold_putS xs [] List.nodup_nil
  have few : (xs.foldl putS []).length ≤ xs.length := by
    have : ∀ (l z : List Str), (l.foldl putS z).length ≤ z.length + l.length := by
      intro l
      induction l with
      | nil => intro z; simp
      | cons a l ih =>
        intro z
        rw [List.foldl_cons]
        have := ih (putS z a)
        have h2 : (putS z a).length ≤ z.length + 1 := by
          unfold putS
          split
          · omega
          · simp
        rw [List.length_cons]
        omega
    have := this xs []
    simpa using this
  refine call_set_txt xs (I1.ok.hd hc) pl.isList (by simpa using strsAre_of r) (by unfold scanBound; omega) fun h' tk hS hk => ?_
  refine PyProof.Rows.args_nil ?_
  have I2 : Inv X pins σ H1 { s1 with heap := h', toks := tk } := I1.kept hk
  have hS2 : TxR X.prog X.w ({ s1 with heap := h', toks := tk } : Shared).heap s1.heap.objs.size (xs.foldl putS []) := hS
  generalize ({ s1 with heap := h', toks := tk } : Shared) = s3 at *
  refine sorted_set_txt hS2 n1 (I1.ok.hd hc) (by omega) fun s' p out c ys k g o hp hg' hi hm' hs => ?_
  have hlen : (ys.map V.str).length ≤ sizeLine := by rw [List.length_map, hm'.length_eq, sizeLine_eq]; omega
  have hn : H1 p = none := I2.hok.fresh hp
  have J : Inv X pins σ (upd H1 p (.lst (ys.map V.str))) { s3 with heap := s'.heap, gens := s'.gens, drawn := s'.drawn, toks := s'.toks } :=
    I2.call (ch := []) (Un.laid k hp hn) (I2.hok.laid k hp ⟨hlen, out.toList, c, vals_of_strs hi, hg'⟩) (by rw [g]; exact I2.bare) (fun _ z => nomatch z)
  have e : s' = { s3 with heap := s'.heap, gens := s'.gens, drawn := s'.drawn, toks := s'.toks } := by
    cases s'
    cases s3
    cases o
    rfl
  rw [e]
  exact ⟨.ref p, _, J, rfl, q1 ys p (hm'.nodup_iff.mpr n1) (fun y => by rw [hm'.mem_iff, n2]; simp) hs hn⟩
end PF
set_option Elab.async false
set_option linter.all false
set_option maxRecDepth 100000
set_option maxHeartbeats 4000000
/-! PFB: texts in order; bits; len and sorted of a dict. -/
namespace PF
open PySem L2 Evl PySem.Spec PyProof.Rows
/-! ### order of texts -/
def leS (a b : Str) : Bool := !ltCps b.cps.toList a.cps.toList
theorem leS_iff {a b : Str} : leS a b = true ↔ a.cps.toList ≤ b.cps.toList := by
  unfold leS
  rw [ltCps_eq]
  simp [List.not_lt]
theorem leS_trans {a b c : Str} (h : leS a b = true) (k : leS b c = true) : leS a c = true := leS_iff.mpr (List.le_trans (leS_iff.mp h) (leS_iff.mp k))
theorem leS_total (a b : Str) : (leS a b || leS b a) = true := by
  rw [Bool.or_eq_true, leS_iff, leS_iff]
  exact List.le_total _ _
theorem leS_antisymm {a b : Str} (h : leS a b = true) (k : leS b a = true) : a = b := by
  have e := List.le_antisymm (leS_iff.mp h) (leS_iff.mp k)
  cases a; cases b
  simp at e
  rw [e]
def sortSt (l : List Str) : List Str := l.mergeSort leS
theorem sortSt_perm (l : List Str) : (sortSt l).Perm l := List.mergeSort_perm l leS
theorem sortSt_pw (l : List Str) : (sortSt l).Pairwise fun a b => leS a b = true := List.pairwise_mergeSort (le := leS) (fun _ _ _ h k => leS_trans h k) leS_total l
theorem rising_pw : ∀ (p : Str) (l : List Str), risingS p l = true → (p :: l).Pairwise fun a b => leS a b = true
  | p, [], _ => by simp
  | p, x :: r, h => by
    unfold risingS at h
    rw [Bool.and_eq_true] at h
    have ih := rising_pw x r h.2
    refine List.pairwise_cons.mpr ⟨fun z hz => ?_, ih⟩
    rcases List.mem_cons.mp hz with e | hz
    · rw [e]; exact h.1
    · exact leS_trans h.1 ((List.pairwise_cons.mp ih).1 z hz)
theorem sortedS_pw : ∀ {l : List Str}, sortedS l = true → l.Pairwise fun a b => leS a b = true
  | [], _ => .nil
  | x :: r, h => rising_pw x r h
theorem sortS_unique {xs ys : List Str} (h : xs.Perm ys) (h1 : sortedS xs = true) : xs = sortSt ys :=
  (h.trans (sortSt_perm ys).symm).eq_of_pairwise (fun a b _ _ h1 h2 => leS_antisymm h1 h2) (sortedS_pw h1) (sortSt_pw ys)
/-- each text once -/
def onceS : List Str → List Str
  | [] => []
  | a :: l => if a ∈ onceS l then onceS l else a :: onceS l
theorem once_mem : ∀ {l : List Str} {x : Str}, x ∈ onceS l ↔ x ∈ l
  | [], x => by simp [onceS]
  | a :: l, x => by
    unfold onceS
    split
    · rename_i h
      rw [once_mem, List.mem_cons]
      constructor
      · exact fun h => .inr h
      · rintro (e | h2)
        · rw [e]; exact once_mem.mp h
        · exact h2
    · rw [List.mem_cons, List.mem_cons, once_mem]
theorem once_nodup : ∀ l : List Str, (onceS l).Nodup
  | [] => List.nodup_nil
  | a :: l => by
    unfold onceS
    split
    · exact once_nodup l
    · rename_i h; exact List.nodup_cons.mpr ⟨h, once_nodup l⟩
theorem nodup_same {l m : List Str} (h : l.Nodup) (k : m.Nodup) (e : ∀ x, x ∈ l ↔ x ∈ m) : l.Perm m := by
  induction l generalizing m with
  | nil =>
    cases m with
    | nil => exact .refl _
    | cons a m => exact absurd ((e a).mpr (List.mem_cons_self ..)) (by simp)
  | cons a l ih =>
    have ha : a ∈ m := (e a).mp (List.mem_cons_self ..)
    have nd := List.nodup_cons.mp h
    have p := List.perm_cons_erase ha
    refine ((ih nd.2 (k.erase a) fun x => ?_).cons a).trans p.symm
    by_cases hx : x = a
    · subst hx
      exact ⟨fun h => absurd h nd.1, fun h => absurd h (by rw [List.Nodup.mem_erase_iff k]; simp)⟩
    · rw [List.mem_erase_of_ne hx, ← e x, List.mem_cons]
      exact ⟨fun h => .inr h, fun h => h.resolve_left hx⟩
theorem sortS_set {xs ys : List Str} (h : ys.Nodup) (e : ∀ y, y ∈ ys ↔ y ∈ xs) (hs : sortedS ys = true) : ys = sortSt (onceS xs) :=
  sortS_unique (nodup_same h (once_nodup xs) fun x => by rw [e, once_mem]) hs
/-! ### lists of texts among the data -/
def strsOf : List D → Option (List Str)
  | [] => some []
  | .str x :: r => (strsOf r).map (x :: ·)
  | _ => none
theorem strs_rep {K : PySem.W.Frag} {F : Hp} {μ : List MA} : ∀ {ds : List D} {vs : List V} {xs : List Str}, Reps K F μ ds vs → strsOf ds = some xs → vs = xs.map V.str
  | [], _, _, .nil, h => by cases h; rfl
  | d :: r, v :: vs, xs, .cons h1 h2, h => by
    cases d <;> try (cases h; done)
    rename_i x
    simp only [strsOf, Option.map_eq_some_iff] at h
    obtain ⟨ys, h3, rfl⟩ := h
    cases h1
    rw [strs_rep h2 h3]
    rfl
theorem strsOf_map (xs : List Str) : strsOf (xs.map D.str) = some xs := by
  induction xs with
  | nil => rfl
  | cons x xs ih => simp [strsOf, ih]
theorem reps_strs {K : PySem.W.Frag} {F : Hp} {μ : List MA} : ∀ xs : List Str, Reps K F μ (xs.map D.str) (xs.map V.str)
  | [] => .nil
  | x :: xs => .cons (.str x) (reps_strs xs)
section
variable {X : Cx} {T : List (Addr × Str)} {W : WX}
/-- sorted(set(xs)) -/
def cSS (c : EX) : EX := fun ρ S => bindO (c ρ S) fun d S => match asL d S with
  | some ds => (match strsOf ds with
    | some xs => if xs.length < 64 then some (.ok (.lst ((sortSt (onceS xs)).map D.str)), S) else none
    | none => none)
  | none => none
theorem re_ss {e : Expr} {c : EX} {p p2 q pos : Pos} (h : RE T false X W e c) (hm : X.mg "sorted" = none) (hm2 : X.mg "set" = none) (hg : Gl X "sorted" := by rfl) (hg2 : Gl X "set" := by rfl) (hc : X.calm = true := by rfl)
    (na : starEach [e] X.env = (false, eval e X.env) :: starEach [] X.env := by rfl)
    (nb : starEach [.Call (.Name "set" p2) [e] [] q] X.env = (false, eval (.Call (.Name "set" p2) [e] [] q) X.env) :: starEach [] X.env := by rfl) :
    RE T true X W (.Call (.Name "sorted" p) [.Call (.Name "set" p2) [e] [] q] [] pos) (cSS c) := by
  obtain ⟨t, pe, f⟩ := h
  refine ⟨_, pe_ss hg hm hg2 hm2 pe hc na nb, fun σ ρ F μ S H Q s hE g => f σ ρ F μ S H _ s hE (GP.seq g fun d F1 μ1 H1 S1 e1 p1 s1 g1 v rv => ?_)⟩
  split at g1
  · rename_i ds hds
    split at g1
    · rename_i xs hxs
      split at g1
      · rename_i hl
        obtain ⟨a, ws, rfl, h1, h2⟩ := asL_ok s1 rv hds
        rw [strs_rep h2 hxs] at h1
        refine ⟨a, xs, rfl, h1, hl, fun ys c n1 n2 n3 hn => ?_⟩
        have e := sortS_set n1 n2 n3
        subst e
        exact gp_lst g1 s1 (reps_strs _) c hn
      · exact g1.elim
    · exact g1.elim
  · exact g1.elim
/-! ### bits -/
theorem op_and1 : OpR X (binaryOp .BitAnd) (rI (fun _ j => j = 1) fun i _ => .int (i % 2)) := by
  intro pins s σ H x y v u Q I rx ry h
  obtain ⟨i, j, rfl, rfl, rfl, q⟩ := h
  exact op_andM pins s σ H _ _ v u Q I rx ry ⟨i, 1, rfl, rfl, q⟩
def oAnd1 : Op2 := oI (fun _ j => decide (j = 1)) fun i _ => .int (i % 2)
theorem oAnd1_ok : OpOk X T false (rI (fun _ j => j = 1) fun i _ => .int (i % 2)) oAnd1 := oI_ok (fun i j h => of_decide_eq_true h) fun _ _ _ _ _ => .int _
def oShr : Op2 := oI (fun _ j => decide (0 ≤ j)) fun i j => .int (i / 2 ^ j.toNat)
theorem oShr_ok : OpOk X T false (rI (fun _ j => 0 ≤ j) fun i j => .int (i / 2 ^ j.toNat)) oShr := oI_ok (fun i j h => of_decide_eq_true h) fun _ _ _ _ _ => .int _
/-! ### dicts -/
theorem dks_rep {K : PySem.W.Frag} {F : Hp} {μ : List MA} {ks : List Key} {ds : List D} {v : V} (r : Rep K F μ (.dks ks ds) v) : ∃ a vs, v = .ref a ∧ F a = some (.dK (ks.zip vs)) ∧ ks.length = ds.length ∧ Reps K F μ ds vs := by
  cases r with
  | dks h1 h2 h3 => exact ⟨_, _, rfl, h1, h2, h3⟩
def bLenK : OpB := fun ds S => match ds with
  | [.dks ks _] => some (.ok (.int ks.length), S)
  | _ => none
theorem bLenK_ok : BltOk X T false (fun xs H Q => ∃ a kvs, xs = [V.ref a] ∧ H a = some (.dK kvs) ∧ Q (.int kvs.length) H) bLenK := by
  intro F μ S H ds vs Q er s rs h
  unfold bLenK at h
  split at h
  · rename_i ks es
    obtain ⟨v, rfl, r⟩ := rs.inv1
    obtain ⟨a, ws, rfl, h1, h2, h3⟩ := dks_rep r
    refine ⟨a, _, rfl, s.ex _ _ h1, ?_⟩
    have e : (ks.zip ws).length = ks.length := by rw [List.length_zip, ← h3.length]; omega
    rw [e]
    exact gp_val h s (.int _)
  · exact h.elim
def keysS : List Key → Option (List Str)
  | [] => some []
  | .inr x :: r => (keysS r).map (x :: ·)
  | _ => none
theorem keysS_eq : ∀ {ks : List Key} {xs : List Str}, keysS ks = some xs → ks = xs.map Sum.inr
  | [], _, h => by cases h; rfl
  | .inl _ :: _, _, h => by cases h
  | .inr x :: r, xs, h => by
    simp only [keysS, Option.map_eq_some_iff] at h
    obtain ⟨ys, h3, rfl⟩ := h
    rw [keysS_eq h3]
    rfl
/-- sorted of a dict with texts as keys -/
def bSortD : OpB := fun ds S => match ds with
  | [.dks ks _] => (match keysS ks with
    | some xs => if xs.length < 64 then some (.ok (.lst ((sortSt xs).map D.str)), S) else none
    | none => none)
  | _ => none
theorem bSortD_ok : BltOk X T true (fun xs H Q => ∃ (a : Addr) (kvs : List (Key × V)) (ks : List Str), xs = [.ref a] ∧ Rd H a (.dK kvs) ∧ kvs.map (·.1) = ks.map Sum.inr ∧ ks.length < 64 ∧
    ∀ ys p, ys.Perm ks → sortedS ys = true → H p = none → Q (.ref p) (upd H p (.lst (ys.map V.str)))) bSortD := by
  intro F μ S H ds vs Q er s rs h
  unfold bSortD at h
  split at h
  · rename_i ks es
    split at h
    · rename_i xs hxs
      split at h
      · rename_i hl
        obtain ⟨v, rfl, r⟩ := rs.inv1
        obtain ⟨a, ws, rfl, h1, h2, h3⟩ := dks_rep r
        refine ⟨a, _, xs, rfl, .inl (s.ex _ _ h1), ?_, hl, fun ys p k1 k2 hp => ?_⟩
        · rw [List.map_fst_zip (by rw [← h3.length]; omega), keysS_eq hxs]
        · have e := sortS_unique k1 k2
          subst e
          exact gp_lst h s (reps_strs _) p hp
      · exact h.elim
    · exact h.elim
  · exact h.elim
/-- sorted of a list of texts -/
def bSortS : OpB := fun ds S => match ds with
  | [d] => (match asL d S with
    | some xs => (match strsOf xs with
      | some xs => if xs.length < 64 then some (.ok (.lst ((sortSt xs).map D.str)), S) else none
      | none => none)
    | none => none)
  | _ => none
theorem bSortS_ok : BltOk X T true (rSortedS X.K) bSortS := by
  intro F μ S H ds vs Q er s rs h
  unfold bSortS at h
  split at h
  · obtain ⟨v, rfl, r⟩ := rs.inv1
    split at h
    · rename_i es he
      split at h
      · rename_i xs hxs
        split at h
        · rename_i hl
          obtain ⟨a, ws, rfl, h1, h2⟩ := asL_ok s r he
          rw [strs_rep h2 hxs] at h1
          refine ⟨a, xs, rfl, h1, hl, fun ys p k1 k2 hp => ?_⟩
          have e := sortS_unique k1 k2
          subst e
          exact gp_lst h s (reps_strs _) p hp
        · exact h.elim
      · exact h.elim
    · exact h.elim
  · exact h.elim
end
end PF
set_option Elab.async false
set_option linter.all false
set_option maxRecDepth 100000
set_option maxHeartbeats 4000000
namespace PF
open PySem L2 Evl PySem.Spec PyProof.Rows
section
variable {X : Cx} {T : List (Addr × Str)} {W : WX}
/-! ### text * number, the order of texts -/
def repS (z : Str) (n : Nat) : Str := ⟨(List.replicate n z.cps).foldl (· ++ ·) #[]⟩
theorem fold_size (a : Array Nat) : ∀ (n : Nat) (acc : Array Nat), ((List.replicate n a).foldl (· ++ ·) acc).size = acc.size + a.size * n
  | 0, acc => by simp
  | n + 1, acc => by
    rw [List.replicate_succ, List.foldl_cons, fold_size a n, Array.size_append, Nat.mul_succ]
    omega
theorem repS_len (z : Str) (n : Nat) : (repS z n).length = z.length * n := by
  have := fold_size z.cps n #[]
  rw [show (#[] : Array Nat).size = 0 from rfl, Nat.zero_add] at this
  exact this
theorem op_mulS : OpR X (binaryOp .Mult) (fun x y H Q => ∃ (z : Str) (n : Nat), x = .str z ∧ y = .int (n : Int) ∧ (2 ≤ n ∧ n ≤ 1000) ∧ (1 ≤ z.length ∧ z.length ≤ 1000) ∧ Q (.str (repS z n)) H) := by
  intro pins s σ H x y v u Q I rx ry h
  obtain ⟨z, n, rfl, rfl, hn, hz, q⟩ := h
  obtain ⟨t, rfl⟩ := rx
  obtain ⟨t', rfl⟩ := ry
  have h1 : ¬ ((n : Nat) : Int) < 1 := by omega
  have h2 : ((((n : Nat) : Int) == 1) || z.length == 0) = false := by
    rw [Bool.or_eq_false_iff]
    exact ⟨by rw [beq_eq_false_iff_ne]; omega, by rw [beq_eq_false_iff_ne]; omega⟩
  have hm : z.length * n ≤ 1000 * 1000 := Nat.mul_le_mul hz.2 hn.2
  refine PySem.P.mul_str ?_ (fun _ _ => ?_) (fun _ _ => ?_) ?_
  · rw [Bool.or_eq_false_iff]
    exact ⟨decide_eq_false (by omega), decide_eq_false (by omega)⟩
  · have : (2 ^ 63 - 1 : Int) / 1000 ≤ (2 ^ 63 - 1) / (n : Int) := by
      apply Int.le_ediv_of_mul_le (by omega)
      have : (2 ^ 63 - 1 : Int) / 1000 * (n : Int) ≤ (2 ^ 63 - 1 : Int) / 1000 * 1000 := Int.mul_le_mul_of_nonneg_left (by omega) (by decide)
      omega
    have h3 : (1000 : Int) ≤ (2 ^ 63 - 1 : Int) / 1000 := by decide
    omega
  · rw [Int.toNat_natCast]
    unfold Builtin.Str.tooLong
    exact decide_eq_false (by rw [sizeLine_eq]; omega)
  · rw [if_neg h1, h2, Int.toNat_natCast]
    rw [if_neg (by decide)]
    exact ⟨by show (repS z n).length ≤ sizeLine; rw [repS_len, sizeLine_eq]; omega, ⟨.str (repS z n), H, I.tok _, ⟨_, rfl⟩, q⟩⟩
def oMulS : Op2 := fun x y S => match x, y with
  | .str z, .int n => if (2 ≤ n ∧ n ≤ 1000) ∧ (1 ≤ z.length ∧ z.length ≤ 1000) then some (.ok (.str (repS z n.toNat)), S) else none
  | _, _ => none
theorem oMulS_ok : OpOk X T false (fun x y H Q => ∃ (z : Str) (n : Nat), x = .str z ∧ y = .int (n : Int) ∧ (2 ≤ n ∧ n ≤ 1000) ∧ (1 ≤ z.length ∧ z.length ≤ 1000) ∧ Q (.str (repS z n)) H) oMulS := by
  intro F μ S H x y v u Q er s rx ry h
  unfold oMulS at h
  cases rx with
  | str z =>
    cases ry with
    | int n =>
      dsimp only at h
      split at h
      · rename_i hc
        exact ⟨z, n.toNat, rfl, by rw [Int.toNat_of_nonneg (by omega)], by omega, hc.2, gp_val h s (.str _)⟩
      · exact h.elim
    | _ => exact h.elim
  | _ => exact h.elim
def oGeA : Op2 := fun x y S => match x, y with
  | .str i, .str j => some (.ok (.bl (!decide (i.cps.toList < j.cps.toList))), S)
  | x, y => oGe x y S
theorem oGeS_ok : OpOk X T false (fun x y H Q => ∃ i j, x = .str i ∧ y = .str j ∧ Q (.bl (!decide (i.cps.toList < j.cps.toList))) H) (fun x y S => match x, y with
  | .str i, .str j => some (.ok (.bl (!decide (i.cps.toList < j.cps.toList))), S)
  | _, _ => none) := by
  intro F μ S H x y v u Q er s rx ry h
  cases rx with
  | str i =>
    cases ry with
    | str j => exact ⟨i, j, rfl, rfl, gp_val h s (.bl _)⟩
    | _ => exact h.elim
  | _ => exact h.elim
theorem op_geA : OpR X (compareOp .GtE) (fun x y H Q => (∃ i j, x = .str i ∧ y = .str j ∧ Q (.bl (!decide (i.cps.toList < j.cps.toList))) H) ∨ rI0 (fun i j => .bl (decide (j ≤ i))) x y H Q) := op_ge_str.or op_ge
theorem oGeA_ok : OpOk X T false (fun x y H Q => (∃ i j, x = .str i ∧ y = .str j ∧ Q (.bl (!decide (i.cps.toList < j.cps.toList))) H) ∨ rI0 (fun i j => .bl (decide (j ≤ i))) x y H Q) oGeA := OpOk.or oGeS_ok oGe_ok fun x y S => by
  unfold oGeA
  split
  · exact .inl rfl
  · exact .inr rfl
end
end PF
set_option Elab.async false
set_option linter.all false
set_option maxRecDepth 100000
set_option maxHeartbeats 4000000
/-! PFMK: a method called with keywords alone; the truth of an instance. -/
namespace PF
open PySem L2 Evl PySem.Spec PyProof.Rows
section
variable {X : Cx} {T : List (Addr × Str)} {W : WX} {k : Nat} {c m f q : Str} {e o : Expr} {es : List Expr} {a : EX} {ca cs : AX} {pos apos : Pos} {kws : List Keyword}
def cMethK (c m : Str) (n : Nat) (g : List D → List D → List D) (o : OpB) (a : EX) (rk : AX) : EX := fun ρ S => bindO (a ρ S) fun d S => match fieldsOf c d S with
  | some (ns, ds) => (match lkF m ns ds with
    | some _ => none
    | none => bindO (rk ρ S) fun xs S => if xs.length = n then o (g [d] xs) S else none)
  | none => none
theorem re_methK0 {params : Arguments} {body : List Stmt} {scope : Scope} {ps ks : List Str} {fr : Bool} {ob : OpB} {pl : Sem Bool} {g : {α : Type} → List α → List α → List α} (hc : ClsI X.K c) (G : MethG X.prog X.w X.K X.mg X.base T k c m q params body scope ps fr ob) (hp : KeynQ params body scope m q ps ks 1 g)
    (hgr : ∀ {K F μ} {ds es : List D} {vs us : List V}, ds.length = 1 → es.length = ks.length → Reps K F μ ds vs → Reps K F μ es us → Reps K F μ (g ds es) (g vs us))
    (hgv : ∀ {vs us : List V} {ws zs : List Value}, vs.length = 1 → us.length = ks.length → Vals vs ws → Vals us zs → Vals (g vs us) (g ws zs)) (hgl : ∀ {ds es : List V}, ds.length = 1 → es.length = ks.length → (g ds es).length = ps.length)
    (hr : Room k X.A) (hgu : X.A.guards = some []) (hx : ∀ σ, PassesAt (L2.CX X.prog X.w) X σ fun cls d H => W cls d σ H) (ho : RE T false X W o a)
    (hkw : RK T X W kws cs) (hall : (backToKw pos (keywordEach kws X.env)).all (·.1.isSome) = true := by rfl) (hks : (backToKw pos (keywordEach kws X.env)).filterMap (·.1) = ks := by rfl)
    (hpl : ((backTo pos (starEach [] X.env)).any (·.1) || (backToKw pos (keywordEach kws X.env)).any (·.1.isNone)) = false := by rfl)
    (ht : eval (.Call (.Attribute o m apos) [] kws pos) X.env = (do
      let ov ← eval o X.env
      standAt apos.atName
      let (f, first) ← holding [ov] (getMethod ov m pl)
      callWith pos f first (backTo pos (starEach [] X.env)) (backToKw pos (keywordEach kws X.env))) := by rfl) :
    RE T fr X W (.Call (.Attribute o m apos) [] kws pos) (cMethK c m ks.length g ob a cs) := by
  obtain ⟨gx, fd, M, FD, FG⟩ := G.ex
  obtain ⟨t, pe, rd⟩ := ho
  obtain ⟨t2, pk, rd2⟩ := hkw
  refine ⟨fun σ H Q => t σ H fun x H1 => ∃ b dx fs, x = .ref b ∧ H1 b = some (.ins (He.ga X.K c) dx fs) ∧ fs.lookup m = none ∧ t2 σ H1 fun us H2 => us.length = ks.length ∧ spOf X.K X.mg T fr ps.length ob (g [.ref b] us) H2 Q (fun cls d H => W cls d σ H), ⟨fun pins s σ H Q I h => ?_⟩, fun σ ρ F μ S H Q s hE gg => ?_⟩
  · refine PySem.W.methodCall_KW (pl := pl) (thn (pe.run pins s σ H _ I h) fun u s1 ⟨x, H1, I1, rx, b, dx, fs, ex, ea, l, q⟩ => ?_) ht
    subst ex
    obtain rfl : u = Value.ref b := rx
    refine getmeth_ok I1 ea hc.cl M l ?_
    refine PySem.W.callWith_KW0 (first := [.ref b]) (h₀ := X.base) I.ok.mod.kin M.kp hall ?_ hpl
    refine thn (pk.run pos pins s1 σ H1 _ I1 q) fun ws s2 ⟨zs, H2, I2, rz, l2, q2⟩ => ⟨I2.kIn, ?_⟩
    obtain ⟨kV, doc, pm, an, cdv, ct, rfl⟩ := FunD.to FD
    rw [hks]
    exact run_g (us := g [.ref b] ws) (vs := g [.ref b] zs) FG hr hgu (.of_eq (hp _ _ _ _ _ _ [.ref b] ws rfl (by rw [← rz.length]; exact l2))) (hx σ) I2 (hgv rfl l2 (.cons rfl .nil) rz) q2
  · refine rd σ ρ F μ S H _ s hE (GP.seq gg fun d F1 μ1 H1 S1 e1 p1 s1 g1 v rv => ?_)
    split at g1
    · rename_i ns ds hf
      split at g1
      · exact g1.elim
      · rename_i hlk
        obtain ⟨b, dx, vs, rfl, h1, h2, h3⟩ := fields_ok s1 rv hf
        refine ⟨b, dx, _, rfl, h1, lk_none h2 h3 hlk, ?_⟩
        refine rd2 σ ρ F1 μ1 S1 H1 _ s1 (hE.mono e1 p1) (GP.seq g1 fun xs F2 μ2 H2 S2 e2 p2 s2 g2 us rs => ?_)
        split at g2
        · rename_i hn
          have l2 : us.length = ks.length := by rw [← rs.length]; exact hn
          exact ⟨l2, F2, μ2, S2, _, s2, hgr rfl hn (.cons (Rep.mono e2 p2 rv) .nil) rs, hgl rfl l2, g2⟩
        · exact g2.elim
    · exact g1.elim
/-- the truth of an instance whose class tells neither __bool__ nor __len__ -/
def cTruI (c : Str) (a : EX) : BX := fun ρ S => bindO (a ρ S) fun d S => match fieldsOf c d S with
  | some _ => some (.ok true, S)
  | none => none
theorem rt_ins (hb : NoAttr X.K (He.ga X.K c) "__bool__") (hl : NoAttr X.K (He.ga X.K c) "__len__") (ha : RE T false X W e a) (he : ∀ whole, isTrue e X.env whole = (do let v ← whole; standAt e.pos; holding [v] (truthy v)) := by intro _; rfl) : RT T X W e (cTruI c a) := by
  obtain ⟨t, pe, rd⟩ := ha
  refine ⟨fun σ H Q => t σ H fun x H1 => (∃ b, InsV X.K c H1 x b) ∧ Q true H1, ⟨fun pins s σ H Q I h => ?_⟩, fun σ ρ F μ S H Q s hE g => ?_⟩
  · refine isTrue_plain (thn (pe.run pins s σ H _ I h) fun v s1 ⟨x, H1, I1, r1, ⟨b, hi⟩, q1⟩ => ?_) (he _)
    obtain ⟨m, hF⟩ := I1.fr
    obtain ⟨ox, od, J⟩ := ins_at I1 hi
    obtain ⟨rfl, _⟩ := hi
    obtain rfl : v = Value.ref b := r1
    exact PySem.W.truthy_K0 hF I.ok.mod.kin J hb hl ⟨H1, I1, q1⟩
  · refine rd σ ρ F μ S H _ s hE (GP.seq g fun d F1 μ1 H1 S1 e1 p1 s1 g1 v rv => ?_)
    split at g1
    · rename_i z hf
      exact ⟨ins_rep s1 rv hf, GP.here g1 s1⟩
    · exact g1.elim
end
end PF
set_option Elab.async false
set_option linter.all false
set_option maxRecDepth 100000
set_option maxHeartbeats 4000000
namespace LW
open PySem L2 Evl PySem.Spec PyProof.Rows PF
/-! ### the text by places -/
abbrev wfuel : Nat := 100000
/-! ### part_up_to -/
theorem sc_part_up_to : FnScope ["calls", "index", "_", "part"] ["calls", "index"] (defScope s_part_up_to) := ⟨rfl, rfl, rfl, by decide +kernel, rfl, by decide +kernel, by decide +kernel⟩
theorem pn_part_up_to : Posn (defArgs s_part_up_to) (defBody s_part_up_to) (defScope s_part_up_to) "part_up_to" ["calls", "index"] := fun _ _ _ _ _ _ us hl => match us, hl with | [_, _], _ => rfl
/-! ### owed_of -/
theorem sc_owed_of : FnScope ["due", "calls", "index"] ["due", "calls", "index"] (defScope s_owed_of) := ⟨rfl, rfl, rfl, by decide +kernel, rfl, by decide +kernel, by decide +kernel⟩
theorem pn_owed_of : Posn (defArgs s_owed_of) (defBody s_owed_of) (defScope s_owed_of) "owed_of" ["due", "calls", "index"] := fun _ _ _ _ _ _ us hl => match us, hl with | [_, _, _], _ => rfl
/-! ### payer_of -/
theorem sc_payer_of : FnScope ["plan", "name", "payer"] ["plan", "name"] (defScope s_payer_of) := ⟨rfl, rfl, rfl, by decide +kernel, rfl, by decide +kernel, by decide +kernel⟩
theorem pn_payer_of : Posn (defArgs s_payer_of) (defBody s_payer_of) (defScope s_payer_of) "payer_of" ["plan", "name"] := fun _ _ _ _ _ _ us hl => match us, hl with | [_, _], _ => rfl
/-! ### is_whole -/
theorem sc_is_whole : FnScope ["value"] ["value"] (defScope s_is_whole) := ⟨rfl, rfl, rfl, by decide +kernel, rfl, by decide +kernel, by decide +kernel⟩
theorem pn_is_whole : Posn (defArgs s_is_whole) (defBody s_is_whole) (defScope s_is_whole) "is_whole" ["value"] := fun _ _ _ _ _ _ us hl => match us, hl with | [_], _ => rfl
/-! ### is_number -/
theorem sc_is_number : FnScope ["value", "low", "high"] ["value", "low", "high"] (defScope s_is_number) := ⟨rfl, rfl, rfl, by decide +kernel, rfl, by decide +kernel, by decide +kernel⟩
theorem pn_is_number : Posn (defArgs s_is_number) (defBody s_is_number) (defScope s_is_number) "is_number" ["value", "low", "high"] := fun _ _ _ _ _ _ us hl => match us, hl with | [_, _, _], _ => rfl
/-! ### check_number -/
theorem sc_check_number : FnScope ["value", "low", "high"] ["value", "low", "high"] (defScope s_check_number) := ⟨rfl, rfl, rfl, by decide +kernel, rfl, by decide +kernel, by decide +kernel⟩
theorem pn_check_number : Posn (defArgs s_check_number) (defBody s_check_number) (defScope s_check_number) "check_number" ["value", "low", "high"] := fun _ _ _ _ _ _ us hl => match us, hl with | [_, _, _], _ => rfl
/-! ### is_tuple_of -/
theorem sc_is_tuple_of : FnScope ["value", "many"] ["value", "many"] (defScope s_is_tuple_of) := ⟨rfl, rfl, rfl, by decide +kernel, rfl, by decide +kernel, by decide +kernel⟩
theorem pn_is_tuple_of : Posn (defArgs s_is_tuple_of) (defBody s_is_tuple_of) (defScope s_is_tuple_of) "is_tuple_of" ["value", "many"] := fun _ _ _ _ _ _ us hl => match us, hl with | [_, _], _ => rfl
/-! ### wrong_at -/
theorem sc_wrong_at : FnScope ["values", "most", "is_right", "at", "value"] ["values", "most", "is_right"] (defScope s_wrong_at) := ⟨rfl, rfl, rfl, by decide +kernel, rfl, by decide +kernel, by decide +kernel⟩
theorem pn_wrong_at : Posn (defArgs s_wrong_at) (defBody s_wrong_at) (defScope s_wrong_at) "wrong_at" ["values", "most", "is_right"] := fun _ _ _ _ _ _ us hl => match us, hl with | [_, _, _], _ => rfl
/-! ### wrong_from_one -/
theorem sc_wrong_from_one : FnScope ["values", "most", "is_right"] ["values", "most", "is_right"] (defScope s_wrong_from_one) := ⟨rfl, rfl, rfl, by decide +kernel, rfl, by decide +kernel, by decide +kernel⟩
theorem pn_wrong_from_one : Posn (defArgs s_wrong_from_one) (defBody s_wrong_from_one) (defScope s_wrong_from_one) "wrong_from_one" ["values", "most", "is_right"] := fun _ _ _ _ _ _ us hl => match us, hl with | [_, _, _], _ => rfl
/-! ### is_letters -/
theorem sc_is_letters : FnScope ["value", "least", "most", "letter"] ["value", "least", "most"] (defScope s_is_letters) := ⟨rfl, rfl, rfl, by decide +kernel, rfl, by decide +kernel, by decide +kernel⟩
theorem pn_is_letters : Posn (defArgs s_is_letters) (defBody s_is_letters) (defScope s_is_letters) "is_letters" ["value", "least", "most"] := fun _ _ _ _ _ _ us hl => match us, hl with | [_, _, _], _ => rfl
/-! ### is_name -/
theorem sc_is_name : FnScope ["value"] ["value"] (defScope s_is_name) := ⟨rfl, rfl, rfl, by decide +kernel, rfl, by decide +kernel, by decide +kernel⟩
theorem pn_is_name : Posn (defArgs s_is_name) (defBody s_is_name) (defScope s_is_name) "is_name" ["value"] := fun _ _ _ _ _ _ us hl => match us, hl with | [_], _ => rfl
/-! ### is_payer -/
theorem sc_is_payer : FnScope ["value", "before", "name", "office", "due", "names", "offices", "payer", "each"] ["value", "before"] (defScope s_is_payer) := ⟨rfl, rfl, rfl, by decide +kernel, rfl, by decide +kernel, by decide +kernel⟩
theorem pn_is_payer : Posn (defArgs s_is_payer) (defBody s_is_payer) (defScope s_is_payer) "is_payer" ["value", "before"] := fun _ _ _ _ _ _ us hl => match us, hl with | [_, _], _ => rfl
/-! ### is_call -/
theorem sc_is_call : FnScope ["value", "before"] ["value", "before"] (defScope s_is_call) := ⟨rfl, rfl, rfl, by decide +kernel, rfl, by decide +kernel, by decide +kernel⟩
theorem pn_is_call : Posn (defArgs s_is_call) (defBody s_is_call) (defScope s_is_call) "is_call" ["value", "before"] := fun _ _ _ _ _ _ us hl => match us, hl with | [_, _], _ => rfl
/-! ### is_outlay -/
theorem sc_is_outlay : FnScope ["value", "before"] ["value", "before"] (defScope s_is_outlay) := ⟨rfl, rfl, rfl, by decide +kernel, rfl, by decide +kernel, by decide +kernel⟩
theorem pn_is_outlay : Posn (defArgs s_is_outlay) (defBody s_is_outlay) (defScope s_is_outlay) "is_outlay" ["value", "before"] := fun _ _ _ _ _ _ us hl => match us, hl with | [_, _], _ => rfl
/-! ### are_bounds -/
theorem sc_are_bounds : FnScope ["value", "number", "most"] ["value"] (defScope s_are_bounds) := ⟨rfl, rfl, rfl, by decide +kernel, rfl, by decide +kernel, by decide +kernel⟩
theorem pn_are_bounds : Posn (defArgs s_are_bounds) (defBody s_are_bounds) (defScope s_are_bounds) "are_bounds" ["value"] := fun _ _ _ _ _ _ us hl => match us, hl with | [_], _ => rfl
/-! ### check_payers -/
theorem sc_check_payers : FnScope ["value", "index"] ["value"] (defScope s_check_payers) := ⟨rfl, rfl, rfl, by decide +kernel, rfl, by decide +kernel, by decide +kernel⟩
theorem pn_check_payers : Posn (defArgs s_check_payers) (defBody s_check_payers) (defScope s_check_payers) "check_payers" ["value"] := fun _ _ _ _ _ _ us hl => match us, hl with | [_], _ => rfl
/-! ### check_calls -/
theorem sc_check_calls : FnScope ["value", "index"] ["value"] (defScope s_check_calls) := ⟨rfl, rfl, rfl, by decide +kernel, rfl, by decide +kernel, by decide +kernel⟩
theorem pn_check_calls : Posn (defArgs s_check_calls) (defBody s_check_calls) (defScope s_check_calls) "check_calls" ["value"] := fun _ _ _ _ _ _ us hl => match us, hl with | [_], _ => rfl
/-! ### check_outlays -/
theorem sc_check_outlays : FnScope ["value", "index"] ["value"] (defScope s_check_outlays) := ⟨rfl, rfl, rfl, by decide +kernel, rfl, by decide +kernel, by decide +kernel⟩
theorem pn_check_outlays : Posn (defArgs s_check_outlays) (defBody s_check_outlays) (defScope s_check_outlays) "check_outlays" ["value"] := fun _ _ _ _ _ _ us hl => match us, hl with | [_], _ => rfl
/-! ### Calls___init__ -/
theorem sc_Calls___init__ : FnScope ["self", "payers", "calls", "outlays", "reserve", "bounds", "parts", "_", "part"] ["self", "payers", "calls", "outlays", "reserve", "bounds"] (defScope s_Calls___init__) := ⟨rfl, rfl, rfl, by decide +kernel, rfl, by decide +kernel, by decide +kernel⟩
theorem pn_Calls___init__ : PosnQ (defArgs s_Calls___init__) (defBody s_Calls___init__) (defScope s_Calls___init__) "__init__" "Calls.__init__" ["self", "payers", "calls", "outlays", "reserve", "bounds"] := fun _ _ _ _ _ _ us hl => match us, hl with | [_, _, _, _, _, _], _ => rfl
/-! ### Calls_payers -/
theorem sc_Calls_payers : FnScope ["self"] ["self"] (defScope s_Calls_payers) := ⟨rfl, rfl, rfl, by decide +kernel, rfl, by decide +kernel, by decide +kernel⟩
theorem pn_Calls_payers : PosnQ (defArgs s_Calls_payers) (defBody s_Calls_payers) (defScope s_Calls_payers) "payers" "Calls.payers" ["self"] := fun _ _ _ _ _ _ us hl => match us, hl with | [_], _ => rfl
/-! ### Calls_calls -/
theorem sc_Calls_calls : FnScope ["self"] ["self"] (defScope s_Calls_calls) := ⟨rfl, rfl, rfl, by decide +kernel, rfl, by decide +kernel, by decide +kernel⟩
theorem pn_Calls_calls : PosnQ (defArgs s_Calls_calls) (defBody s_Calls_calls) (defScope s_Calls_calls) "calls" "Calls.calls" ["self"] := fun _ _ _ _ _ _ us hl => match us, hl with | [_], _ => rfl
/-! ### Calls_outlays -/
theorem sc_Calls_outlays : FnScope ["self"] ["self"] (defScope s_Calls_outlays) := ⟨rfl, rfl, rfl, by decide +kernel, rfl, by decide +kernel, by decide +kernel⟩
theorem pn_Calls_outlays : PosnQ (defArgs s_Calls_outlays) (defBody s_Calls_outlays) (defScope s_Calls_outlays) "outlays" "Calls.outlays" ["self"] := fun _ _ _ _ _ _ us hl => match us, hl with | [_], _ => rfl
/-! ### Calls_reserve -/
theorem sc_Calls_reserve : FnScope ["self"] ["self"] (defScope s_Calls_reserve) := ⟨rfl, rfl, rfl, by decide +kernel, rfl, by decide +kernel, by decide +kernel⟩
theorem pn_Calls_reserve : PosnQ (defArgs s_Calls_reserve) (defBody s_Calls_reserve) (defScope s_Calls_reserve) "reserve" "Calls.reserve" ["self"] := fun _ _ _ _ _ _ us hl => match us, hl with | [_], _ => rfl
/-! ### Calls_bounds -/
theorem sc_Calls_bounds : FnScope ["self"] ["self"] (defScope s_Calls_bounds) := ⟨rfl, rfl, rfl, by decide +kernel, rfl, by decide +kernel, by decide +kernel⟩
theorem pn_Calls_bounds : PosnQ (defArgs s_Calls_bounds) (defBody s_Calls_bounds) (defScope s_Calls_bounds) "bounds" "Calls.bounds" ["self"] := fun _ _ _ _ _ _ us hl => match us, hl with | [_], _ => rfl
/-! ### Calls_parts -/
theorem sc_Calls_parts : FnScope ["self"] ["self"] (defScope s_Calls_parts) := ⟨rfl, rfl, rfl, by decide +kernel, rfl, by decide +kernel, by decide +kernel⟩
theorem pn_Calls_parts : PosnQ (defArgs s_Calls_parts) (defBody s_Calls_parts) (defScope s_Calls_parts) "parts" "Calls.parts" ["self"] := fun _ _ _ _ _ _ us hl => match us, hl with | [_], _ => rfl
/-! ### Calls___eq__ -/
theorem sc_Calls___eq__ : FnScope ["self", "other"] ["self", "other"] (defScope s_Calls___eq__) := ⟨rfl, rfl, rfl, by decide +kernel, rfl, by decide +kernel, by decide +kernel⟩
theorem pn_Calls___eq__ : PosnQ (defArgs s_Calls___eq__) (defBody s_Calls___eq__) (defScope s_Calls___eq__) "__eq__" "Calls.__eq__" ["self", "other"] := fun _ _ _ _ _ _ us hl => match us, hl with | [_, _], _ => rfl
/-! ### Calls_owed -/
theorem sc_Calls_owed : FnScope ["self", "payer", "call"] ["self", "payer", "call"] (defScope s_Calls_owed) := ⟨rfl, rfl, rfl, by decide +kernel, rfl, by decide +kernel, by decide +kernel⟩
theorem pn_Calls_owed : PosnQ (defArgs s_Calls_owed) (defBody s_Calls_owed) (defScope s_Calls_owed) "owed" "Calls.owed" ["self", "payer", "call"] := fun _ _ _ _ _ _ us hl => match us, hl with | [_, _, _], _ => rfl
/-! ### check_payer -/
theorem sc_check_payer : FnScope ["plan", "value"] ["plan", "value"] (defScope s_check_payer) := ⟨rfl, rfl, rfl, by decide +kernel, rfl, by decide +kernel, by decide +kernel⟩
theorem pn_check_payer : Posn (defArgs s_check_payer) (defBody s_check_payer) (defScope s_check_payer) "check_payer" ["plan", "value"] := fun _ _ _ _ _ _ us hl => match us, hl with | [_, _], _ => rfl
/-! ### _law_urn -/
theorem sc__law_urn : FnScope ["script", "lap", "mixed", "cell", "own"] ["script", "lap"] (defScope s__law_urn) := ⟨rfl, rfl, rfl, by decide +kernel, rfl, by decide +kernel, by decide +kernel⟩
theorem pn__law_urn : Posn (defArgs s__law_urn) (defBody s__law_urn) (defScope s__law_urn) "_law_urn" ["script", "lap"] := fun _ _ _ _ _ _ us hl => match us, hl with | [_, _], _ => rfl
/-! ### _law_take -/
theorem sc__law_take : FnScope ["urn", "many", "figure", "stir"] ["urn", "many"] (defScope s__law_take) := ⟨rfl, rfl, rfl, by decide +kernel, rfl, by decide +kernel, by decide +kernel⟩
theorem pn__law_take : Posn (defArgs s__law_take) (defBody s__law_take) (defScope s__law_take) "_law_take" ["urn", "many"] := fun _ _ _ _ _ _ us hl => match us, hl with | [_, _], _ => rfl
/-! ### _law_of -/
theorem sc__law_of : FnScope ["urn", "some"] ["urn", "some"] (defScope s__law_of) := ⟨rfl, rfl, rfl, by decide +kernel, rfl, by decide +kernel, by decide +kernel⟩
theorem pn__law_of : Posn (defArgs s__law_of) (defBody s__law_of) (defScope s__law_of) "_law_of" ["urn", "some"] := fun _ _ _ _ _ _ us hl => match us, hl with | [_, _], _ => rfl
/-! ### _law_names -/
theorem sc__law_names : FnScope ["urn", "many", "found", "letters", "turn", "size", "name", "lap", "at"] ["urn", "many"] (defScope s__law_names) := ⟨rfl, rfl, rfl, by decide +kernel, rfl, by decide +kernel, by decide +kernel⟩
theorem pn__law_names : Posn (defArgs s__law_names) (defBody s__law_names) (defScope s__law_names) "_law_names" ["urn", "many"] := fun _ _ _ _ _ _ us hl => match us, hl with | [_, _], _ => rfl
/-! ### _law_plan -/
theorem sc__law_plan : FnScope ["urn", "sizes", "top", "names", "payers", "calls", "outlays", "offices", "name", "due", "many", "days", "left", "day", "turn", "part", "whole", "payer", "most", "reserve"] ["urn", "sizes", "top"] (defScope s__law_plan) := ⟨rfl, rfl, rfl, by decide +kernel, rfl, by decide +kernel, by decide +kernel⟩
theorem pn__law_plan : Posn (defArgs s__law_plan) (defBody s__law_plan) (defScope s__law_plan) "_law_plan" ["urn", "sizes", "top"] := fun _ _ _ _ _ _ us hl => match us, hl with | [_, _, _], _ => rfl
/-! ### _law_bounds -/
theorem sc__law_bounds : FnScope ["urn", "parts", "sizes", "found", "size"] ["urn", "parts", "sizes"] (defScope s__law_bounds) := ⟨rfl, rfl, rfl, by decide +kernel, rfl, by decide +kernel, by decide +kernel⟩
theorem pn__law_bounds : Posn (defArgs s__law_bounds) (defBody s__law_bounds) (defScope s__law_bounds) "_law_bounds" ["urn", "parts", "sizes"] := fun _ _ _ _ _ _ us hl => match us, hl with | [_, _, _], _ => rfl
/-! ### _law_owed -/
theorem sc__law_owed : FnScope ["parts", "payer", "call", "day", "part"] ["parts", "payer", "call"] (defScope s__law_owed) := ⟨rfl, rfl, rfl, by decide +kernel, rfl, by decide +kernel, by decide +kernel⟩
theorem pn__law_owed : Posn (defArgs s__law_owed) (defBody s__law_owed) (defScope s__law_owed) "_law_owed" ["parts", "payer", "call"] := fun _ _ _ _ _ _ us hl => match us, hl with | [_, _, _], _ => rfl
/-! ### _law_bent -/
theorem sc__law_bent : FnScope ["urn", "parts", "payers", "calls", "outlays", "reserve", "bounds", "way", "at", "name", "office", "due", "k"] ["urn", "parts"] (defScope s__law_bent) := ⟨rfl, rfl, rfl, by decide +kernel, rfl, by decide +kernel, by decide +kernel⟩
theorem pn__law_bent : Posn (defArgs s__law_bent) (defBody s__law_bent) (defScope s__law_bent) "_law_bent" ["urn", "parts"] := fun _ _ _ _ _ _ us hl => match us, hl with | [_, _], _ => rfl
/-! ### _law_is_equal -/
theorem sc__law_is_equal : FnScope ["one", "two", "due"] ["one", "two", "due"] (defScope s__law_is_equal) := ⟨rfl, rfl, rfl, by decide +kernel, rfl, by decide +kernel, by decide +kernel⟩
theorem pn__law_is_equal : Posn (defArgs s__law_is_equal) (defBody s__law_is_equal) (defScope s__law_is_equal) "_law_is_equal" ["one", "two", "due"] := fun _ _ _ _ _ _ us hl => match us, hl with | [_, _, _], _ => rfl
/-! ### _law_right -/
theorem sc__law_right : FnScope ["urn", "turn", "sizes", "top", "parts", "payers", "calls", "outlays", "reserve", "bounds", "one", "two", "other", "plan", "told", "payer", "k", "due", "mate", "thing"] ["urn"] (defScope s__law_right) := ⟨rfl, rfl, rfl, by decide +kernel, rfl, by decide +kernel, by decide +kernel⟩
theorem pn__law_right : Posn (defArgs s__law_right) (defBody s__law_right) (defScope s__law_right) "_law_right" ["urn"] := fun _ _ _ _ _ _ us hl => match us, hl with | [_], _ => rfl
/-! ### law -/
theorem sc_law : FnScope ["script", "lap"] ["script"] (defScope s_law) := ⟨rfl, rfl, rfl, by decide +kernel, rfl, by decide +kernel, by decide +kernel⟩
theorem pn_law : Posn (defArgs s_law) (defBody s_law) (defScope s_law) "law" ["script"] := fun _ _ _ _ _ _ us hl => match us, hl with | [_], _ => rfl
def kn0_g {α : Type} : List α → List α → List α
  | [a0], [b0, b1, b2, b3, b4] => [a0, b4, b3, b2, b1, b0]
  | _, _ => []
theorem kn0_b : KeynQ (defArgs s_Calls___init__) (defBody s_Calls___init__) (defScope s_Calls___init__) "__init__" "Calls.__init__" ["self", "payers", "calls", "outlays", "reserve", "bounds"] (["bounds", "reserve", "outlays", "calls", "payers"] : List Str) 1 kn0_g := fun _ _ _ _ _ _ us ws h1 h2 => match us, ws, h1, h2 with | [a0], [b0, b1, b2, b3, b4], _, _ => rfl
theorem kn0_r {K : PySem.W.Frag} {F : Hp} {μ : List MA} {ds es : List D} {vs us : List V} (_ : ds.length = 1) (_ : es.length = ((["bounds", "reserve", "outlays", "calls", "payers"] : List Str)).length) (r : Reps K F μ ds vs) (q : Reps K F μ es us) : Reps K F μ (kn0_g ds es) (kn0_g vs us) := by
  match ds, vs, es, us, r, q with
  | [_], _, [_, _, _, _, _], _, .cons p0 .nil, .cons q0 (.cons q1 (.cons q2 (.cons q3 (.cons q4 .nil)))) => exact .cons p0 (.cons q4 (.cons q3 (.cons q2 (.cons q1 (.cons q0 .nil)))))
theorem kn0_v {vs us : List V} {ws zs : List Value} (_ : vs.length = 1) (_ : us.length = ((["bounds", "reserve", "outlays", "calls", "payers"] : List Str)).length) (r : Vals vs ws) (q : Vals us zs) : Vals (kn0_g vs us) (kn0_g ws zs) := by
  match vs, ws, us, zs, r, q with
  | [_], _, [_, _, _, _, _], _, .cons p0 .nil, .cons q0 (.cons q1 (.cons q2 (.cons q3 (.cons q4 .nil)))) => exact .cons p0 (.cons q4 (.cons q3 (.cons q2 (.cons q1 (.cons q0 .nil)))))
theorem kn0_l {ds es : List V} (h1 : ds.length = 1) (h2 : es.length = ((["bounds", "reserve", "outlays", "calls", "payers"] : List Str)).length) : (kn0_g ds es).length = (["self", "payers", "calls", "outlays", "reserve", "bounds"] : List Str).length := match ds, es, h1, h2 with | [_], [_, _, _, _, _], _, _ => rfl
def kn1_g {α : Type} : List α → List α → List α
  | [a0], [b0, b1] => [a0, b1, b0]
  | _, _ => []
theorem kn1_b : KeynQ (defArgs s_Calls_owed) (defBody s_Calls_owed) (defScope s_Calls_owed) "owed" "Calls.owed" ["self", "payer", "call"] (["call", "payer"] : List Str) 1 kn1_g := fun _ _ _ _ _ _ us ws h1 h2 => match us, ws, h1, h2 with | [a0], [b0, b1], _, _ => rfl
theorem kn1_r {K : PySem.W.Frag} {F : Hp} {μ : List MA} {ds es : List D} {vs us : List V} (_ : ds.length = 1) (_ : es.length = ((["call", "payer"] : List Str)).length) (r : Reps K F μ ds vs) (q : Reps K F μ es us) : Reps K F μ (kn1_g ds es) (kn1_g vs us) := by
  match ds, vs, es, us, r, q with
  | [_], _, [_, _], _, .cons p0 .nil, .cons q0 (.cons q1 .nil) => exact .cons p0 (.cons q1 (.cons q0 .nil))
theorem kn1_v {vs us : List V} {ws zs : List Value} (_ : vs.length = 1) (_ : us.length = ((["call", "payer"] : List Str)).length) (r : Vals vs ws) (q : Vals us zs) : Vals (kn1_g vs us) (kn1_g ws zs) := by
  match vs, ws, us, zs, r, q with
  | [_], _, [_, _], _, .cons p0 .nil, .cons q0 (.cons q1 .nil) => exact .cons p0 (.cons q1 (.cons q0 .nil))
theorem kn1_l {ds es : List V} (h1 : ds.length = 1) (h2 : es.length = ((["call", "payer"] : List Str)).length) : (kn1_g ds es).length = (["self", "payer", "call"] : List Str).length := match ds, es, h1, h2 with | [_], [_, _], _, _ => rfl
noncomputable section
def b__law_take : SX := (sSeq (sIf (cTest (cBin oGt (cBin oIx (cVar 0) (cK (.int 0))) (cK (.int 0)))) (sSeq (sAsg (tTup 2 (tsCons (tSub (cVar 0) (cK (.int 0))) (tsCons (tName 2) tsNil))) (cBlt bDivmod (aCons (cBin oIx (cVar 0) (cK (.int 0))) (aCons (cVar 1) aNil))))
    (sRet (cVar 2))) sNil)
    (sSeq (sAsg (tSub (cVar 0) (cK (.int 2))) (cBin oAddA (cBin oIx (cVar 0) (cK (.int 2))) (cK (.int 1))))
    (sSeq (sSet 3 (cBin oMod (cBlt bInt (aCons (cBin oAddA (cBin oMul (cBin oIx (cVar 0) (cK (.int 1))) (cK (.int 40009))) (cBin oMul (cK (.int 15013)) (cBin oIx (cVar 0) (cK (.int 2))))) aNil)) (cK (.int 2147483629))))
    (sSeq (sAsg (tSub (cVar 0) (cK (.int 1))) (cBin oMod (cBlt bInt (aCons (cBin oAddA (cBin oMul (cVar 3) (cBin oAddA (cBin oMod (cBlt bInt (aCons (cVar 3) aNil)) (cK (.int 5003))) (cK (.int 30011)))) (cBin oMul (cK (.int 3)) (cBin oIx (cVar 0) (cK (.int 2))))) aNil)) (cK (.int 2147483629))))
    (sRet (cBin oMod (cBlt bInt (aCons (cBin oDiv (cBin oIx (cVar 0) (cK (.int 1))) (cK (.int 907))) aNil)) (cVar 1)))))))
def F__law_take : OpB := callF false 4 b__law_take
def b__law_of : SX := (sRet (cBin oIx (cVar 1) (cCall 2 F__law_take (aCons (cVar 0) (aCons (cBlt bLen (aCons (cVar 1) aNil)) aNil)))))
def F__law_of : OpB := callF false 2 b__law_of
def b__law_bounds : SX := (sSeq (sSet 3 (cAlloc (cLst aNil)))
    (sSeq (sFor (cSeqA (cVar 2)) (tName 4) (sExpr (cMt mAppend (cVar 3) (aCons (cCall 2 F__law_take (aCons (cVar 0) (aCons (cBin oAddA (cVar 4) (cK (.int 1))) aNil))) aNil))))
    (sRet (cBin oAddA (cSliceA (cVar 1) cNo (cPart (cK (.int 4)))) (cTup (aCons (cBlt bTuple (aCons (cVar 3) aNil)) aNil))))))
def F__law_bounds : OpB := callF false 5 b__law_bounds
def b__law_names : SX := (sSeq (sPar 2 3 (aCons (cAlloc (cLst aNil)) (aCons (cK (.str "abcdefghijklmnopqrstuvwxyz")) aNil)))
    (sSeq (sFor (cRange1 (aCons (cVar 1) aNil)) (tName 4) (sSeq (sPar 5 6 (aCons (cCall 2 F__law_of (aCons (cVar 0) (aCons (cLst (aCons (cK (.int 0)) (aCons (cK (.int 0)) (aCons (cK (.int 1)) (aCons (cK (.int 3)) (aCons (cK (.int 6)) aNil)))))) aNil))) (aCons (cK (.str "")) aNil)))
    (sSeq (sFor (cRange1 (aCons (cVar 5) aNil)) (tName 7) (sSet 6 (cBin oAddA (cVar 6) (cCall 2 F__law_of (aCons (cVar 0) (aCons (cVar 3) aNil))))))
    (sSeq (sSet 8 (cCall 2 F__law_take (aCons (cVar 0) (aCons (cBin oAddA (cVar 5) (cK (.int 1))) aNil))))
    (sSeq (sSet 6 (cBin oAddA (cBin oAddA (cBin oAddA (cSliceA (cVar 6) cNo (cPart (cVar 8))) (cBin oIx (cVar 3) (cVar 4))) (cSliceA (cK (.str "q")) cNo (cPart (cVar 5)))) (cSliceA (cVar 6) (cPart (cVar 8)) cNo)))
    (sExpr (cMt mAppend (cVar 2) (aCons (cIfE (cTest (cBin (oInA true) (cVar 6) (cVar 2))) (cVar 6) (cBin oAddA (cBin oMulS (cBin oIx (cVar 3) (cVar 4)) (cK (.int 7))) (cK (.str "q")))) aNil))))))))
    (sRetL (cVar 2))))
def F__law_names : OpB := callF true 9 b__law_names
def b__law_plan : SX := (sSeq (sAsg (tTup 4 (tsCons (tName 3) (tsCons (tName 4) (tsCons (tName 5) (tsCons (tName 6) tsNil))))) (cTup (aCons (cCall 2 F__law_names (aCons (cVar 0) (aCons (cK (.int 16)) aNil))) (aCons (cAlloc (cLst aNil)) (aCons (cAlloc (cLst aNil)) (aCons (cAlloc (cLst aNil)) aNil))))))
    (sSeq (sSet 7 (cSliceA (cVar 3) (cPart (cK (.int 12))) (cPart (cBin oAddA (cK (.int 12)) (cCall 2 F__law_of (aCons (cVar 0) (aCons (cLst (aCons (cK (.int 1)) (aCons (cK (.int 2)) (aCons (cK (.int 4)) aNil)))) aNil)))))))
    (sSeq (sFor (cSeqA (cBlt bSortS (aCons (cSliceA (cVar 3) cNo (cPart (cBlt bMax2 (aCons (cK (.int 1)) (aCons (cBin oSub (cBin oIx (cVar 1) (cK (.int 0))) (cCall 2 F__law_of (aCons (cVar 0) (aCons (cLst (aCons (cK (.int 0)) (aCons (cK (.int 0)) (aCons (cK (.int 1)) (aCons (cCall 2 F__law_take (aCons (cVar 0) (aCons (cBin oIx (cVar 1) (cK (.int 0))) aNil))) aNil))))) aNil)))) aNil))))) aNil))) (tName 8) (sSeq (sSet 9 (cCall 2 F__law_of (aCons (cVar 0) (aCons (cLst (aCons (cBin oAddA (cK (.int 1)) (cCall 2 F__law_take (aCons (cVar 0) (aCons (cVar 2) aNil)))) (aCons (cBin oAddA (cK (.int 1)) (cCall 2 F__law_take (aCons (cVar 0) (aCons (cVar 2) aNil)))) (aCons (cK (.int 7)) (aCons (cVar 2) aNil))))) aNil))))
    (sExpr (cMt mAppend (cVar 4) (aCons (cTup (aCons (cVar 8) (aCons (cCall 2 F__law_of (aCons (cVar 0) (aCons (cVar 7) aNil))) (aCons (cVar 9) aNil)))) aNil)))))
    (sSeq (sPar3 10 11 12 (aCons (cBlt bMax2 (aCons (cK (.int 1)) (aCons (cBin oSub (cBin oIx (cVar 1) (cK (.int 1))) (cCall 2 F__law_of (aCons (cVar 0) (aCons (cLst (aCons (cK (.int 0)) (aCons (cK (.int 0)) (aCons (cK (.int 1)) (aCons (cCall 2 F__law_take (aCons (cVar 0) (aCons (cBin oIx (cVar 1) (cK (.int 1))) aNil))) aNil))))) aNil)))) aNil))) (aCons (cAlloc (cLst aNil)) (aCons (cK (.int 1000)) aNil))))
    (sSeq (sSet 13 (cCall 2 F__law_of (aCons (cVar 0) (aCons (cLst (aCons (cK (.int 0)) (aCons (cK (.int 0)) (aCons (cCall 2 F__law_take (aCons (cVar 0) (aCons (cK (.int 18)) aNil))) aNil)))) aNil))))
    (sSeq (sFor (cRange1 (aCons (cVar 10) aNil)) (tName 14) (sSeq (sExpr (cMt mAppend (cVar 11) (aCons (cVar 13) aNil)))
    (sSet 13 (cBin oAddA (cBin oAddA (cVar 13) (cK (.int 1))) (cCall 2 F__law_of (aCons (cVar 0) (aCons (cLst (aCons (cK (.int 0)) (aCons (cK (.int 1)) (aCons (cCall 2 F__law_take (aCons (cVar 0) (aCons (cK (.int 6)) aNil))) aNil)))) aNil)))))))
    (sSeq (sFor (cRange1 (aCons (cVar 10) aNil)) (tName 14) (sSeq (sSet 15 (cIfE (cTest (cBin oEqA (cVar 14) (cBin oSub (cVar 10) (cK (.int 1))))) (cVar 12) (cBin oAddA (cK (.int 1)) (cCall 2 F__law_take (aCons (cVar 0) (aCons (cBlt bMin2 (aCons (cBin oSub (cVar 12) (cBin oSub (cVar 10) (cVar 14))) (aCons (cCall 2 F__law_of (aCons (cVar 0) (aCons (cLst (aCons (cK (.int 60)) (aCons (cK (.int 400)) (aCons (cK (.int 900)) aNil)))) aNil))) aNil))) aNil))))))
    (sSeq (sExpr (cMt mAppend (cVar 5) (aCons (cTup (aCons (cBin oIx (cVar 11) (cVar 14)) (aCons (cVar 15) aNil))) aNil)))
    (sSet 12 (cBin oSub (cVar 12) (cVar 15))))))
    (sSeq (sPar 13 16 (aCons (cK (.int 0)) (aCons (cBlt bSum (aCons (cComp (cSeqA (cVar 4)) [17] (tName 17) bYes (cBin oIx (cVar 17) (cK (.int 2)))) aNil)) aNil)))
    (sSeq (sFor (cRange1 (aCons (cBin oSub (cBin oIx (cVar 1) (cK (.int 2))) (cCall 2 F__law_of (aCons (cVar 0) (aCons (cLst (aCons (cK (.int 0)) (aCons (cK (.int 1)) (aCons (cCall 2 F__law_take (aCons (cVar 0) (aCons (cBin oAddA (cBin oIx (cVar 1) (cK (.int 2))) (cK (.int 1))) aNil))) aNil)))) aNil)))) aNil)) (tName 14) (sSeq (sSet 13 (cBlt bMin2 (aCons (cK (.int 90)) (aCons (cBin oAddA (cVar 13) (cCall 2 F__law_of (aCons (cVar 0) (aCons (cLst (aCons (cK (.int 0)) (aCons (cK (.int 1)) (aCons (cK (.int 3)) (aCons (cCall 2 F__law_take (aCons (cVar 0) (aCons (cK (.int 12)) aNil))) aNil))))) aNil)))) aNil))))
    (sSeq (sSet 18 (cCall 2 F__law_of (aCons (cVar 0) (aCons (cLst (aCons (cBin oDiv (cVar 16) (cK (.int 2))) (aCons (cBin oDiv (cVar 16) (cK (.int 5))) (aCons (cK (.int 9)) (aCons (cVar 16) aNil))))) aNil))))
    (sExpr (cMt mAppend (cVar 6) (aCons (cTup (aCons (cVar 13) (aCons (cBlt bMin2 (aCons (cBin oPow (cK (.int 10)) (cK (.int 7))) (aCons (cBin oAddA (cK (.int 1)) (cCall 2 F__law_take (aCons (cVar 0) (aCons (cBlt bMax2 (aCons (cK (.int 1)) (aCons (cVar 18) aNil))) aNil)))) aNil))) aNil))) aNil))))))
    (sSeq (sSet 19 (cCall 2 F__law_of (aCons (cVar 0) (aCons (cLst (aCons (cK (.int 0)) (aCons (cCall 2 F__law_take (aCons (cVar 0) (aCons (cBin oAddA (cVar 16) (cK (.int 1))) aNil))) (aCons (cCall 2 F__law_take (aCons (cVar 0) (aCons (cBin oAddA (cBin oDiv (cVar 16) (cK (.int 2))) (cK (.int 1))) aNil))) (aCons (cCall 2 F__law_take (aCons (cVar 0) (aCons (cK (.int 9)) aNil))) aNil))))) aNil))))
    (sRet (cTup (aCons (cBlt bTuple (aCons (cVar 4) aNil)) (aCons (cBlt bTuple (aCons (cVar 5) aNil)) (aCons (cBlt bTuple (aCons (cVar 6) aNil)) (aCons (cBlt bMin2 (aCons (cBin oPow (cK (.int 10)) (cK (.int 7))) (aCons (cVar 19) aNil))) (aCons (cTup (aCons (cK (.int 0)) (aCons (cK (.int 0)) (aCons (cK (.int 0)) (aCons (cK (.int 0)) aNil))))) aNil)))))))))))))))))
def F__law_plan : OpB := callF false 20 b__law_plan
def b_is_tuple_of : SX := (sRet (cAnd (cIsi .tuple (cVar 0)) (cBin oEqA (cBlt bLen (aCons (cVar 0) aNil)) (cVar 1))))
def F_is_tuple_of : OpB := callF false 2 b_is_tuple_of
def b_is_letters : SX := (sSeq (sIf (bOr (bNot (cTest (cIsi .str (cVar 0)))) (bNot (cTest (cChain oLe oLe (cVar 1) (cBlt bLen (aCons (cVar 0) aNil)) (cVar 2))))) (sRet (cK (.bl false))) sNil)
    (sRet (cBlt bAll (aCons (cComp (cSeqA (cVar 0)) [3] (tName 3) bYes (cBin (oInA false) (cVar 3) (cK (.str "abcdefghijklmnopqrstuvwxyz")))) aNil))))
def F_is_letters : OpB := callF false 4 b_is_letters
def b_is_name : SX := (sRet (cAnd (cCall 3 F_is_letters (aCons (cVar 0) (aCons (cK (.int 1)) (aCons (cK (.int 8)) aNil)))) (cBin (oInA true) (cVar 0) (cK (.tup [(.str "all"), (.str "any"), (.str "back"), (.str "cannot"), (.str "close"), (.str "day"), (.str "fixed"), (.str "gives"), (.str "goal"), (.str "hear"), (.str "match"), (.str "may"), (.str "met"), (.str "none"), (.str "office"), (.str "person"), (.str "some"), (.str "sum"), (.str "sure"), (.str "terms"), (.str "with")])))))
def F_is_name : OpB := callF false 1 b_is_name
def b_is_whole : SX := (sRet (cAnd (cIsi .int (cVar 0)) (cNot (cIsi .bool (cVar 0)))))
def F_is_whole : OpB := callF false 1 b_is_whole
def b_is_number : SX := (sSeq (sIf (bOr (bNot (cTest (cCall 1 F_is_whole (aCons (cVar 0) aNil)))) (bAnd (cTest (cBin oNotN (cVar 1) (cK .non))) (cTest (cBin oLtA (cVar 0) (cVar 1))))) (sRet (cK (.bl false))) sNil)
    (sRet (cOr (cBin oIsN (cVar 2) (cK .non)) (cBin oLe (cVar 0) (cVar 2)))))
def F_is_number : OpB := callF false 3 b_is_number
def b_is_payer : SX := (sSeq (sIf (bOr (bNot (cTest (cCall 2 F_is_tuple_of (aCons (cVar 0) (aCons (cK (.int 3)) aNil))))) (bOr (bNot (cTest (cCall 1 F_is_name (aCons (cBin oIx (cVar 0) (cK (.int 0))) aNil)))) (bNot (cTest (cCall 1 F_is_name (aCons (cBin oIx (cVar 0) (cK (.int 1))) aNil)))))) (sRet (cK (.bl false))) sNil)
    (sSeq (sAsg (tTup 3 (tsCons (tName 2) (tsCons (tName 3) (tsCons (tName 4) tsNil)))) (cVar 0))
    (sSeq (sIf (bOr (bNot (cTest (cCall 3 F_is_number (aCons (cVar 4) (aCons (cK (.int 1)) (aCons (cK (.int 1000000)) aNil)))))) (bAnd (cTest (cBin oNeA (cVar 1) (cTup aNil))) (cTest (cBin oGeA (cBin oIx (cBin oIx (cVar 1) (cUn oNeg (cK (.int 1)))) (cK (.int 0))) (cVar 2))))) (sRet (cK (.bl false))) sNil)
    (sSeq (sAsg (tTup 2 (tsCons (tName 5) (tsCons (tName 6) tsNil))) (cTup (aCons (cBin oCat (cComp (cSeqA (cVar 1)) [7] (tName 7) bYes (cBin oIx (cVar 7) (cK (.int 0)))) (cLst (aCons (cVar 2) aNil))) (aCons (cBin oCat (cComp (cSeqA (cVar 1)) [7] (tName 7) bYes (cBin oIx (cVar 7) (cK (.int 1)))) (cLst (aCons (cVar 3) aNil))) aNil))))
    (sSeq (sIf (cTest (cBlt bAny (aCons (cComp (cSeqA (cVar 5)) [8] (tName 8) bYes (cBin (oInA false) (cVar 8) (cVar 6))) aNil))) (sRet (cK (.bl false))) sNil)
    (sRet (cBin oLe (cBlt bLenK (aCons (cDc (cSeqA (cVar 6)) [8] (tName 8) bYes (cVar 8) (cK .non)) aNil)) (cK (.int 4)))))))))
def F_is_payer : OpB := callF false 9 b_is_payer
def b_wrong_at_is_payer : SX := (sSeq (sIf (bNot (cTest (cIsi .tuple (cVar 0)))) (sRet (cLst (aCons (cK .non) aNil))) sNil)
    (sSeq (sFor (cEnumA (aCons (cVar 0) aNil)) (tTup 2 (tsCons (tName 3) (tsCons (tName 4) tsNil))) (sIf (bOr (cTest (cBin oEqA (cVar 3) (cVar 1))) (bNot (cTest (cCallGs 2 2 [("is_payer", F_is_payer)] (aCons (cVar 4) (aCons (cSliceA (cVar 0) cNo (cPart (cVar 3))) aNil)))))) (sRet (cLst (aCons (cVar 3) aNil))) sNil))
    (sRet (cLst aNil))))
def F_wrong_at_is_payer : OpB := callF true 5 b_wrong_at_is_payer
def b_wrong_from_one_is_payer : SX := (sRet (cIfE (cTest (cBin oEqA (cVar 0) (cTup aNil))) (cLst (aCons (cK .non) aNil)) (cCall 3 F_wrong_at_is_payer (aCons (cVar 0) (aCons (cVar 1) (aCons (cVar 2) aNil))))))
def F_wrong_from_one_is_payer : OpB := callF true 3 b_wrong_from_one_is_payer
def b_check_payers : SX := (sFor (cSeqA (cCall 3 F_wrong_from_one_is_payer (aCons (cVar 0) (aCons (cK (.int 12)) (aCons (cK (.gfn "is_payer")) aNil))))) (tName 1) sStuck)
def F_check_payers : OpB := callF false 2 b_check_payers
def b_is_call : SX := (sSeq (sIf (bOr (bNot (cTest (cCall 2 F_is_tuple_of (aCons (cVar 0) (aCons (cK (.int 2)) aNil))))) (bOr (bNot (cTest (cCall 3 F_is_number (aCons (cBin oIx (cVar 0) (cK (.int 0))) (aCons (cK (.int 0)) (aCons (cK (.int 60)) aNil)))))) (bNot (cTest (cCall 3 F_is_number (aCons (cBin oIx (cVar 0) (cK (.int 1))) (aCons (cK (.int 1)) (aCons (cK (.int 1000)) aNil)))))))) (sRet (cK (.bl false))) sNil)
    (sRet (cOr (cBin oEqA (cVar 1) (cTup aNil)) (cBin oLtA (cBin oIx (cBin oIx (cVar 1) (cUn oNeg (cK (.int 1)))) (cK (.int 0))) (cBin oIx (cVar 0) (cK (.int 0)))))))
def F_is_call : OpB := callF false 2 b_is_call
def b_wrong_at_is_call : SX := (sSeq (sIf (bNot (cTest (cIsi .tuple (cVar 0)))) (sRet (cLst (aCons (cK .non) aNil))) sNil)
    (sSeq (sFor (cEnumA (aCons (cVar 0) aNil)) (tTup 2 (tsCons (tName 3) (tsCons (tName 4) tsNil))) (sIf (bOr (cTest (cBin oEqA (cVar 3) (cVar 1))) (bNot (cTest (cCallGs 2 2 [("is_call", F_is_call)] (aCons (cVar 4) (aCons (cSliceA (cVar 0) cNo (cPart (cVar 3))) aNil)))))) (sRet (cLst (aCons (cVar 3) aNil))) sNil))
    (sRet (cLst aNil))))
def F_wrong_at_is_call : OpB := callF true 5 b_wrong_at_is_call
def b_wrong_from_one_is_call : SX := (sRet (cIfE (cTest (cBin oEqA (cVar 0) (cTup aNil))) (cLst (aCons (cK .non) aNil)) (cCall 3 F_wrong_at_is_call (aCons (cVar 0) (aCons (cVar 1) (aCons (cVar 2) aNil))))))
def F_wrong_from_one_is_call : OpB := callF true 3 b_wrong_from_one_is_call
def b_check_calls : SX := (sFor (cSeqA (cCall 3 F_wrong_from_one_is_call (aCons (cVar 0) (aCons (cK (.int 8)) (aCons (cK (.gfn "is_call")) aNil))))) (tName 1) sStuck)
def F_check_calls : OpB := callF false 2 b_check_calls
def b_is_outlay : SX := (sSeq (sIf (bOr (bNot (cTest (cCall 2 F_is_tuple_of (aCons (cVar 0) (aCons (cK (.int 2)) aNil))))) (bNot (cTest (cCall 3 F_is_number (aCons (cBin oIx (cVar 0) (cK (.int 0))) (aCons (cK (.int 0)) (aCons (cK (.int 90)) aNil))))))) (sRet (cK (.bl false))) sNil)
    (sRet (cAnd (cCall 3 F_is_number (aCons (cBin oIx (cVar 0) (cK (.int 1))) (aCons (cK (.int 1)) (aCons (cK (.int 10000000)) aNil)))) (cOr (cBin oEqA (cVar 1) (cTup aNil)) (cBin oLe (cBin oIx (cBin oIx (cVar 1) (cUn oNeg (cK (.int 1)))) (cK (.int 0))) (cBin oIx (cVar 0) (cK (.int 0))))))))
def F_is_outlay : OpB := callF false 2 b_is_outlay
def b_wrong_at_is_outlay : SX := (sSeq (sIf (bNot (cTest (cIsi .tuple (cVar 0)))) (sRet (cLst (aCons (cK .non) aNil))) sNil)
    (sSeq (sFor (cEnumA (aCons (cVar 0) aNil)) (tTup 2 (tsCons (tName 3) (tsCons (tName 4) tsNil))) (sIf (bOr (cTest (cBin oEqA (cVar 3) (cVar 1))) (bNot (cTest (cCallGs 2 2 [("is_outlay", F_is_outlay)] (aCons (cVar 4) (aCons (cSliceA (cVar 0) cNo (cPart (cVar 3))) aNil)))))) (sRet (cLst (aCons (cVar 3) aNil))) sNil))
    (sRet (cLst aNil))))
def F_wrong_at_is_outlay : OpB := callF true 5 b_wrong_at_is_outlay
def b_check_outlays : SX := (sFor (cSeqA (cCall 3 F_wrong_at_is_outlay (aCons (cVar 0) (aCons (cK (.int 8)) (aCons (cK (.gfn "is_outlay")) aNil))))) (tName 1) sStuck)
def F_check_outlays : OpB := callF false 2 b_check_outlays
def b_check_number : SX := (sIf (bNot (cTest (cCall 3 F_is_number (aCons (cVar 0) (aCons (cVar 1) (aCons (cVar 2) aNil)))))) sStuck sNil)
def F_check_number : OpB := callF false 3 b_check_number
def b_are_bounds : SX := (sSeq (sIf (bNot (cTest (cCall 2 F_is_tuple_of (aCons (cVar 0) (aCons (cBlt bLen (aCons (cK (.tup [(.int 6), (.int 9), (.int 3), (.int 9)])) aNil)) aNil))))) (sRet (cK (.bl false))) sNil)
    (sRet (cBlt bAll (aCons (cComp (cZip (aCons (cVar 0) (aCons (cK (.tup [(.int 6), (.int 9), (.int 3), (.int 9)])) aNil))) [1, 2] (tTup 2 (tsCons (tName 1) (tsCons (tName 2) tsNil))) bYes (cCall 3 F_is_number (aCons (cVar 1) (aCons (cK (.int 0)) (aCons (cVar 2) aNil))))) aNil))))
def F_are_bounds : OpB := callF false 3 b_are_bounds
def b_Calls___init__ : SX := (sSeq (sExpr (cCall 1 F_check_payers (aCons (cVar 1) aNil)))
    (sSeq (sExpr (cCall 1 F_check_calls (aCons (cVar 2) aNil)))
    (sSeq (sExpr (cCall 1 F_check_outlays (aCons (cVar 3) aNil)))
    (sSeq (sExpr (cCall 3 F_check_number (aCons (cVar 4) (aCons (cK (.int 0)) (aCons (cK (.int 10000000)) aNil)))))
    (sSeq (sIf (bNot (cTest (cCall 1 F_are_bounds (aCons (cVar 5) aNil)))) sStuck sNil)
    (sSeq (sSet 6 (cBlt bSum (aCons (cComp (cSeqA (cVar 2)) [7, 8] (tTup 2 (tsCons (tName 7) (tsCons (tName 8) tsNil))) bYes (cVar 8)) aNil)))
    (sSeq (sIf (cTest (cBin oNeA (cVar 6) (cK (.int 1000)))) sStuck sNil)
    (sFldS "Calls" "told" (cVar 0) (cTup (aCons (cVar 1) (aCons (cVar 2) (aCons (cVar 3) (aCons (cVar 4) (aCons (cVar 5) aNil))))))))))))))
def F_Calls___init__ : OpB := callF false 9 b_Calls___init__
def b__law_bent : SX := (sSeq (sAsg (tTup 5 (tsCons (tName 2) (tsCons (tName 3) (tsCons (tName 4) (tsCons (tName 5) (tsCons (tName 6) tsNil)))))) (cVar 1))
    (sSeq (sPar 7 8 (aCons (cCall 2 F__law_take (aCons (cVar 0) (aCons (cK (.int 5)) aNil))) (aCons (cCall 2 F__law_take (aCons (cVar 0) (aCons (cBlt bLen (aCons (cVar 2) aNil)) aNil))) aNil)))
    (sSeq (sIf (cTest (cBin oEqA (cVar 7) (cK (.int 0)))) (sSeq (sAsg (tTup 3 (tsCons (tName 9) (tsCons (tName 10) (tsCons (tName 11) tsNil)))) (cBin oIx (cVar 2) (cVar 8)))
    (sSeq (sSet 11 (cIfE (cTest (cBin oGt (cVar 11) (cK (.int 1)))) (cBin oSub (cVar 11) (cK (.int 1))) (cK (.int 2))))
    (sRet (cTup (aCons (cBin oAddA (cBin oAddA (cSliceA (cVar 2) cNo (cPart (cVar 8))) (cTup (aCons (cTup (aCons (cVar 9) (aCons (cVar 10) (aCons (cVar 11) aNil)))) aNil))) (cSliceA (cVar 2) (cPart (cBin oAddA (cVar 8) (cK (.int 1)))) cNo)) (aCons (cVar 3) (aCons (cVar 4) (aCons (cVar 5) (aCons (cVar 6) aNil))))))))) sNil)
    (sSeq (sIf (cTest (cBin oEqA (cVar 7) (cK (.int 1)))) (sRet (cTup (aCons (cVar 2) (aCons (cVar 3) (aCons (cVar 4) (aCons (cIfE (cTest (cBin oGt (cVar 5) (cK (.int 0)))) (cBin oSub (cVar 5) (cK (.int 1))) (cK (.int 1))) (aCons (cVar 6) aNil))))))) sNil)
    (sSeq (sIf (bAnd (cTest (cBin oEqA (cVar 7) (cK (.int 2)))) (cTest (cBin oNeA (cVar 4) (cTup aNil)))) (sRet (cTup (aCons (cVar 2) (aCons (cVar 3) (aCons (cSliceA (cVar 4) (cPart (cK (.int 1))) cNo) (aCons (cVar 5) (aCons (cVar 6) aNil))))))) sNil)
    (sSeq (sIf (cTest (cBin oEqA (cVar 7) (cK (.int 3)))) (sRet (cTup (aCons (cVar 2) (aCons (cBin oAddA (cSliceA (cVar 3) cNo (cPart (cUn oNeg (cK (.int 1))))) (cTup (aCons (cTup (aCons (cBin oAddA (cBin oIx (cBin oIx (cVar 3) (cUn oNeg (cK (.int 1)))) (cK (.int 0))) (cK (.int 1))) (aCons (cBin oIx (cBin oIx (cVar 3) (cUn oNeg (cK (.int 1)))) (cK (.int 1))) aNil))) aNil))) (aCons (cVar 4) (aCons (cVar 5) (aCons (cVar 6) aNil))))))) sNil)
    (sSeq (sSet 12 (cCall 2 F__law_take (aCons (cVar 0) (aCons (cK (.int 4)) aNil))))
    (sRet (cTup (aCons (cVar 2) (aCons (cVar 3) (aCons (cVar 4) (aCons (cVar 5) (aCons (cBin oAddA (cBin oAddA (cSliceA (cVar 6) cNo (cPart (cVar 12))) (cTup (aCons (cIfE (cTest (cBin oGt (cBin oIx (cVar 6) (cVar 12)) (cK (.int 0)))) (cBin oSub (cBin oIx (cVar 6) (cVar 12)) (cK (.int 1))) (cK (.int 1))) aNil))) (cSliceA (cVar 6) (cPart (cBin oAddA (cVar 12) (cK (.int 1)))) cNo)) aNil))))))))))))))
def F__law_bent : OpB := callF false 13 b__law_bent
def b_Calls_payers : SX := (sRet (cBin oIx (cFld "Calls" "told" (cVar 0)) (cK (.int 0))))
def F_Calls_payers : OpB := callF false 1 b_Calls_payers
def b_Calls_calls : SX := (sRet (cBin oIx (cFld "Calls" "told" (cVar 0)) (cK (.int 1))))
def F_Calls_calls : OpB := callF false 1 b_Calls_calls
def b_Calls_outlays : SX := (sRet (cBin oIx (cFld "Calls" "told" (cVar 0)) (cK (.int 2))))
def F_Calls_outlays : OpB := callF false 1 b_Calls_outlays
def b_Calls_reserve : SX := (sRet (cBin oIx (cFld "Calls" "told" (cVar 0)) (cK (.int 3))))
def F_Calls_reserve : OpB := callF false 1 b_Calls_reserve
def b_Calls_bounds : SX := (sRet (cBin oIx (cFld "Calls" "told" (cVar 0)) (cK (.int 4))))
def F_Calls_bounds : OpB := callF false 1 b_Calls_bounds
def b_Calls_parts : SX := (sRet (cFld "Calls" "told" (cVar 0)))
def F_Calls_parts : OpB := callF false 1 b_Calls_parts
def b__law_owed : SX := (sRet (cBin oDiv (cBin oMul (cBin oIx (cVar 1) (cK (.int 2))) (cBlt bSum (aCons (cComp (cSeqA (cSliceA (cBin oIx (cVar 0) (cK (.int 1))) cNo (cPart (cBin oAddA (cVar 2) (cK (.int 1)))))) [3, 4] (tTup 2 (tsCons (tName 3) (tsCons (tName 4) tsNil))) bYes (cVar 4)) aNil))) (cK (.int 1000))))
def F__law_owed : OpB := callF false 5 b__law_owed
def b_payer_of : SX := (sRet (cComp (cSeqA (cProp "Calls" F_Calls_payers (cVar 0))) [2] (tName 2) (bAnd (cTest (cIsi .str (cVar 1))) (cTest (cBin oEqA (cBin oIx (cVar 2) (cK (.int 0))) (cVar 1)))) (cVar 2)))
def F_payer_of : OpB := callF true 3 b_payer_of
def b_check_payer : SX := (sIf (cTest (cBin oEqA (cCall 2 F_payer_of (aCons (cVar 0) (aCons (cVar 1) aNil))) (cLst aNil))) sStuck sNil)
def F_check_payer : OpB := callF false 2 b_check_payer
def b_part_up_to : SX := (sRet (cBlt bSum (aCons (cComp (cSeqA (cSliceA (cVar 0) cNo (cPart (cBin oAddA (cVar 1) (cK (.int 1)))))) [2, 3] (tTup 2 (tsCons (tName 2) (tsCons (tName 3) tsNil))) bYes (cVar 3)) aNil)))
def F_part_up_to : OpB := callF false 4 b_part_up_to
def b_owed_of : SX := (sRet (cBin oDiv (cBin oMul (cVar 0) (cCall 2 F_part_up_to (aCons (cVar 1) (aCons (cVar 2) aNil)))) (cK (.int 1000))))
def F_owed_of : OpB := callF false 3 b_owed_of
def b_Calls_owed : SX := (sSeq (sExpr (cCall 2 F_check_payer (aCons (cVar 0) (aCons (cVar 1) aNil))))
    (sSeq (sExpr (cCall 3 F_check_number (aCons (cVar 2) (aCons (cK (.int 0)) (aCons (cBin oSub (cBlt bLen (aCons (cProp "Calls" F_Calls_calls (cVar 0)) aNil)) (cK (.int 1))) aNil)))))
    (sRet (cCall 3 F_owed_of (aCons (cBin oIx (cBin oIx (cCall 2 F_payer_of (aCons (cVar 0) (aCons (cVar 1) aNil))) (cK (.int 0))) (cK (.int 2))) (aCons (cProp "Calls" F_Calls_calls (cVar 0)) (aCons (cVar 2) aNil)))))))
def F_Calls_owed : OpB := callF false 3 b_Calls_owed
def b_Calls___eq__ : SX := (sRet (cAnd (cIsC "Calls" (cVar 1)) (cBin oEqA (cProp "Calls" F_Calls_parts (cVar 0)) (cProp "Calls" F_Calls_parts (cVar 1)))))
def F_Calls___eq__ : OpB := callF false 2 b_Calls___eq__
def b__law_is_equal : SX := (sRet (cBin oEqA (cBlt bRepr (aCons (cLst (aCons (cBin (oEqI "Calls" F_Calls___eq__ false) (cVar 0) (cVar 1)) (aCons (cBin (oEqI "Calls" F_Calls___eq__ false) (cVar 1) (cVar 0)) (aCons (cBin (oEqI "Calls" F_Calls___eq__ true) (cVar 0) (cVar 1)) (aCons (cBin (oEqI "Calls" F_Calls___eq__ true) (cVar 1) (cVar 0)) aNil))))) aNil)) (cBlt bRepr (aCons (cLst (aCons (cVar 2) (aCons (cVar 2) (aCons (cNot (cVar 2)) (aCons (cNot (cVar 2)) aNil))))) aNil))))
def F__law_is_equal : OpB := callF false 3 b__law_is_equal
def b__law_right : SX := (sSeq (sFor (cRange1 (aCons (cK (.int 3)) aNil)) (tName 1) (sSeq (sPar 2 3 (aCons (cCall 2 F__law_of (aCons (cVar 0) (aCons (cLst (aCons (cTup (aCons (cK (.int 12)) (aCons (cK (.int 8)) (aCons (cK (.int 8)) aNil)))) (aCons (cTup (aCons (cK (.int 3)) (aCons (cK (.int 2)) (aCons (cK (.int 2)) aNil)))) (aCons (cTup (aCons (cK (.int 6)) (aCons (cK (.int 4)) (aCons (cK (.int 3)) aNil)))) aNil)))) aNil))) (aCons (cCall 2 F__law_of (aCons (cVar 0) (aCons (cLst (aCons (cK (.int 9)) (aCons (cK (.int 1000)) (aCons (cBin oPow (cK (.int 10)) (cK (.int 6))) aNil)))) aNil))) aNil)))
    (sSeq (sSet 4 (cCall 3 F__law_bounds (aCons (cVar 0) (aCons (cCall 3 F__law_plan (aCons (cVar 0) (aCons (cVar 2) (aCons (cVar 3) aNil)))) (aCons (cTup (aCons (cK (.int 6)) (aCons (cK (.int 9)) (aCons (cK (.int 3)) (aCons (cK (.int 9)) aNil))))) aNil)))))
    (sSeq (sAsg (tTup 5 (tsCons (tName 5) (tsCons (tName 6) (tsCons (tName 7) (tsCons (tName 8) (tsCons (tName 9) tsNil)))))) (cVar 4))
    (sSeq (sSet 10 (cMake madeI "Calls" 6 F_Calls___init__ (aCons (cVar 5) (aCons (cVar 6) (aCons (cVar 7) (aCons (cVar 8) (aCons (cVar 9) aNil)))))))
    (sSeq (sSet 11 (cMakeK madeI "Calls" 5 kn0_g F_Calls___init__ (aCons (cVar 9) (aCons (cVar 8) (aCons (cVar 7) (aCons (cVar 6) (aCons (cVar 5) aNil)))))))
    (sSeq (sSet 12 (cCall 2 F__law_bent (aCons (cVar 0) (aCons (cVar 4) aNil))))
    (sSeq (sFor (cSeqA (cTup (aCons (cVar 10) (aCons (cVar 11) aNil)))) (tName 13) (sSeq (sSet 14 (cLst (aCons (cProp "Calls" F_Calls_payers (cVar 13)) (aCons (cProp "Calls" F_Calls_calls (cVar 13)) (aCons (cProp "Calls" F_Calls_outlays (cVar 13)) (aCons (cProp "Calls" F_Calls_reserve (cVar 13)) (aCons (cProp "Calls" F_Calls_bounds (cVar 13)) (aCons (cProp "Calls" F_Calls_parts (cVar 13)) aNil))))))))
    (sIf (bOr (cTest (cBin oNeA (cBlt bRepr (aCons (cVar 14) aNil)) (cBlt bRepr (aCons (cLst (aCons (cVar 5) (aCons (cVar 6) (aCons (cVar 7) (aCons (cVar 8) (aCons (cVar 9) (aCons (cVar 4) aNil))))))) aNil)))) (bNot (cTruI "Calls" (cVar 13)))) (sRet (cK (.bl false))) sNil)))
    (sSeq (sFor (cSeqA (cVar 5)) (tName 15) (sFor (cRange1 (aCons (cBlt bLen (aCons (cVar 6) aNil)) aNil)) (tName 16) (sSeq (sSet 17 (cCall 3 F__law_owed (aCons (cVar 4) (aCons (cVar 15) (aCons (cVar 16) aNil)))))
    (sIf (cTest (cBin oNeA (cBlt bRepr (aCons (cLst (aCons (cMeth "Calls" "owed" 3 F_Calls_owed (cVar 10) (aCons (cBin oIx (cVar 15) (cK (.int 0))) (aCons (cVar 16) aNil))) (aCons (cMethK "Calls" "owed" 2 kn1_g F_Calls_owed (cVar 10) (aCons (cVar 16) (aCons (cBin oIx (cVar 15) (cK (.int 0))) aNil))) aNil))) aNil)) (cBlt bRepr (aCons (cLst (aCons (cVar 17) (aCons (cVar 17) aNil))) aNil)))) (sRet (cK (.bl false))) sNil))))
    (sSeq (sSet 18 (cMake madeI "Calls" 6 F_Calls___init__ (aCons (cBin oIx (cVar 12) (cK (.int 0))) (aCons (cBin oIx (cVar 12) (cK (.int 1))) (aCons (cBin oIx (cVar 12) (cK (.int 2))) (aCons (cBin oIx (cVar 12) (cK (.int 3))) (aCons (cBin oIx (cVar 12) (cK (.int 4))) aNil)))))))
    (sFor (cSeqA (cTup (aCons (cTup (aCons (cVar 11) (aCons (cK (.bl true)) aNil))) (aCons (cTup (aCons (cVar 10) (aCons (cK (.bl true)) aNil))) (aCons (cTup (aCons (cVar 18) (aCons (cBin oEqA (cVar 12) (cVar 4)) aNil))) (aCons (cTup (aCons (cVar 4) (aCons (cK (.bl false)) aNil))) (aCons (cTup (aCons (cK .non) (aCons (cK (.bl false)) aNil))) aNil))))))) (tTup 2 (tsCons (tName 19) (tsCons (tName 17) tsNil))) (sIf (bNot (cTest (cCall 3 F__law_is_equal (aCons (cVar 10) (aCons (cVar 19) (aCons (cVar 17) aNil)))))) (sRet (cK (.bl false))) sNil))))))))))))
    (sRet (cK (.bl true))))
def F__law_right : OpB := callF false 20 b__law_right
def b__law_urn : SX := (sSeq (sSet 2 (cBin oAddA (cK (.int 621041)) (cBin oMul (cK (.int 8111)) (cVar 1))))
    (sSeq (sFor (cSeqA (cSliceL (cVar 0) cNo (cPart (cK (.int 9))))) (tName 3) (sSet 2 (cBin oMod (cBlt bInt (aCons (cBin oAddA (cBin oAddA (cBin oMul (cVar 2) (cK (.int 50021))) (cBin oMul (cBin oMod (cBlt bInt (aCons (cVar 3) aNil)) (cK (.int 2147483477))) (cK (.int 13)))) (cK (.int 41))) aNil)) (cK (.int 2147483629)))))
    (sSeq (sSet 4 (cIfE (cTest (cBin oLtA (cVar 1) (cBlt bLen (aCons (cVar 0) aNil)))) (cBlt bInt (aCons (cBin oIx (cVar 0) (cVar 1)) aNil)) (cK (.int 0))))
    (sSeq (sSet 2 (cBin oMod (cBlt bInt (aCons (cBin oAddA (cBin oAddA (cBin oMul (cVar 2) (cK (.int 59))) (cBin oMul (cBin oMod (cBlt bInt (aCons (cVar 4) aNil)) (cK (.int 2147483477))) (cK (.int 30029)))) (cK (.int 5))) aNil)) (cK (.int 2147483629))))
    (sRet (cLst (aCons (cIfE (bOr (cTest (cBin oLtA (cVar 4) (cK (.int 0)))) (cTest (cBin oGe (cVar 4) (cBin oPow (cK (.int 10)) (cK (.int 15)))))) (cBlt bAbs (aCons (cVar 4) aNil)) (cK (.int 0))) (aCons (cVar 2) (aCons (cK (.int 0)) aNil)))))))))
def F__law_urn : OpB := callF true 5 b__law_urn
def b_law : SX := (sRet (cBlt bAll (aCons (cComp (cRange1 (aCons (cBlt bMax2 (aCons (cK (.int 1)) (aCons (cBlt bMin2 (aCons (cBlt bLen (aCons (cVar 0) aNil)) (aCons (cK (.int 3)) aNil))) aNil))) aNil)) [1] (tName 1) bYes (cScope (cCall 1 F__law_right (aCons (cAlloc (cCall 2 F__law_urn (aCons (cVar 0) (aCons (cVar 1) aNil)))) aNil)))) aNil)))
def F_law : OpB := callF false 2 b_law
end
/-! ### what the top has written -/
structure Facts (K : PySem.W.Frag) (mg : Str → Option Value) : Prop where
  n_abs : mg "abs" = none
  n_all : mg "all" = none
  n_any : mg "any" = none
  n_bool : mg "bool" = none
  n_divmod : mg "divmod" = none
  n_enumerate : mg "enumerate" = none
  n_int : mg "int" = none
  n_isinstance : mg "isinstance" = none
  n_len : mg "len" = none
  n_max : mg "max" = none
  n_min : mg "min" = none
  n_range : mg "range" = none
  n_repr : mg "repr" = none
  n_sorted : mg "sorted" = none
  n_str : mg "str" = none
  n_sum : mg "sum" = none
  n_tuple : mg "tuple" = none
  n_zip : mg "zip" = none
  k_ALL_PARTS : GlobK K mg "ALL_PARTS" (.int 1000)
  k_MOST_BOUNDS : GlobK K mg "MOST_BOUNDS" (.tup [(.int 6), (.int 9), (.int 3), (.int 9)])
  k_MOST_CALLS : GlobK K mg "MOST_CALLS" (.int 8)
  k_MOST_DAY : GlobK K mg "MOST_DAY" (.int 60)
  k_MOST_DUE : GlobK K mg "MOST_DUE" (.int 1000000)
  k_MOST_IN_NAME : GlobK K mg "MOST_IN_NAME" (.int 8)
  k_MOST_OFFICES : GlobK K mg "MOST_OFFICES" (.int 4)
  k_MOST_OUTLAYS : GlobK K mg "MOST_OUTLAYS" (.int 8)
  k_MOST_OUTLAY_DAY : GlobK K mg "MOST_OUTLAY_DAY" (.int 90)
  k_MOST_PAYERS : GlobK K mg "MOST_PAYERS" (.int 12)
  k_MOST_UNITS : GlobK K mg "MOST_UNITS" (.int 10000000)
  k_SMALL_LETTERS : GlobK K mg "SMALL_LETTERS" (.str "abcdefghijklmnopqrstuvwxyz")
  k_THOUSAND : GlobK K mg "THOUSAND" (.int 1000)
  k_WORDS : GlobK K mg "WORDS" (.tup [(.str "all"), (.str "any"), (.str "back"), (.str "cannot"), (.str "close"), (.str "day"), (.str "fixed"), (.str "gives"), (.str "goal"), (.str "hear"), (.str "match"), (.str "may"), (.str "met"), (.str "none"), (.str "office"), (.str "person"), (.str "some"), (.str "sum"), (.str "sure"), (.str "terms"), (.str "with")])
  gm_Calls : mg "Calls" = some (.ref (He.ga K "Calls"))
  gm_is_call : mg "is_call" = some (.ref (He.ga K "is_call"))
  gm_is_outlay : mg "is_outlay" = some (.ref (He.ga K "is_outlay"))
  gm_is_payer : mg "is_payer" = some (.ref (He.ga K "is_payer"))
  c_Calls : ClsI K "Calls"
  isf_Calls : IsF K "Calls"
  e_Calls : CmpI K "Calls"
  na_Calls___bool__ : NoAttr K (He.ga K "Calls") "__bool__"
  na_Calls___len__ : NoAttr K (He.ga K "Calls") "__len__"
  na_Calls_told : NoAttr K (He.ga K "Calls") "told"
  d_part_up_to : ∃ f fd, FunD K "part_up_to" "part_up_to" (defArgs s_part_up_to) (defBody s_part_up_to) (defScope s_part_up_to) [] [] f fd ∧ mg "part_up_to" = some (.ref f)
  d_owed_of : ∃ f fd, FunD K "owed_of" "owed_of" (defArgs s_owed_of) (defBody s_owed_of) (defScope s_owed_of) [] [] f fd ∧ mg "owed_of" = some (.ref f)
  d_payer_of : ∃ f fd, FunD K "payer_of" "payer_of" (defArgs s_payer_of) (defBody s_payer_of) (defScope s_payer_of) [] [] f fd ∧ mg "payer_of" = some (.ref f)
  d_is_whole : ∃ f fd, FunD K "is_whole" "is_whole" (defArgs s_is_whole) (defBody s_is_whole) (defScope s_is_whole) [] [] f fd ∧ mg "is_whole" = some (.ref f)
  d_is_number : ∃ f fd, FunD K "is_number" "is_number" (defArgs s_is_number) (defBody s_is_number) (defScope s_is_number) [] [] f fd ∧ mg "is_number" = some (.ref f)
  d_check_number : ∃ f fd, FunD K "check_number" "check_number" (defArgs s_check_number) (defBody s_check_number) (defScope s_check_number) [] [] f fd ∧ mg "check_number" = some (.ref f)
  d_is_tuple_of : ∃ f fd, FunD K "is_tuple_of" "is_tuple_of" (defArgs s_is_tuple_of) (defBody s_is_tuple_of) (defScope s_is_tuple_of) [] [] f fd ∧ mg "is_tuple_of" = some (.ref f)
  d_wrong_at : ∃ f fd, FunD K "wrong_at" "wrong_at" (defArgs s_wrong_at) (defBody s_wrong_at) (defScope s_wrong_at) [] [] f fd ∧ mg "wrong_at" = some (.ref f)
  d_wrong_from_one : ∃ f fd, FunD K "wrong_from_one" "wrong_from_one" (defArgs s_wrong_from_one) (defBody s_wrong_from_one) (defScope s_wrong_from_one) [] [] f fd ∧ mg "wrong_from_one" = some (.ref f)
  d_is_letters : ∃ f fd, FunD K "is_letters" "is_letters" (defArgs s_is_letters) (defBody s_is_letters) (defScope s_is_letters) [] [] f fd ∧ mg "is_letters" = some (.ref f)
  d_is_name : ∃ f fd, FunD K "is_name" "is_name" (defArgs s_is_name) (defBody s_is_name) (defScope s_is_name) [] [] f fd ∧ mg "is_name" = some (.ref f)
  d_is_payer : ∃ f fd, FunD K "is_payer" "is_payer" (defArgs s_is_payer) (defBody s_is_payer) (defScope s_is_payer) [] [] f fd ∧ mg "is_payer" = some (.ref f)
  d_is_call : ∃ f fd, FunD K "is_call" "is_call" (defArgs s_is_call) (defBody s_is_call) (defScope s_is_call) [] [] f fd ∧ mg "is_call" = some (.ref f)
  d_is_outlay : ∃ f fd, FunD K "is_outlay" "is_outlay" (defArgs s_is_outlay) (defBody s_is_outlay) (defScope s_is_outlay) [] [] f fd ∧ mg "is_outlay" = some (.ref f)
  d_are_bounds : ∃ f fd, FunD K "are_bounds" "are_bounds" (defArgs s_are_bounds) (defBody s_are_bounds) (defScope s_are_bounds) [] [] f fd ∧ mg "are_bounds" = some (.ref f)
  d_check_payers : ∃ f fd, FunD K "check_payers" "check_payers" (defArgs s_check_payers) (defBody s_check_payers) (defScope s_check_payers) [] [] f fd ∧ mg "check_payers" = some (.ref f)
  d_check_calls : ∃ f fd, FunD K "check_calls" "check_calls" (defArgs s_check_calls) (defBody s_check_calls) (defScope s_check_calls) [] [] f fd ∧ mg "check_calls" = some (.ref f)
  d_check_outlays : ∃ f fd, FunD K "check_outlays" "check_outlays" (defArgs s_check_outlays) (defBody s_check_outlays) (defScope s_check_outlays) [] [] f fd ∧ mg "check_outlays" = some (.ref f)
  d_Calls___init__ : ∃ f fd, Mk K (He.ga K "Calls") f ∧ mg "Calls" = some (.ref (He.ga K "Calls")) ∧ FunD K "__init__" "Calls.__init__" (defArgs s_Calls___init__) (defBody s_Calls___init__) (defScope s_Calls___init__) [] [] f fd
  d_Calls_payers : ∃ p g fd, PropOf K (He.ga K "Calls") "payers" p g ∧ FunD K "payers" "Calls.payers" (defArgs s_Calls_payers) (defBody s_Calls_payers) (defScope s_Calls_payers) [] [] g fd
  d_Calls_calls : ∃ p g fd, PropOf K (He.ga K "Calls") "calls" p g ∧ FunD K "calls" "Calls.calls" (defArgs s_Calls_calls) (defBody s_Calls_calls) (defScope s_Calls_calls) [] [] g fd
  d_Calls_outlays : ∃ p g fd, PropOf K (He.ga K "Calls") "outlays" p g ∧ FunD K "outlays" "Calls.outlays" (defArgs s_Calls_outlays) (defBody s_Calls_outlays) (defScope s_Calls_outlays) [] [] g fd
  d_Calls_reserve : ∃ p g fd, PropOf K (He.ga K "Calls") "reserve" p g ∧ FunD K "reserve" "Calls.reserve" (defArgs s_Calls_reserve) (defBody s_Calls_reserve) (defScope s_Calls_reserve) [] [] g fd
  d_Calls_bounds : ∃ p g fd, PropOf K (He.ga K "Calls") "bounds" p g ∧ FunD K "bounds" "Calls.bounds" (defArgs s_Calls_bounds) (defBody s_Calls_bounds) (defScope s_Calls_bounds) [] [] g fd
  d_Calls_parts : ∃ p g fd, PropOf K (He.ga K "Calls") "parts" p g ∧ FunD K "parts" "Calls.parts" (defArgs s_Calls_parts) (defBody s_Calls_parts) (defScope s_Calls_parts) [] [] g fd
  d_Calls___eq__ : ∃ g fd, Meth K (He.ga K "Calls") "__eq__" g ∧ FunD K "__eq__" "Calls.__eq__" (defArgs s_Calls___eq__) (defBody s_Calls___eq__) (defScope s_Calls___eq__) [] [] g fd
  d_Calls_owed : ∃ g fd, Meth K (He.ga K "Calls") "owed" g ∧ FunD K "owed" "Calls.owed" (defArgs s_Calls_owed) (defBody s_Calls_owed) (defScope s_Calls_owed) [] [] g fd
  d_check_payer : ∃ f fd, FunD K "check_payer" "check_payer" (defArgs s_check_payer) (defBody s_check_payer) (defScope s_check_payer) [] [] f fd ∧ mg "check_payer" = some (.ref f)
  d__law_urn : ∃ f fd, FunD K "_law_urn" "_law_urn" (defArgs s__law_urn) (defBody s__law_urn) (defScope s__law_urn) [] [] f fd ∧ mg "_law_urn" = some (.ref f)
  d__law_take : ∃ f fd, FunD K "_law_take" "_law_take" (defArgs s__law_take) (defBody s__law_take) (defScope s__law_take) [] [] f fd ∧ mg "_law_take" = some (.ref f)
  d__law_of : ∃ f fd, FunD K "_law_of" "_law_of" (defArgs s__law_of) (defBody s__law_of) (defScope s__law_of) [] [] f fd ∧ mg "_law_of" = some (.ref f)
  d__law_names : ∃ f fd, FunD K "_law_names" "_law_names" (defArgs s__law_names) (defBody s__law_names) (defScope s__law_names) [] [] f fd ∧ mg "_law_names" = some (.ref f)
  d__law_plan : ∃ f fd, FunD K "_law_plan" "_law_plan" (defArgs s__law_plan) (defBody s__law_plan) (defScope s__law_plan) [] [] f fd ∧ mg "_law_plan" = some (.ref f)
  d__law_bounds : ∃ f fd, FunD K "_law_bounds" "_law_bounds" (defArgs s__law_bounds) (defBody s__law_bounds) (defScope s__law_bounds) [] [] f fd ∧ mg "_law_bounds" = some (.ref f)
  d__law_owed : ∃ f fd, FunD K "_law_owed" "_law_owed" (defArgs s__law_owed) (defBody s__law_owed) (defScope s__law_owed) [] [] f fd ∧ mg "_law_owed" = some (.ref f)
  d__law_bent : ∃ f fd, FunD K "_law_bent" "_law_bent" (defArgs s__law_bent) (defBody s__law_bent) (defScope s__law_bent) [] [] f fd ∧ mg "_law_bent" = some (.ref f)
  d__law_is_equal : ∃ f fd, FunD K "_law_is_equal" "_law_is_equal" (defArgs s__law_is_equal) (defBody s__law_is_equal) (defScope s__law_is_equal) [] [] f fd ∧ mg "_law_is_equal" = some (.ref f)
  d__law_right : ∃ f fd, FunD K "_law_right" "_law_right" (defArgs s__law_right) (defBody s__law_right) (defScope s__law_right) [] [] f fd ∧ mg "_law_right" = some (.ref f)
  d_law : ∃ f fd, FunD K "law" "law" (defArgs s_law) (defBody s_law) (defScope s_law) [] [] f fd ∧ mg "law" = some (.ref f)
section
variable {P : Program} {w : World} {K : PySem.W.Frag} {mg : Str → Option Value} {base : Heap} {T : List (Addr × Str)}
theorem r__law_take (Z : Facts K mg) {f : Addr} : ∀ (cdv : Value) (A : Around) (outer : List PySem.Env) (s : Shared) (H : Hp) (E : XK), Room 0 (A.deeper (envOfC "_law_take" (defScope s__law_take) s.heap.objs.size f cdv)) → A.guards = some [] →
    RSs T false (cxOf (L2.CX P w) P w K mg base ["urn", "many", "figure", "stir"] "_law_take" (defScope s__law_take) f cdv A outer s H E) (fun cls d _ H' => E cls d H') (defBody s__law_take) b__law_take := by
  intro cdv A outer s H E hr hgu
  unfold b__law_take
  exact (rss_cons (rs_if (rt_cmp op_gt oGt_ok (re_ix (re_var (i := 0)) re_int (fun _ _ => rfl)) re_int (nomark _)) (rss_cons (rs_asg (re_callB call_divmod bDivmod_ok Z.n_divmod (by decide +kernel) (ra_cons (re_ix (re_var (i := 0)) re_int (fun _ _ => rfl)) (ra_cons (re_var (i := 1)) ra_nil))) (rg_tup rfl (rgs_cons (rg_sub (re_var (i := 0)) re_int) (rgs_cons (rg_name (i := 2) sc__law_take.nd) rgs_nil))))
    (rss_one (rs_ret (re_var (i := 2))))) rss_nil)
    (rss_cons (rs_asg (re_bin op_add4 oAddA_ok (re_ix (re_var (i := 0)) re_int (fun _ _ => rfl)) re_int) (rg_sub (re_var (i := 0)) re_int))
    (rss_cons (rs_set (i := 3) sc__law_take.nd (re_bin op_modN oMod_ok (re_callTy call_int1 bInt_ok Z.n_int (by decide +kernel) (ra_cons (re_bin op_add4 oAddA_ok (re_bin op_mul oMul_ok (re_ix (re_var (i := 0)) re_int (fun _ _ => rfl)) re_int) (re_bin op_mul oMul_ok re_int (re_ix (re_var (i := 0)) re_int (fun _ _ => rfl)))) ra_nil)) re_int))
    (rss_cons (rs_asg (re_bin op_modN oMod_ok (re_callTy call_int1 bInt_ok Z.n_int (by decide +kernel) (ra_cons (re_bin op_add4 oAddA_ok (re_bin op_mul oMul_ok (re_var (i := 3)) (re_bin op_add4 oAddA_ok (re_bin op_modN oMod_ok (re_callTy call_int1 bInt_ok Z.n_int (by decide +kernel) (ra_cons (re_var (i := 3)) ra_nil)) re_int) re_int)) (re_bin op_mul oMul_ok re_int (re_ix (re_var (i := 0)) re_int (fun _ _ => rfl)))) ra_nil)) re_int) (rg_sub (re_var (i := 0)) re_int))
    (rss_one (rs_ret (re_bin op_modN oMod_ok (re_callTy call_int1 bInt_ok Z.n_int (by decide +kernel) (ra_cons (re_bin op_fdivN oDiv_ok (re_ix (re_var (i := 0)) re_int (fun _ _ => rfl)) re_int) ra_nil)) (re_var (i := 1)))))))))
theorem g__law_take (Z : Facts K mg) : DefG P w K mg base T 1 "_law_take" (defArgs s__law_take) (defBody s__law_take) (defScope s__law_take) ["urn", "many"] false F__law_take := by
  obtain ⟨f, fd, a, b⟩ := Z.d__law_take
  exact ⟨f, fd, a, b, def_g a sc__law_take (r__law_take Z)⟩
theorem r__law_of (Z : Facts K mg) {f : Addr} : ∀ (cdv : Value) (A : Around) (outer : List PySem.Env) (s : Shared) (H : Hp) (E : XK), Room 1 (A.deeper (envOfC "_law_of" (defScope s__law_of) s.heap.objs.size f cdv)) → A.guards = some [] →
    RSs T false (cxOf (L2.CX P w) P w K mg base ["urn", "some"] "_law_of" (defScope s__law_of) f cdv A outer s H E) (fun cls d _ H' => E cls d H') (defBody s__law_of) b__law_of := by
  intro cdv A outer s H E hr hgu
  unfold b__law_of
  exact (rss_one (rs_ret (re_ix (re_var (i := 1)) (re_call (g__law_take Z) pn__law_take (hr.mono (by decide)) hgu pass_cx (ra_cons (re_var (i := 0)) (ra_cons (re_callB call_len bLen_ok Z.n_len (by decide +kernel) (ra_cons (re_var (i := 1)) ra_nil)) ra_nil))) (fun _ _ => rfl))))
theorem g__law_of (Z : Facts K mg) : DefG P w K mg base T 2 "_law_of" (defArgs s__law_of) (defBody s__law_of) (defScope s__law_of) ["urn", "some"] false F__law_of := by
  obtain ⟨f, fd, a, b⟩ := Z.d__law_of
  exact ⟨f, fd, a, b, def_g a sc__law_of (r__law_of Z)⟩
theorem r__law_bounds (Z : Facts K mg) {f : Addr} : ∀ (cdv : Value) (A : Around) (outer : List PySem.Env) (s : Shared) (H : Hp) (E : XK), Room 1 (A.deeper (envOfC "_law_bounds" (defScope s__law_bounds) s.heap.objs.size f cdv)) → A.guards = some [] →
    RSs T false (cxOf (L2.CX P w) P w K mg base ["urn", "parts", "sizes", "found", "size"] "_law_bounds" (defScope s__law_bounds) f cdv A outer s H E) (fun cls d _ H' => E cls d H') (defBody s__law_bounds) b__law_bounds := by
  intro cdv A outer s H E hr hgu
  unfold b__law_bounds
  exact (rss_cons (rs_set (i := 3) sc__law_bounds.nd (RE.alloc (re_lst ra_nil)))
    (rss_cons (rs_for own_cx rfl (ri_seqA (re_var (i := 2))) (rg_name (i := 4) sc__law_bounds.nd) (rss_one (rs_expr (re_bm PySem.F.slot_list_append PySem.F.type_list_append mt_append mAppend_ok (re_var (i := 3)) (ra_cons (re_call (g__law_take Z) pn__law_take (hr.mono (by decide)) hgu pass_cx (ra_cons (re_var (i := 0)) (ra_cons (re_bin op_add4 oAddA_ok (re_var (i := 4)) re_int) ra_nil))) ra_nil)))))
    (rss_one (rs_ret (re_bin op_add4 oAddA_ok (re_sliceA (re_var (i := 1)) ro_none (ro_some re_int)) (re_tup (ra_cons (re_callTy call_tuple_of bTuple_ok Z.n_tuple (by decide +kernel) (ra_cons (re_var (i := 3)) ra_nil)) ra_nil)))))))
theorem g__law_bounds (Z : Facts K mg) : DefG P w K mg base T 2 "_law_bounds" (defArgs s__law_bounds) (defBody s__law_bounds) (defScope s__law_bounds) ["urn", "parts", "sizes"] false F__law_bounds := by
  obtain ⟨f, fd, a, b⟩ := Z.d__law_bounds
  exact ⟨f, fd, a, b, def_g a sc__law_bounds (r__law_bounds Z)⟩
theorem r__law_names (Z : Facts K mg) {f : Addr} : ∀ (cdv : Value) (A : Around) (outer : List PySem.Env) (s : Shared) (H : Hp) (E : XK), Room 2 (A.deeper (envOfC "_law_names" (defScope s__law_names) s.heap.objs.size f cdv)) → A.guards = some [] →
    RSs T true (cxOf (L2.CX P w) P w K mg base ["urn", "many", "found", "letters", "turn", "size", "name", "lap", "at"] "_law_names" (defScope s__law_names) f cdv A outer s H E) (fun cls d _ H' => E cls d H') (defBody s__law_names) b__law_names := by
  intro cdv A outer s H E hr hgu
  unfold b__law_names
  exact (rss_cons (rs_par (i := 2) (j := 3) rfl sc__law_names.nd (ra_cons (RE.alloc (re_lst ra_nil)) (ra_cons re_str ra_nil)))
    (rss_cons (rs_for own_cx rfl (ri_range1 (ra_cons (re_var (i := 1)) ra_nil) Z.n_range) (rg_name (i := 4) sc__law_names.nd) (rss_cons (rs_par (i := 5) (j := 6) rfl sc__law_names.nd (ra_cons (re_call (g__law_of Z) pn__law_of (hr.mono (by decide)) hgu pass_cx (ra_cons (re_var (i := 0)) (ra_cons (RE.frozen (re_lst (ra_cons re_int (ra_cons re_int (ra_cons re_int (ra_cons re_int (ra_cons re_int ra_nil))))))) ra_nil))) (ra_cons re_str ra_nil)))
    (rss_cons (rs_for own_cx rfl (ri_range1 (ra_cons (re_var (i := 5)) ra_nil) Z.n_range) (rg_name (i := 7) sc__law_names.nd) (rss_one (rs_set (i := 6) sc__law_names.nd (re_bin op_add4 oAddA_ok (re_var (i := 6)) (re_call (g__law_of Z) pn__law_of (hr.mono (by decide)) hgu pass_cx (ra_cons (re_var (i := 0)) (ra_cons (re_var (i := 3)) ra_nil)))))))
    (rss_cons (rs_set (i := 8) sc__law_names.nd (re_call (g__law_take Z) pn__law_take (hr.mono (by decide)) hgu pass_cx (ra_cons (re_var (i := 0)) (ra_cons (re_bin op_add4 oAddA_ok (re_var (i := 5)) re_int) ra_nil))))
    (rss_cons (rs_set (i := 6) sc__law_names.nd (re_bin op_add4 oAddA_ok (re_bin op_add4 oAddA_ok (re_bin op_add4 oAddA_ok (re_sliceA (re_var (i := 6)) ro_none (ro_some (re_var (i := 8)))) (re_ix (re_var (i := 3)) (re_var (i := 4)) (fun _ _ => rfl))) (re_sliceA re_str ro_none (ro_some (re_var (i := 5))))) (re_sliceA (re_var (i := 6)) (ro_some (re_var (i := 8))) ro_none)))
    (rss_one (rs_expr (re_bm PySem.F.slot_list_append PySem.F.type_list_append mt_append mAppend_ok (re_var (i := 2)) (ra_cons (re_if (rt_cmp op_ninA oNinA_ok (re_var (i := 6)) (re_var (i := 2)) (by rfl)) (re_var (i := 6)) (re_bin op_add4 oAddA_ok (re_bin op_mulS oMulS_ok (re_ix (re_var (i := 3)) (re_var (i := 4)) (fun _ _ => rfl)) re_int) re_str)) ra_nil)))))))))
    (rss_one (rs_retL (re_var (i := 2))))))
theorem g__law_names (Z : Facts K mg) : DefG P w K mg base T 3 "_law_names" (defArgs s__law_names) (defBody s__law_names) (defScope s__law_names) ["urn", "many"] true F__law_names := by
  obtain ⟨f, fd, a, b⟩ := Z.d__law_names
  exact ⟨f, fd, a, b, def_g a sc__law_names (r__law_names Z)⟩
theorem r__law_plan (Z : Facts K mg) {f : Addr} : ∀ (cdv : Value) (A : Around) (outer : List PySem.Env) (s : Shared) (H : Hp) (E : XK), Room 3 (A.deeper (envOfC "_law_plan" (defScope s__law_plan) s.heap.objs.size f cdv)) → A.guards = some [] →
    RSs T false (cxOf (L2.CX P w) P w K mg base ["urn", "sizes", "top", "names", "payers", "calls", "outlays", "offices", "name", "due", "many", "days", "left", "day", "turn", "part", "whole", "payer", "most", "reserve"] "_law_plan" (defScope s__law_plan) f cdv A outer s H E) (fun cls d _ H' => E cls d H') (defBody s__law_plan) b__law_plan := by
  intro cdv A outer s H E hr hgu
  unfold b__law_plan
  exact (rss_cons (rs_asg (re_tup (ra_cons (RE.frozen (re_call (g__law_names Z) pn__law_names (hr.mono (by decide)) hgu pass_cx (ra_cons (re_var (i := 0)) (ra_cons re_int ra_nil)))) (ra_cons (RE.alloc (re_lst ra_nil)) (ra_cons (RE.alloc (re_lst ra_nil)) (ra_cons (RE.alloc (re_lst ra_nil)) ra_nil))))) (rg_tup rfl (rgs_cons (rg_name (i := 3) sc__law_plan.nd) (rgs_cons (rg_name (i := 4) sc__law_plan.nd) (rgs_cons (rg_name (i := 5) sc__law_plan.nd) (rgs_cons (rg_name (i := 6) sc__law_plan.nd) rgs_nil))))))
    (rss_cons (rs_set (i := 7) sc__law_plan.nd (re_sliceA (re_var (i := 3)) (ro_some re_int) (ro_some (re_bin op_add4 oAddA_ok re_int (re_call (g__law_of Z) pn__law_of (hr.mono (by decide)) hgu pass_cx (ra_cons (re_var (i := 0)) (ra_cons (RE.frozen (re_lst (ra_cons re_int (ra_cons re_int (ra_cons re_int ra_nil))))) ra_nil)))))))
    (rss_cons (rs_for own_cx rfl (ri_seqA (RE.frozen (re_callB cr_sortedS bSortS_ok Z.n_sorted (by decide +kernel) (ra_cons (re_sliceA (re_var (i := 3)) ro_none (ro_some (re_callB (call_max2 rfl) bMax2_ok Z.n_max (by decide +kernel) (ra_cons re_int (ra_cons (re_bin op_sub oSub_ok (re_ix (re_var (i := 1)) re_int (fun _ _ => rfl)) (re_call (g__law_of Z) pn__law_of (hr.mono (by decide)) hgu pass_cx (ra_cons (re_var (i := 0)) (ra_cons (RE.frozen (re_lst (ra_cons re_int (ra_cons re_int (ra_cons re_int (ra_cons (re_call (g__law_take Z) pn__law_take (hr.mono (by decide)) hgu pass_cx (ra_cons (re_var (i := 0)) (ra_cons (re_ix (re_var (i := 1)) re_int (fun _ _ => rfl)) ra_nil))) ra_nil)))))) ra_nil)))) ra_nil))))) ra_nil)))) (rg_name (i := 8) sc__law_plan.nd) (rss_cons (rs_set (i := 9) sc__law_plan.nd (re_call (g__law_of Z) pn__law_of (hr.mono (by decide)) hgu pass_cx (ra_cons (re_var (i := 0)) (ra_cons (RE.frozen (re_lst (ra_cons (re_bin op_add4 oAddA_ok re_int (re_call (g__law_take Z) pn__law_take (hr.mono (by decide)) hgu pass_cx (ra_cons (re_var (i := 0)) (ra_cons (re_var (i := 2)) ra_nil)))) (ra_cons (re_bin op_add4 oAddA_ok re_int (re_call (g__law_take Z) pn__law_take (hr.mono (by decide)) hgu pass_cx (ra_cons (re_var (i := 0)) (ra_cons (re_var (i := 2)) ra_nil)))) (ra_cons re_int (ra_cons (re_var (i := 2)) ra_nil)))))) ra_nil))))
    (rss_one (rs_expr (re_bm PySem.F.slot_list_append PySem.F.type_list_append mt_append mAppend_ok (re_var (i := 4)) (ra_cons (re_tup (ra_cons (re_var (i := 8)) (ra_cons (re_call (g__law_of Z) pn__law_of (hr.mono (by decide)) hgu pass_cx (ra_cons (re_var (i := 0)) (ra_cons (re_var (i := 7)) ra_nil))) (ra_cons (re_var (i := 9)) ra_nil)))) ra_nil))))))
    (rss_cons (rs_par3 (i := 10) (j := 11) (l := 12) rfl sc__law_plan.nd (ra_cons (re_callB (call_max2 rfl) bMax2_ok Z.n_max (by decide +kernel) (ra_cons re_int (ra_cons (re_bin op_sub oSub_ok (re_ix (re_var (i := 1)) re_int (fun _ _ => rfl)) (re_call (g__law_of Z) pn__law_of (hr.mono (by decide)) hgu pass_cx (ra_cons (re_var (i := 0)) (ra_cons (RE.frozen (re_lst (ra_cons re_int (ra_cons re_int (ra_cons re_int (ra_cons (re_call (g__law_take Z) pn__law_take (hr.mono (by decide)) hgu pass_cx (ra_cons (re_var (i := 0)) (ra_cons (re_ix (re_var (i := 1)) re_int (fun _ _ => rfl)) ra_nil))) ra_nil)))))) ra_nil)))) ra_nil))) (ra_cons (RE.alloc (re_lst ra_nil)) (ra_cons re_int ra_nil))))
    (rss_cons (rs_set (i := 13) sc__law_plan.nd (re_call (g__law_of Z) pn__law_of (hr.mono (by decide)) hgu pass_cx (ra_cons (re_var (i := 0)) (ra_cons (RE.frozen (re_lst (ra_cons re_int (ra_cons re_int (ra_cons (re_call (g__law_take Z) pn__law_take (hr.mono (by decide)) hgu pass_cx (ra_cons (re_var (i := 0)) (ra_cons re_int ra_nil))) ra_nil))))) ra_nil))))
    (rss_cons (rs_for own_cx rfl (ri_range1 (ra_cons (re_var (i := 10)) ra_nil) Z.n_range) (rg_name (i := 14) sc__law_plan.nd) (rss_cons (rs_expr (re_bm PySem.F.slot_list_append PySem.F.type_list_append mt_append mAppend_ok (re_var (i := 11)) (ra_cons (re_var (i := 13)) ra_nil)))
    (rss_one (rs_set (i := 13) sc__law_plan.nd (re_bin op_add4 oAddA_ok (re_bin op_add4 oAddA_ok (re_var (i := 13)) re_int) (re_call (g__law_of Z) pn__law_of (hr.mono (by decide)) hgu pass_cx (ra_cons (re_var (i := 0)) (ra_cons (RE.frozen (re_lst (ra_cons re_int (ra_cons re_int (ra_cons (re_call (g__law_take Z) pn__law_take (hr.mono (by decide)) hgu pass_cx (ra_cons (re_var (i := 0)) (ra_cons re_int ra_nil))) ra_nil))))) ra_nil))))))))
    (rss_cons (rs_for own_cx rfl (ri_range1 (ra_cons (re_var (i := 10)) ra_nil) Z.n_range) (rg_name (i := 14) sc__law_plan.nd) (rss_cons (rs_set (i := 15) sc__law_plan.nd (re_if (rt_cmp (op_eqA (Room.units hr)) oEqA_ok (re_var (i := 14)) (re_bin op_sub oSub_ok (re_var (i := 10)) re_int) (nomark _)) (re_var (i := 12)) (re_bin op_add4 oAddA_ok re_int (re_call (g__law_take Z) pn__law_take (hr.mono (by decide)) hgu pass_cx (ra_cons (re_var (i := 0)) (ra_cons (re_callB (call_min2 rfl) bMin2_ok Z.n_min (by decide +kernel) (ra_cons (re_bin op_sub oSub_ok (re_var (i := 12)) (re_bin op_sub oSub_ok (re_var (i := 10)) (re_var (i := 14)))) (ra_cons (re_call (g__law_of Z) pn__law_of (hr.mono (by decide)) hgu pass_cx (ra_cons (re_var (i := 0)) (ra_cons (RE.frozen (re_lst (ra_cons re_int (ra_cons re_int (ra_cons re_int ra_nil))))) ra_nil))) ra_nil))) ra_nil))))))
    (rss_cons (rs_expr (re_bm PySem.F.slot_list_append PySem.F.type_list_append mt_append mAppend_ok (re_var (i := 5)) (ra_cons (re_tup (ra_cons (re_ix (re_var (i := 11)) (re_var (i := 14)) (fun _ _ => rfl)) (ra_cons (re_var (i := 15)) ra_nil))) ra_nil)))
    (rss_one (rs_set (i := 12) sc__law_plan.nd (re_bin op_sub oSub_ok (re_var (i := 12)) (re_var (i := 15))))))))
    (rss_cons (rs_par (i := 13) (j := 16) rfl sc__law_plan.nd (ra_cons re_int (ra_cons (re_callB (cr_sum rfl) bSum_ok Z.n_sum (by decide +kernel) (ra_cons (RE.frozen (re_comp rfl sc__law_plan.nd (blkOk_by (N := ["urn", "sizes", "top", "names", "payers", "calls", "outlays", "offices", "name", "due", "many", "days", "left", "day", "turn", "part", "whole", "payer", "most", "reserve"]) (sc := (defScope s__law_plan)) (own := [("payer", 17)]) (by decide +kernel)) rfl (by decide) (ri_seqA (re_var (i := 4))) (fun _ _ _ _ _ => (rg_name (i := 17) sc__law_plan.nd)) (fun _ _ _ _ _ => rts_nil) (fun _ _ _ _ _ => (re_ix (re_var (i := 17)) re_int (fun _ _ => rfl))))) ra_nil)) ra_nil)))
    (rss_cons (rs_for own_cx rfl (ri_range1 (ra_cons (re_bin op_sub oSub_ok (re_ix (re_var (i := 1)) re_int (fun _ _ => rfl)) (re_call (g__law_of Z) pn__law_of (hr.mono (by decide)) hgu pass_cx (ra_cons (re_var (i := 0)) (ra_cons (RE.frozen (re_lst (ra_cons re_int (ra_cons re_int (ra_cons (re_call (g__law_take Z) pn__law_take (hr.mono (by decide)) hgu pass_cx (ra_cons (re_var (i := 0)) (ra_cons (re_bin op_add4 oAddA_ok (re_ix (re_var (i := 1)) re_int (fun _ _ => rfl)) re_int) ra_nil))) ra_nil))))) ra_nil)))) ra_nil) Z.n_range) (rg_name (i := 14) sc__law_plan.nd) (rss_cons (rs_set (i := 13) sc__law_plan.nd (re_callB (call_min2 rfl) bMin2_ok Z.n_min (by decide +kernel) (ra_cons re_int (ra_cons (re_bin op_add4 oAddA_ok (re_var (i := 13)) (re_call (g__law_of Z) pn__law_of (hr.mono (by decide)) hgu pass_cx (ra_cons (re_var (i := 0)) (ra_cons (RE.frozen (re_lst (ra_cons re_int (ra_cons re_int (ra_cons re_int (ra_cons (re_call (g__law_take Z) pn__law_take (hr.mono (by decide)) hgu pass_cx (ra_cons (re_var (i := 0)) (ra_cons re_int ra_nil))) ra_nil)))))) ra_nil)))) ra_nil))))
    (rss_cons (rs_set (i := 18) sc__law_plan.nd (re_call (g__law_of Z) pn__law_of (hr.mono (by decide)) hgu pass_cx (ra_cons (re_var (i := 0)) (ra_cons (RE.frozen (re_lst (ra_cons (re_bin op_fdivN oDiv_ok (re_var (i := 16)) re_int) (ra_cons (re_bin op_fdivN oDiv_ok (re_var (i := 16)) re_int) (ra_cons re_int (ra_cons (re_var (i := 16)) ra_nil)))))) ra_nil))))
    (rss_one (rs_expr (re_bm PySem.F.slot_list_append PySem.F.type_list_append mt_append mAppend_ok (re_var (i := 6)) (ra_cons (re_tup (ra_cons (re_var (i := 13)) (ra_cons (re_callB (call_min2 rfl) bMin2_ok Z.n_min (by decide +kernel) (ra_cons (re_bin op_pow oPow_ok re_int re_int) (ra_cons (re_bin op_add4 oAddA_ok re_int (re_call (g__law_take Z) pn__law_take (hr.mono (by decide)) hgu pass_cx (ra_cons (re_var (i := 0)) (ra_cons (re_callB (call_max2 rfl) bMax2_ok Z.n_max (by decide +kernel) (ra_cons re_int (ra_cons (re_var (i := 18)) ra_nil))) ra_nil)))) ra_nil))) ra_nil))) ra_nil)))))))
    (rss_cons (rs_set (i := 19) sc__law_plan.nd (re_call (g__law_of Z) pn__law_of (hr.mono (by decide)) hgu pass_cx (ra_cons (re_var (i := 0)) (ra_cons (RE.frozen (re_lst (ra_cons re_int (ra_cons (re_call (g__law_take Z) pn__law_take (hr.mono (by decide)) hgu pass_cx (ra_cons (re_var (i := 0)) (ra_cons (re_bin op_add4 oAddA_ok (re_var (i := 16)) re_int) ra_nil))) (ra_cons (re_call (g__law_take Z) pn__law_take (hr.mono (by decide)) hgu pass_cx (ra_cons (re_var (i := 0)) (ra_cons (re_bin op_add4 oAddA_ok (re_bin op_fdivN oDiv_ok (re_var (i := 16)) re_int) re_int) ra_nil))) (ra_cons (re_call (g__law_take Z) pn__law_take (hr.mono (by decide)) hgu pass_cx (ra_cons (re_var (i := 0)) (ra_cons re_int ra_nil))) ra_nil)))))) ra_nil))))
    (rss_one (rs_ret (re_tup (ra_cons (re_callTy call_tuple_of bTuple_ok Z.n_tuple (by decide +kernel) (ra_cons (re_var (i := 4)) ra_nil)) (ra_cons (re_callTy call_tuple_of bTuple_ok Z.n_tuple (by decide +kernel) (ra_cons (re_var (i := 5)) ra_nil)) (ra_cons (re_callTy call_tuple_of bTuple_ok Z.n_tuple (by decide +kernel) (ra_cons (re_var (i := 6)) ra_nil)) (ra_cons (re_callB (call_min2 rfl) bMin2_ok Z.n_min (by decide +kernel) (ra_cons (re_bin op_pow oPow_ok re_int re_int) (ra_cons (re_var (i := 19)) ra_nil))) (ra_cons (re_tup (ra_cons re_int (ra_cons re_int (ra_cons re_int (ra_cons re_int ra_nil))))) ra_nil))))))))))))))))))
theorem g__law_plan (Z : Facts K mg) : DefG P w K mg base T 4 "_law_plan" (defArgs s__law_plan) (defBody s__law_plan) (defScope s__law_plan) ["urn", "sizes", "top"] false F__law_plan := by
  obtain ⟨f, fd, a, b⟩ := Z.d__law_plan
  exact ⟨f, fd, a, b, def_g a sc__law_plan (r__law_plan Z)⟩
theorem r_is_tuple_of (Z : Facts K mg) {f : Addr} : ∀ (cdv : Value) (A : Around) (outer : List PySem.Env) (s : Shared) (H : Hp) (E : XK), Room 0 (A.deeper (envOfC "is_tuple_of" (defScope s_is_tuple_of) s.heap.objs.size f cdv)) → A.guards = some [] →
    RSs T false (cxOf (L2.CX P w) P w K mg base ["value", "many"] "is_tuple_of" (defScope s_is_tuple_of) f cdv A outer s H E) (fun cls d _ H' => E cls d H') (defBody s_is_tuple_of) b_is_tuple_of := by
  intro cdv A outer s H E hr hgu
  unfold b_is_tuple_of
  exact (rss_one (rs_ret (re_and (re_isi (t := .tuple) (re_var (i := 0)) Z.n_isinstance Z.n_tuple (by decide +kernel)) (re_one (re_cmp (op_eqA (Room.units hr)) oEqA_ok (re_callB call_len bLen_ok Z.n_len (by decide +kernel) (ra_cons (re_var (i := 0)) ra_nil)) (re_var (i := 1)) (nomark _))))))
theorem g_is_tuple_of (Z : Facts K mg) : DefG P w K mg base T 1 "is_tuple_of" (defArgs s_is_tuple_of) (defBody s_is_tuple_of) (defScope s_is_tuple_of) ["value", "many"] false F_is_tuple_of := by
  obtain ⟨f, fd, a, b⟩ := Z.d_is_tuple_of
  exact ⟨f, fd, a, b, def_g a sc_is_tuple_of (r_is_tuple_of Z)⟩
theorem r_is_letters (Z : Facts K mg) {f : Addr} : ∀ (cdv : Value) (A : Around) (outer : List PySem.Env) (s : Shared) (H : Hp) (E : XK), Room 0 (A.deeper (envOfC "is_letters" (defScope s_is_letters) s.heap.objs.size f cdv)) → A.guards = some [] →
    RSs T false (cxOf (L2.CX P w) P w K mg base ["value", "least", "most", "letter"] "is_letters" (defScope s_is_letters) f cdv A outer s H E) (fun cls d _ H' => E cls d H') (defBody s_is_letters) b_is_letters := by
  intro cdv A outer s H E hr hgu
  unfold b_is_letters
  exact (rss_cons (rs_if (RW.t (rw_or (rt_not (rt_val (re_isi (t := .str) (re_var (i := 0)) Z.n_isinstance Z.n_str (by decide +kernel)))) (rw_or1 (rt_not (rt_chain op_le op_le oLe_ok oLe_ok (re_var (i := 1)) (re_callB call_len bLen_ok Z.n_len (by decide +kernel) (ra_cons (re_var (i := 0)) ra_nil)) (re_var (i := 2))))))) (rss_one (rs_ret re_bl)) rss_nil)
    (rss_one (rs_ret (re_callB (cr_all rfl) bAll_ok Z.n_all (by decide +kernel) (ra_cons (RE.frozen (re_comp rfl sc_is_letters.nd (blkOk_by (N := ["value", "least", "most", "letter"]) (sc := (defScope s_is_letters)) (own := [("letter", 3)]) (by decide +kernel)) rfl (by decide) (ri_seqA (re_var (i := 0))) (fun _ _ _ _ _ => (rg_name (i := 3) sc_is_letters.nd)) (fun _ _ _ _ _ => rts_nil) (fun _ _ _ _ _ => (re_cmp op_inA oInA_ok (re_var (i := 3)) (re_glob Z.k_SMALL_LETTERS) (by rfl))))) ra_nil)))))
theorem g_is_letters (Z : Facts K mg) : DefG P w K mg base T 1 "is_letters" (defArgs s_is_letters) (defBody s_is_letters) (defScope s_is_letters) ["value", "least", "most"] false F_is_letters := by
  obtain ⟨f, fd, a, b⟩ := Z.d_is_letters
  exact ⟨f, fd, a, b, def_g a sc_is_letters (r_is_letters Z)⟩
theorem r_is_name (Z : Facts K mg) {f : Addr} : ∀ (cdv : Value) (A : Around) (outer : List PySem.Env) (s : Shared) (H : Hp) (E : XK), Room 1 (A.deeper (envOfC "is_name" (defScope s_is_name) s.heap.objs.size f cdv)) → A.guards = some [] →
    RSs T false (cxOf (L2.CX P w) P w K mg base ["value"] "is_name" (defScope s_is_name) f cdv A outer s H E) (fun cls d _ H' => E cls d H') (defBody s_is_name) b_is_name := by
  intro cdv A outer s H E hr hgu
  unfold b_is_name
  exact (rss_one (rs_ret (re_and (re_call (g_is_letters Z) pn_is_letters (hr.mono (by decide)) hgu pass_cx (ra_cons (re_var (i := 0)) (ra_cons re_int (ra_cons (re_glob Z.k_MOST_IN_NAME) ra_nil)))) (re_one (re_cmp op_ninA oNinA_ok (re_var (i := 0)) (re_glob Z.k_WORDS) (by rfl))))))
theorem g_is_name (Z : Facts K mg) : DefG P w K mg base T 2 "is_name" (defArgs s_is_name) (defBody s_is_name) (defScope s_is_name) ["value"] false F_is_name := by
  obtain ⟨f, fd, a, b⟩ := Z.d_is_name
  exact ⟨f, fd, a, b, def_g a sc_is_name (r_is_name Z)⟩
theorem r_is_whole (Z : Facts K mg) {f : Addr} : ∀ (cdv : Value) (A : Around) (outer : List PySem.Env) (s : Shared) (H : Hp) (E : XK), Room 0 (A.deeper (envOfC "is_whole" (defScope s_is_whole) s.heap.objs.size f cdv)) → A.guards = some [] →
    RSs T false (cxOf (L2.CX P w) P w K mg base ["value"] "is_whole" (defScope s_is_whole) f cdv A outer s H E) (fun cls d _ H' => E cls d H') (defBody s_is_whole) b_is_whole := by
  intro cdv A outer s H E hr hgu
  unfold b_is_whole
  exact (rss_one (rs_ret (re_and (re_isi (t := .int) (re_var (i := 0)) Z.n_isinstance Z.n_int (by decide +kernel)) (re_one (re_not (re_isi (t := .bool) (re_var (i := 0)) Z.n_isinstance Z.n_bool (by decide +kernel)))))))
theorem g_is_whole (Z : Facts K mg) : DefG P w K mg base T 1 "is_whole" (defArgs s_is_whole) (defBody s_is_whole) (defScope s_is_whole) ["value"] false F_is_whole := by
  obtain ⟨f, fd, a, b⟩ := Z.d_is_whole
  exact ⟨f, fd, a, b, def_g a sc_is_whole (r_is_whole Z)⟩
theorem r_is_number (Z : Facts K mg) {f : Addr} : ∀ (cdv : Value) (A : Around) (outer : List PySem.Env) (s : Shared) (H : Hp) (E : XK), Room 1 (A.deeper (envOfC "is_number" (defScope s_is_number) s.heap.objs.size f cdv)) → A.guards = some [] →
    RSs T false (cxOf (L2.CX P w) P w K mg base ["value", "low", "high"] "is_number" (defScope s_is_number) f cdv A outer s H E) (fun cls d _ H' => E cls d H') (defBody s_is_number) b_is_number := by
  intro cdv A outer s H E hr hgu
  unfold b_is_number
  exact (rss_cons (rs_if (RW.t (rw_or (rt_not (rt_val (re_call (g_is_whole Z) pn_is_whole (hr.mono (by decide)) hgu pass_cx (ra_cons (re_var (i := 0)) ra_nil)))) (rw_or1 (RW.t (rw_and (rt_cmp op_notN oNotN_ok (re_var (i := 1)) re_non (nomark _)) (rw_and1 (rt_cmp (op_ltA (Room.units0 hr)) oLtA_ok (re_var (i := 0)) (re_var (i := 1)) (nomark _)))))))) (rss_one (rs_ret re_bl)) rss_nil)
    (rss_one (rs_ret (re_or (re_cmp op_isN oIsN_ok (re_var (i := 2)) re_non (nomark _)) (re_one (re_cmp op_le oLe_ok (re_var (i := 0)) (re_var (i := 2)) (nomark _)))))))
theorem g_is_number (Z : Facts K mg) : DefG P w K mg base T 2 "is_number" (defArgs s_is_number) (defBody s_is_number) (defScope s_is_number) ["value", "low", "high"] false F_is_number := by
  obtain ⟨f, fd, a, b⟩ := Z.d_is_number
  exact ⟨f, fd, a, b, def_g a sc_is_number (r_is_number Z)⟩
theorem r_is_payer (Z : Facts K mg) {f : Addr} : ∀ (cdv : Value) (A : Around) (outer : List PySem.Env) (s : Shared) (H : Hp) (E : XK), Room 2 (A.deeper (envOfC "is_payer" (defScope s_is_payer) s.heap.objs.size f cdv)) → A.guards = some [] →
    RSs T false (cxOf (L2.CX P w) P w K mg base ["value", "before", "name", "office", "due", "names", "offices", "payer", "each"] "is_payer" (defScope s_is_payer) f cdv A outer s H E) (fun cls d _ H' => E cls d H') (defBody s_is_payer) b_is_payer := by
  intro cdv A outer s H E hr hgu
  unfold b_is_payer
  exact (rss_cons (rs_if (RW.t (rw_or (rt_not (rt_val (re_call (g_is_tuple_of Z) pn_is_tuple_of (hr.mono (by decide)) hgu pass_cx (ra_cons (re_var (i := 0)) (ra_cons re_int ra_nil))))) (rw_or (rt_not (rt_val (re_call (g_is_name Z) pn_is_name (hr.mono (by decide)) hgu pass_cx (ra_cons (re_ix (re_var (i := 0)) re_int (fun _ _ => rfl)) ra_nil)))) (rw_or1 (rt_not (rt_val (re_call (g_is_name Z) pn_is_name (hr.mono (by decide)) hgu pass_cx (ra_cons (re_ix (re_var (i := 0)) re_int (fun _ _ => rfl)) ra_nil)))))))) (rss_one (rs_ret re_bl)) rss_nil)
    (rss_cons (rs_asg (re_var (i := 0)) (rg_tup rfl (rgs_cons (rg_name (i := 2) sc_is_payer.nd) (rgs_cons (rg_name (i := 3) sc_is_payer.nd) (rgs_cons (rg_name (i := 4) sc_is_payer.nd) rgs_nil)))))
    (rss_cons (rs_if (RW.t (rw_or (rt_not (rt_val (re_call (g_is_number Z) pn_is_number (hr.mono (by decide)) hgu pass_cx (ra_cons (re_var (i := 4)) (ra_cons re_int (ra_cons (re_glob Z.k_MOST_DUE) ra_nil)))))) (rw_or1 (RW.t (rw_and (rt_cmp (op_neA (Room.units hr)) oNeA_ok (re_var (i := 1)) (re_tup ra_nil) (nomark _)) (rw_and1 (rt_cmp op_geA oGeA_ok (re_ix (re_ix (re_var (i := 1)) (re_neg re_int) (fun _ _ => rfl)) re_int (fun _ _ => rfl)) (re_var (i := 2)) (nomark _)))))))) (rss_one (rs_ret re_bl)) rss_nil)
    (rss_cons (rs_asg (re_tup (ra_cons (RE.frozen (re_bin op_cat oCat_ok (RE.frozen (re_comp rfl sc_is_payer.nd (blkOk_by (N := ["value", "before", "name", "office", "due", "names", "offices", "payer", "each"]) (sc := (defScope s_is_payer)) (own := [("payer", 7)]) (by decide +kernel)) rfl (by decide) (ri_seqA (re_var (i := 1))) (fun _ _ _ _ _ => (rg_name (i := 7) sc_is_payer.nd)) (fun _ _ _ _ _ => rts_nil) (fun _ _ _ _ _ => (re_ix (re_var (i := 7)) re_int (fun _ _ => rfl))))) (RE.frozen (re_lst (ra_cons (re_var (i := 2)) ra_nil))))) (ra_cons (RE.frozen (re_bin op_cat oCat_ok (RE.frozen (re_comp rfl sc_is_payer.nd (blkOk_by (N := ["value", "before", "name", "office", "due", "names", "offices", "payer", "each"]) (sc := (defScope s_is_payer)) (own := [("payer", 7)]) (by decide +kernel)) rfl (by decide) (ri_seqA (re_var (i := 1))) (fun _ _ _ _ _ => (rg_name (i := 7) sc_is_payer.nd)) (fun _ _ _ _ _ => rts_nil) (fun _ _ _ _ _ => (re_ix (re_var (i := 7)) re_int (fun _ _ => rfl))))) (RE.frozen (re_lst (ra_cons (re_var (i := 3)) ra_nil))))) ra_nil))) (rg_tup rfl (rgs_cons (rg_name (i := 5) sc_is_payer.nd) (rgs_cons (rg_name (i := 6) sc_is_payer.nd) rgs_nil))))
    (rss_cons (rs_if (rt_val (re_callB (cr_any rfl) bAny_ok Z.n_any (by decide +kernel) (ra_cons (RE.frozen (re_comp rfl sc_is_payer.nd (blkOk_by (N := ["value", "before", "name", "office", "due", "names", "offices", "payer", "each"]) (sc := (defScope s_is_payer)) (own := [("each", 8)]) (by decide +kernel)) rfl (by decide) (ri_seqA (re_var (i := 5))) (fun _ _ _ _ _ => (rg_name (i := 8) sc_is_payer.nd)) (fun _ _ _ _ _ => rts_nil) (fun _ _ _ _ _ => (re_cmp op_inA oInA_ok (re_var (i := 8)) (re_var (i := 6)) (by rfl))))) ra_nil))) (rss_one (rs_ret re_bl)) rss_nil)
    (rss_one (rs_ret (re_cmp op_le oLe_ok (re_callB call_lenD bLenK_ok Z.n_len (by decide +kernel) (ra_cons (re_dc rfl sc_is_payer.nd (blkOk_by (N := ["value", "before", "name", "office", "due", "names", "offices", "payer", "each"]) (sc := (defScope s_is_payer)) (own := [("each", 8)]) (by decide +kernel)) rfl (by decide) (ri_seqA (re_var (i := 6))) (fun _ _ _ _ _ => (rg_name (i := 8) sc_is_payer.nd)) (fun _ _ _ _ _ => rts_nil) (fun _ _ _ _ _ => (re_var (i := 8))) (fun _ _ _ _ _ => re_non)) ra_nil)) (re_glob Z.k_MOST_OFFICES) (nomark _)))))))))
theorem g_is_payer (Z : Facts K mg) : DefG P w K mg base T 3 "is_payer" (defArgs s_is_payer) (defBody s_is_payer) (defScope s_is_payer) ["value", "before"] false F_is_payer := by
  obtain ⟨f, fd, a, b⟩ := Z.d_is_payer
  exact ⟨f, fd, a, b, def_g a sc_is_payer (r_is_payer Z)⟩
theorem r_wrong_at_is_payer (Z : Facts K mg) {f : Addr} : ∀ (cdv : Value) (A : Around) (outer : List PySem.Env) (s : Shared) (H : Hp) (E : XK), Room 3 (A.deeper (envOfC "wrong_at" (defScope s_wrong_at) s.heap.objs.size f cdv)) → A.guards = some [] →
    RSs T true (cxOf (L2.CX P w) P w K mg base ["values", "most", "is_right", "at", "value"] "wrong_at" (defScope s_wrong_at) f cdv A outer s H E) (fun cls d _ H' => E cls d H') (defBody s_wrong_at) b_wrong_at_is_payer := by
  intro cdv A outer s H E hr hgu
  unfold b_wrong_at_is_payer
  exact (rss_cons (rs_if (rt_not (rt_val (re_isi (t := .tuple) (re_var (i := 0)) Z.n_isinstance Z.n_tuple (by decide +kernel)))) (rss_one (rs_ret (re_lst (ra_cons re_non ra_nil)))) rss_nil)
    (rss_cons (rs_for own_cx rfl (ri_enumA (ra_cons (re_var (i := 0)) ra_nil) Z.n_enumerate) (rg_tup rfl (rgs_cons (rg_name (i := 3) sc_wrong_at.nd) (rgs_cons (rg_name (i := 4) sc_wrong_at.nd) rgs_nil))) (rss_one (rs_if (RW.t (rw_or (rt_cmp (op_eqA (Room.units hr)) oEqA_ok (re_var (i := 3)) (re_var (i := 1)) (nomark _)) (rw_or1 (rt_not (rt_val (re_callGs (i := 2) (n := 2) (l := [("is_payer", F_is_payer)]) (one_callee (callee_of (g_is_payer Z) pn_is_payer Z.gm_is_payer (Nat.le_refl _))) (hr.mono (by decide)) hgu pass_cx (ra_cons (re_var (i := 4)) (ra_cons (re_sliceA (re_var (i := 0)) ro_none (ro_some (re_var (i := 3)))) ra_nil)))))))) (rss_one (rs_ret (re_lst (ra_cons (re_var (i := 3)) ra_nil)))) rss_nil)))
    (rss_one (rs_ret (re_lst ra_nil)))))
theorem g_wrong_at_is_payer (Z : Facts K mg) : DefG P w K mg base T 4 "wrong_at" (defArgs s_wrong_at) (defBody s_wrong_at) (defScope s_wrong_at) ["values", "most", "is_right"] true F_wrong_at_is_payer := by
  obtain ⟨f, fd, a, b⟩ := Z.d_wrong_at
  exact ⟨f, fd, a, b, def_g a sc_wrong_at (r_wrong_at_is_payer Z)⟩
theorem r_wrong_from_one_is_payer (Z : Facts K mg) {f : Addr} : ∀ (cdv : Value) (A : Around) (outer : List PySem.Env) (s : Shared) (H : Hp) (E : XK), Room 4 (A.deeper (envOfC "wrong_from_one" (defScope s_wrong_from_one) s.heap.objs.size f cdv)) → A.guards = some [] →
    RSs T true (cxOf (L2.CX P w) P w K mg base ["values", "most", "is_right"] "wrong_from_one" (defScope s_wrong_from_one) f cdv A outer s H E) (fun cls d _ H' => E cls d H') (defBody s_wrong_from_one) b_wrong_from_one_is_payer := by
  intro cdv A outer s H E hr hgu
  unfold b_wrong_from_one_is_payer
  exact (rss_one (rs_ret (re_if (rt_cmp (op_eqA (Room.units hr)) oEqA_ok (re_var (i := 0)) (re_tup ra_nil) (nomark _)) (re_lst (ra_cons re_non ra_nil)) (re_call (g_wrong_at_is_payer Z) pn_wrong_at (hr.mono (by decide)) hgu pass_cx (ra_cons (re_var (i := 0)) (ra_cons (re_var (i := 1)) (ra_cons (re_var (i := 2)) ra_nil)))))))
theorem g_wrong_from_one_is_payer (Z : Facts K mg) : DefG P w K mg base T 5 "wrong_from_one" (defArgs s_wrong_from_one) (defBody s_wrong_from_one) (defScope s_wrong_from_one) ["values", "most", "is_right"] true F_wrong_from_one_is_payer := by
  obtain ⟨f, fd, a, b⟩ := Z.d_wrong_from_one
  exact ⟨f, fd, a, b, def_g a sc_wrong_from_one (r_wrong_from_one_is_payer Z)⟩
theorem r_check_payers (Z : Facts K mg) {f : Addr} : ∀ (cdv : Value) (A : Around) (outer : List PySem.Env) (s : Shared) (H : Hp) (E : XK), Room 5 (A.deeper (envOfC "check_payers" (defScope s_check_payers) s.heap.objs.size f cdv)) → A.guards = some [] →
    RSs T false (cxOf (L2.CX P w) P w K mg base ["value", "index"] "check_payers" (defScope s_check_payers) f cdv A outer s H E) (fun cls d _ H' => E cls d H') (defBody s_check_payers) b_check_payers := by
  intro cdv A outer s H E hr hgu
  unfold b_check_payers
  exact (rss_one (rs_for own_cx rfl (ri_seqA (RE.frozen (re_call (g_wrong_from_one_is_payer Z) pn_wrong_from_one (hr.mono (by decide)) hgu pass_cx (ra_cons (re_var (i := 0)) (ra_cons (re_glob Z.k_MOST_PAYERS) (ra_cons (re_gfn Z.gm_is_payer) ra_nil)))))) (rg_name (i := 1) sc_check_payers.nd) (rss_one rs_never)))
theorem g_check_payers (Z : Facts K mg) : DefG P w K mg base T 6 "check_payers" (defArgs s_check_payers) (defBody s_check_payers) (defScope s_check_payers) ["value"] false F_check_payers := by
  obtain ⟨f, fd, a, b⟩ := Z.d_check_payers
  exact ⟨f, fd, a, b, def_g a sc_check_payers (r_check_payers Z)⟩
theorem r_is_call (Z : Facts K mg) {f : Addr} : ∀ (cdv : Value) (A : Around) (outer : List PySem.Env) (s : Shared) (H : Hp) (E : XK), Room 2 (A.deeper (envOfC "is_call" (defScope s_is_call) s.heap.objs.size f cdv)) → A.guards = some [] →
    RSs T false (cxOf (L2.CX P w) P w K mg base ["value", "before"] "is_call" (defScope s_is_call) f cdv A outer s H E) (fun cls d _ H' => E cls d H') (defBody s_is_call) b_is_call := by
  intro cdv A outer s H E hr hgu
  unfold b_is_call
  exact (rss_cons (rs_if (RW.t (rw_or (rt_not (rt_val (re_call (g_is_tuple_of Z) pn_is_tuple_of (hr.mono (by decide)) hgu pass_cx (ra_cons (re_var (i := 0)) (ra_cons re_int ra_nil))))) (rw_or (rt_not (rt_val (re_call (g_is_number Z) pn_is_number (hr.mono (by decide)) hgu pass_cx (ra_cons (re_ix (re_var (i := 0)) re_int (fun _ _ => rfl)) (ra_cons re_int (ra_cons (re_glob Z.k_MOST_DAY) ra_nil)))))) (rw_or1 (rt_not (rt_val (re_call (g_is_number Z) pn_is_number (hr.mono (by decide)) hgu pass_cx (ra_cons (re_ix (re_var (i := 0)) re_int (fun _ _ => rfl)) (ra_cons re_int (ra_cons (re_glob Z.k_ALL_PARTS) ra_nil)))))))))) (rss_one (rs_ret re_bl)) rss_nil)
    (rss_one (rs_ret (re_or (re_cmp (op_eqA (Room.units hr)) oEqA_ok (re_var (i := 1)) (re_tup ra_nil) (nomark _)) (re_one (re_cmp (op_ltA (Room.units0 hr)) oLtA_ok (re_ix (re_ix (re_var (i := 1)) (re_neg re_int) (fun _ _ => rfl)) re_int (fun _ _ => rfl)) (re_ix (re_var (i := 0)) re_int (fun _ _ => rfl)) (nomark _)))))))
theorem g_is_call (Z : Facts K mg) : DefG P w K mg base T 3 "is_call" (defArgs s_is_call) (defBody s_is_call) (defScope s_is_call) ["value", "before"] false F_is_call := by
  obtain ⟨f, fd, a, b⟩ := Z.d_is_call
  exact ⟨f, fd, a, b, def_g a sc_is_call (r_is_call Z)⟩
theorem r_wrong_at_is_call (Z : Facts K mg) {f : Addr} : ∀ (cdv : Value) (A : Around) (outer : List PySem.Env) (s : Shared) (H : Hp) (E : XK), Room 3 (A.deeper (envOfC "wrong_at" (defScope s_wrong_at) s.heap.objs.size f cdv)) → A.guards = some [] →
    RSs T true (cxOf (L2.CX P w) P w K mg base ["values", "most", "is_right", "at", "value"] "wrong_at" (defScope s_wrong_at) f cdv A outer s H E) (fun cls d _ H' => E cls d H') (defBody s_wrong_at) b_wrong_at_is_call := by
  intro cdv A outer s H E hr hgu
  unfold b_wrong_at_is_call
  exact (rss_cons (rs_if (rt_not (rt_val (re_isi (t := .tuple) (re_var (i := 0)) Z.n_isinstance Z.n_tuple (by decide +kernel)))) (rss_one (rs_ret (re_lst (ra_cons re_non ra_nil)))) rss_nil)
    (rss_cons (rs_for own_cx rfl (ri_enumA (ra_cons (re_var (i := 0)) ra_nil) Z.n_enumerate) (rg_tup rfl (rgs_cons (rg_name (i := 3) sc_wrong_at.nd) (rgs_cons (rg_name (i := 4) sc_wrong_at.nd) rgs_nil))) (rss_one (rs_if (RW.t (rw_or (rt_cmp (op_eqA (Room.units hr)) oEqA_ok (re_var (i := 3)) (re_var (i := 1)) (nomark _)) (rw_or1 (rt_not (rt_val (re_callGs (i := 2) (n := 2) (l := [("is_call", F_is_call)]) (one_callee (callee_of (g_is_call Z) pn_is_call Z.gm_is_call (Nat.le_refl _))) (hr.mono (by decide)) hgu pass_cx (ra_cons (re_var (i := 4)) (ra_cons (re_sliceA (re_var (i := 0)) ro_none (ro_some (re_var (i := 3)))) ra_nil)))))))) (rss_one (rs_ret (re_lst (ra_cons (re_var (i := 3)) ra_nil)))) rss_nil)))
    (rss_one (rs_ret (re_lst ra_nil)))))
theorem g_wrong_at_is_call (Z : Facts K mg) : DefG P w K mg base T 4 "wrong_at" (defArgs s_wrong_at) (defBody s_wrong_at) (defScope s_wrong_at) ["values", "most", "is_right"] true F_wrong_at_is_call := by
  obtain ⟨f, fd, a, b⟩ := Z.d_wrong_at
  exact ⟨f, fd, a, b, def_g a sc_wrong_at (r_wrong_at_is_call Z)⟩
theorem r_wrong_from_one_is_call (Z : Facts K mg) {f : Addr} : ∀ (cdv : Value) (A : Around) (outer : List PySem.Env) (s : Shared) (H : Hp) (E : XK), Room 4 (A.deeper (envOfC "wrong_from_one" (defScope s_wrong_from_one) s.heap.objs.size f cdv)) → A.guards = some [] →
    RSs T true (cxOf (L2.CX P w) P w K mg base ["values", "most", "is_right"] "wrong_from_one" (defScope s_wrong_from_one) f cdv A outer s H E) (fun cls d _ H' => E cls d H') (defBody s_wrong_from_one) b_wrong_from_one_is_call := by
  intro cdv A outer s H E hr hgu
  unfold b_wrong_from_one_is_call
  exact (rss_one (rs_ret (re_if (rt_cmp (op_eqA (Room.units hr)) oEqA_ok (re_var (i := 0)) (re_tup ra_nil) (nomark _)) (re_lst (ra_cons re_non ra_nil)) (re_call (g_wrong_at_is_call Z) pn_wrong_at (hr.mono (by decide)) hgu pass_cx (ra_cons (re_var (i := 0)) (ra_cons (re_var (i := 1)) (ra_cons (re_var (i := 2)) ra_nil)))))))
theorem g_wrong_from_one_is_call (Z : Facts K mg) : DefG P w K mg base T 5 "wrong_from_one" (defArgs s_wrong_from_one) (defBody s_wrong_from_one) (defScope s_wrong_from_one) ["values", "most", "is_right"] true F_wrong_from_one_is_call := by
  obtain ⟨f, fd, a, b⟩ := Z.d_wrong_from_one
  exact ⟨f, fd, a, b, def_g a sc_wrong_from_one (r_wrong_from_one_is_call Z)⟩
theorem r_check_calls (Z : Facts K mg) {f : Addr} : ∀ (cdv : Value) (A : Around) (outer : List PySem.Env) (s : Shared) (H : Hp) (E : XK), Room 5 (A.deeper (envOfC "check_calls" (defScope s_check_calls) s.heap.objs.size f cdv)) → A.guards = some [] →
    RSs T false (cxOf (L2.CX P w) P w K mg base ["value", "index"] "check_calls" (defScope s_check_calls) f cdv A outer s H E) (fun cls d _ H' => E cls d H') (defBody s_check_calls) b_check_calls := by
  intro cdv A outer s H E hr hgu
  unfold b_check_calls
  exact (rss_one (rs_for own_cx rfl (ri_seqA (RE.frozen (re_call (g_wrong_from_one_is_call Z) pn_wrong_from_one (hr.mono (by decide)) hgu pass_cx (ra_cons (re_var (i := 0)) (ra_cons (re_glob Z.k_MOST_CALLS) (ra_cons (re_gfn Z.gm_is_call) ra_nil)))))) (rg_name (i := 1) sc_check_calls.nd) (rss_one rs_never)))
theorem g_check_calls (Z : Facts K mg) : DefG P w K mg base T 6 "check_calls" (defArgs s_check_calls) (defBody s_check_calls) (defScope s_check_calls) ["value"] false F_check_calls := by
  obtain ⟨f, fd, a, b⟩ := Z.d_check_calls
  exact ⟨f, fd, a, b, def_g a sc_check_calls (r_check_calls Z)⟩
theorem r_is_outlay (Z : Facts K mg) {f : Addr} : ∀ (cdv : Value) (A : Around) (outer : List PySem.Env) (s : Shared) (H : Hp) (E : XK), Room 2 (A.deeper (envOfC "is_outlay" (defScope s_is_outlay) s.heap.objs.size f cdv)) → A.guards = some [] →
    RSs T false (cxOf (L2.CX P w) P w K mg base ["value", "before"] "is_outlay" (defScope s_is_outlay) f cdv A outer s H E) (fun cls d _ H' => E cls d H') (defBody s_is_outlay) b_is_outlay := by
  intro cdv A outer s H E hr hgu
  unfold b_is_outlay
  exact (rss_cons (rs_if (RW.t (rw_or (rt_not (rt_val (re_call (g_is_tuple_of Z) pn_is_tuple_of (hr.mono (by decide)) hgu pass_cx (ra_cons (re_var (i := 0)) (ra_cons re_int ra_nil))))) (rw_or1 (rt_not (rt_val (re_call (g_is_number Z) pn_is_number (hr.mono (by decide)) hgu pass_cx (ra_cons (re_ix (re_var (i := 0)) re_int (fun _ _ => rfl)) (ra_cons re_int (ra_cons (re_glob Z.k_MOST_OUTLAY_DAY) ra_nil))))))))) (rss_one (rs_ret re_bl)) rss_nil)
    (rss_one (rs_ret (re_and (re_call (g_is_number Z) pn_is_number (hr.mono (by decide)) hgu pass_cx (ra_cons (re_ix (re_var (i := 0)) re_int (fun _ _ => rfl)) (ra_cons re_int (ra_cons (re_glob Z.k_MOST_UNITS) ra_nil)))) (re_one (re_or (re_cmp (op_eqA (Room.units hr)) oEqA_ok (re_var (i := 1)) (re_tup ra_nil) (nomark _)) (re_one (re_cmp op_le oLe_ok (re_ix (re_ix (re_var (i := 1)) (re_neg re_int) (fun _ _ => rfl)) re_int (fun _ _ => rfl)) (re_ix (re_var (i := 0)) re_int (fun _ _ => rfl)) (nomark _)))))))))
theorem g_is_outlay (Z : Facts K mg) : DefG P w K mg base T 3 "is_outlay" (defArgs s_is_outlay) (defBody s_is_outlay) (defScope s_is_outlay) ["value", "before"] false F_is_outlay := by
  obtain ⟨f, fd, a, b⟩ := Z.d_is_outlay
  exact ⟨f, fd, a, b, def_g a sc_is_outlay (r_is_outlay Z)⟩
theorem r_wrong_at_is_outlay (Z : Facts K mg) {f : Addr} : ∀ (cdv : Value) (A : Around) (outer : List PySem.Env) (s : Shared) (H : Hp) (E : XK), Room 3 (A.deeper (envOfC "wrong_at" (defScope s_wrong_at) s.heap.objs.size f cdv)) → A.guards = some [] →
    RSs T true (cxOf (L2.CX P w) P w K mg base ["values", "most", "is_right", "at", "value"] "wrong_at" (defScope s_wrong_at) f cdv A outer s H E) (fun cls d _ H' => E cls d H') (defBody s_wrong_at) b_wrong_at_is_outlay := by
  intro cdv A outer s H E hr hgu
  unfold b_wrong_at_is_outlay
  exact (rss_cons (rs_if (rt_not (rt_val (re_isi (t := .tuple) (re_var (i := 0)) Z.n_isinstance Z.n_tuple (by decide +kernel)))) (rss_one (rs_ret (re_lst (ra_cons re_non ra_nil)))) rss_nil)
    (rss_cons (rs_for own_cx rfl (ri_enumA (ra_cons (re_var (i := 0)) ra_nil) Z.n_enumerate) (rg_tup rfl (rgs_cons (rg_name (i := 3) sc_wrong_at.nd) (rgs_cons (rg_name (i := 4) sc_wrong_at.nd) rgs_nil))) (rss_one (rs_if (RW.t (rw_or (rt_cmp (op_eqA (Room.units hr)) oEqA_ok (re_var (i := 3)) (re_var (i := 1)) (nomark _)) (rw_or1 (rt_not (rt_val (re_callGs (i := 2) (n := 2) (l := [("is_outlay", F_is_outlay)]) (one_callee (callee_of (g_is_outlay Z) pn_is_outlay Z.gm_is_outlay (Nat.le_refl _))) (hr.mono (by decide)) hgu pass_cx (ra_cons (re_var (i := 4)) (ra_cons (re_sliceA (re_var (i := 0)) ro_none (ro_some (re_var (i := 3)))) ra_nil)))))))) (rss_one (rs_ret (re_lst (ra_cons (re_var (i := 3)) ra_nil)))) rss_nil)))
    (rss_one (rs_ret (re_lst ra_nil)))))
theorem g_wrong_at_is_outlay (Z : Facts K mg) : DefG P w K mg base T 4 "wrong_at" (defArgs s_wrong_at) (defBody s_wrong_at) (defScope s_wrong_at) ["values", "most", "is_right"] true F_wrong_at_is_outlay := by
  obtain ⟨f, fd, a, b⟩ := Z.d_wrong_at
  exact ⟨f, fd, a, b, def_g a sc_wrong_at (r_wrong_at_is_outlay Z)⟩
theorem r_check_outlays (Z : Facts K mg) {f : Addr} : ∀ (cdv : Value) (A : Around) (outer : List PySem.Env) (s : Shared) (H : Hp) (E : XK), Room 4 (A.deeper (envOfC "check_outlays" (defScope s_check_outlays) s.heap.objs.size f cdv)) → A.guards = some [] →
    RSs T false (cxOf (L2.CX P w) P w K mg base ["value", "index"] "check_outlays" (defScope s_check_outlays) f cdv A outer s H E) (fun cls d _ H' => E cls d H') (defBody s_check_outlays) b_check_outlays := by
  intro cdv A outer s H E hr hgu
  unfold b_check_outlays
  exact (rss_one (rs_for own_cx rfl (ri_seqA (RE.frozen (re_call (g_wrong_at_is_outlay Z) pn_wrong_at (hr.mono (by decide)) hgu pass_cx (ra_cons (re_var (i := 0)) (ra_cons (re_glob Z.k_MOST_OUTLAYS) (ra_cons (re_gfn Z.gm_is_outlay) ra_nil)))))) (rg_name (i := 1) sc_check_outlays.nd) (rss_one rs_never)))
theorem g_check_outlays (Z : Facts K mg) : DefG P w K mg base T 5 "check_outlays" (defArgs s_check_outlays) (defBody s_check_outlays) (defScope s_check_outlays) ["value"] false F_check_outlays := by
  obtain ⟨f, fd, a, b⟩ := Z.d_check_outlays
  exact ⟨f, fd, a, b, def_g a sc_check_outlays (r_check_outlays Z)⟩
theorem r_check_number (Z : Facts K mg) {f : Addr} : ∀ (cdv : Value) (A : Around) (outer : List PySem.Env) (s : Shared) (H : Hp) (E : XK), Room 2 (A.deeper (envOfC "check_number" (defScope s_check_number) s.heap.objs.size f cdv)) → A.guards = some [] →
    RSs T false (cxOf (L2.CX P w) P w K mg base ["value", "low", "high"] "check_number" (defScope s_check_number) f cdv A outer s H E) (fun cls d _ H' => E cls d H') (defBody s_check_number) b_check_number := by
  intro cdv A outer s H E hr hgu
  unfold b_check_number
  exact (rss_one (rs_if (rt_not (rt_val (re_call (g_is_number Z) pn_is_number (hr.mono (by decide)) hgu pass_cx (ra_cons (re_var (i := 0)) (ra_cons (re_var (i := 1)) (ra_cons (re_var (i := 2)) ra_nil)))))) (rss_one rs_never) rss_nil))
theorem g_check_number (Z : Facts K mg) : DefG P w K mg base T 3 "check_number" (defArgs s_check_number) (defBody s_check_number) (defScope s_check_number) ["value", "low", "high"] false F_check_number := by
  obtain ⟨f, fd, a, b⟩ := Z.d_check_number
  exact ⟨f, fd, a, b, def_g a sc_check_number (r_check_number Z)⟩
theorem r_are_bounds (Z : Facts K mg) {f : Addr} : ∀ (cdv : Value) (A : Around) (outer : List PySem.Env) (s : Shared) (H : Hp) (E : XK), Room 2 (A.deeper (envOfC "are_bounds" (defScope s_are_bounds) s.heap.objs.size f cdv)) → A.guards = some [] →
    RSs T false (cxOf (L2.CX P w) P w K mg base ["value", "number", "most"] "are_bounds" (defScope s_are_bounds) f cdv A outer s H E) (fun cls d _ H' => E cls d H') (defBody s_are_bounds) b_are_bounds := by
  intro cdv A outer s H E hr hgu
  unfold b_are_bounds
  exact (rss_cons (rs_if (rt_not (rt_val (re_call (g_is_tuple_of Z) pn_is_tuple_of (hr.mono (by decide)) hgu pass_cx (ra_cons (re_var (i := 0)) (ra_cons (re_callB call_len bLen_ok Z.n_len (by decide +kernel) (ra_cons (re_glob Z.k_MOST_BOUNDS) ra_nil)) ra_nil))))) (rss_one (rs_ret re_bl)) rss_nil)
    (rss_one (rs_ret (re_callB (cr_all rfl) bAll_ok Z.n_all (by decide +kernel) (ra_cons (RE.frozen (re_comp rfl sc_are_bounds.nd (blkOk_by (N := ["value", "number", "most"]) (sc := (defScope s_are_bounds)) (own := [("number", 1), ("most", 2)]) (by decide +kernel)) rfl (by decide) (ri_zip (ra_cons (re_var (i := 0)) (ra_cons (re_glob Z.k_MOST_BOUNDS) ra_nil)) Z.n_zip) (fun _ _ _ _ _ => (rg_tup rfl (rgs_cons (rg_name (i := 1) sc_are_bounds.nd) (rgs_cons (rg_name (i := 2) sc_are_bounds.nd) rgs_nil)))) (fun _ _ _ _ _ => rts_nil) (fun _ _ _ _ _ => (re_call (g_is_number Z) pn_is_number (hr.mono (by decide)) hgu pass_blk (ra_cons (re_var (i := 1)) (ra_cons re_int (ra_cons (re_var (i := 2)) ra_nil))))))) ra_nil)))))
theorem g_are_bounds (Z : Facts K mg) : DefG P w K mg base T 3 "are_bounds" (defArgs s_are_bounds) (defBody s_are_bounds) (defScope s_are_bounds) ["value"] false F_are_bounds := by
  obtain ⟨f, fd, a, b⟩ := Z.d_are_bounds
  exact ⟨f, fd, a, b, def_g a sc_are_bounds (r_are_bounds Z)⟩
theorem r_Calls___init__ (Z : Facts K mg) {f : Addr} : ∀ (cdv : Value) (A : Around) (outer : List PySem.Env) (s : Shared) (H : Hp) (E : XK), Room 6 (A.deeper (envOfC "Calls.__init__" (defScope s_Calls___init__) s.heap.objs.size f cdv)) → A.guards = some [] →
    RSs T false (cxOf (L2.CX P w) P w K mg base ["self", "payers", "calls", "outlays", "reserve", "bounds", "parts", "_", "part"] "Calls.__init__" (defScope s_Calls___init__) f cdv A outer s H E) (fun cls d _ H' => E cls d H') (defBody s_Calls___init__) b_Calls___init__ := by
  intro cdv A outer s H E hr hgu
  unfold b_Calls___init__
  exact (rss_cons (rs_expr (re_call (g_check_payers Z) pn_check_payers (hr.mono (by decide)) hgu pass_cx (ra_cons (re_var (i := 1)) ra_nil)))
    (rss_cons (rs_expr (re_call (g_check_calls Z) pn_check_calls (hr.mono (by decide)) hgu pass_cx (ra_cons (re_var (i := 2)) ra_nil)))
    (rss_cons (rs_expr (re_call (g_check_outlays Z) pn_check_outlays (hr.mono (by decide)) hgu pass_cx (ra_cons (re_var (i := 3)) ra_nil)))
    (rss_cons (rs_expr (re_call (g_check_number Z) pn_check_number (hr.mono (by decide)) hgu pass_cx (ra_cons (re_var (i := 4)) (ra_cons re_int (ra_cons (re_glob Z.k_MOST_UNITS) ra_nil)))))
    (rss_cons (rs_if (rt_not (rt_val (re_call (g_are_bounds Z) pn_are_bounds (hr.mono (by decide)) hgu pass_cx (ra_cons (re_var (i := 5)) ra_nil)))) (rss_one rs_never) rss_nil)
    (rss_cons (rs_set (i := 6) sc_Calls___init__.nd (re_callB (cr_sum rfl) bSum_ok Z.n_sum (by decide +kernel) (ra_cons (RE.frozen (re_comp rfl sc_Calls___init__.nd (blkOk_by (N := ["self", "payers", "calls", "outlays", "reserve", "bounds", "parts", "_", "part"]) (sc := (defScope s_Calls___init__)) (own := [("_", 7), ("part", 8)]) (by decide +kernel)) rfl (by decide) (ri_seqA (re_var (i := 2))) (fun _ _ _ _ _ => (rg_tup rfl (rgs_cons (rg_name (i := 7) sc_Calls___init__.nd) (rgs_cons (rg_name (i := 8) sc_Calls___init__.nd) rgs_nil)))) (fun _ _ _ _ _ => rts_nil) (fun _ _ _ _ _ => (re_var (i := 8))))) ra_nil)))
    (rss_cons (rs_if (rt_cmp (op_neA (Room.units hr)) oNeA_ok (re_var (i := 6)) (re_glob Z.k_ALL_PARTS) (nomark _)) (rss_one rs_never) rss_nil)
    (rss_one (rs_fld Z.c_Calls Z.na_Calls_told (re_var (i := 0)) (re_tup (ra_cons (re_var (i := 1)) (ra_cons (re_var (i := 2)) (ra_cons (re_var (i := 3)) (ra_cons (re_var (i := 4)) (ra_cons (re_var (i := 5)) ra_nil)))))))))))))))
theorem g_Calls___init__ (Z : Facts K mg) : MakeG P w K mg base T 7 "Calls" "Calls.__init__" (defArgs s_Calls___init__) (defBody s_Calls___init__) (defScope s_Calls___init__) ["self", "payers", "calls", "outlays", "reserve", "bounds"] F_Calls___init__ := by
  obtain ⟨f, fd, a, m, b⟩ := Z.d_Calls___init__
  exact ⟨f, fd, a, m, b, def_g b sc_Calls___init__ (r_Calls___init__ Z)⟩
theorem r__law_bent (Z : Facts K mg) {f : Addr} : ∀ (cdv : Value) (A : Around) (outer : List PySem.Env) (s : Shared) (H : Hp) (E : XK), Room 1 (A.deeper (envOfC "_law_bent" (defScope s__law_bent) s.heap.objs.size f cdv)) → A.guards = some [] →
    RSs T false (cxOf (L2.CX P w) P w K mg base ["urn", "parts", "payers", "calls", "outlays", "reserve", "bounds", "way", "at", "name", "office", "due", "k"] "_law_bent" (defScope s__law_bent) f cdv A outer s H E) (fun cls d _ H' => E cls d H') (defBody s__law_bent) b__law_bent := by
  intro cdv A outer s H E hr hgu
  unfold b__law_bent
  exact (rss_cons (rs_asg (re_var (i := 1)) (rg_tup rfl (rgs_cons (rg_name (i := 2) sc__law_bent.nd) (rgs_cons (rg_name (i := 3) sc__law_bent.nd) (rgs_cons (rg_name (i := 4) sc__law_bent.nd) (rgs_cons (rg_name (i := 5) sc__law_bent.nd) (rgs_cons (rg_name (i := 6) sc__law_bent.nd) rgs_nil)))))))
    (rss_cons (rs_par (i := 7) (j := 8) rfl sc__law_bent.nd (ra_cons (re_call (g__law_take Z) pn__law_take (hr.mono (by decide)) hgu pass_cx (ra_cons (re_var (i := 0)) (ra_cons re_int ra_nil))) (ra_cons (re_call (g__law_take Z) pn__law_take (hr.mono (by decide)) hgu pass_cx (ra_cons (re_var (i := 0)) (ra_cons (re_callB call_len bLen_ok Z.n_len (by decide +kernel) (ra_cons (re_var (i := 2)) ra_nil)) ra_nil))) ra_nil)))
    (rss_cons (rs_if (rt_cmp (op_eqA (Room.units hr)) oEqA_ok (re_var (i := 7)) re_int (nomark _)) (rss_cons (rs_asg (re_ix (re_var (i := 2)) (re_var (i := 8)) (fun _ _ => rfl)) (rg_tup rfl (rgs_cons (rg_name (i := 9) sc__law_bent.nd) (rgs_cons (rg_name (i := 10) sc__law_bent.nd) (rgs_cons (rg_name (i := 11) sc__law_bent.nd) rgs_nil)))))
    (rss_cons (rs_set (i := 11) sc__law_bent.nd (re_if (rt_cmp op_gt oGt_ok (re_var (i := 11)) re_int (nomark _)) (re_bin op_sub oSub_ok (re_var (i := 11)) re_int) re_int))
    (rss_one (rs_ret (re_tup (ra_cons (re_bin op_add4 oAddA_ok (re_bin op_add4 oAddA_ok (re_sliceA (re_var (i := 2)) ro_none (ro_some (re_var (i := 8)))) (re_tup (ra_cons (re_tup (ra_cons (re_var (i := 9)) (ra_cons (re_var (i := 10)) (ra_cons (re_var (i := 11)) ra_nil)))) ra_nil))) (re_sliceA (re_var (i := 2)) (ro_some (re_bin op_add4 oAddA_ok (re_var (i := 8)) re_int)) ro_none)) (ra_cons (re_var (i := 3)) (ra_cons (re_var (i := 4)) (ra_cons (re_var (i := 5)) (ra_cons (re_var (i := 6)) ra_nil)))))))))) rss_nil)
    (rss_cons (rs_if (rt_cmp (op_eqA (Room.units hr)) oEqA_ok (re_var (i := 7)) re_int (nomark _)) (rss_one (rs_ret (re_tup (ra_cons (re_var (i := 2)) (ra_cons (re_var (i := 3)) (ra_cons (re_var (i := 4)) (ra_cons (re_if (rt_cmp op_gt oGt_ok (re_var (i := 5)) re_int (nomark _)) (re_bin op_sub oSub_ok (re_var (i := 5)) re_int) re_int) (ra_cons (re_var (i := 6)) ra_nil)))))))) rss_nil)
    (rss_cons (rs_if (RW.t (rw_and (rt_cmp (op_eqA (Room.units hr)) oEqA_ok (re_var (i := 7)) re_int (nomark _)) (rw_and1 (rt_cmp (op_neA (Room.units hr)) oNeA_ok (re_var (i := 4)) (re_tup ra_nil) (nomark _))))) (rss_one (rs_ret (re_tup (ra_cons (re_var (i := 2)) (ra_cons (re_var (i := 3)) (ra_cons (re_sliceA (re_var (i := 4)) (ro_some re_int) ro_none) (ra_cons (re_var (i := 5)) (ra_cons (re_var (i := 6)) ra_nil)))))))) rss_nil)
    (rss_cons (rs_if (rt_cmp (op_eqA (Room.units hr)) oEqA_ok (re_var (i := 7)) re_int (nomark _)) (rss_one (rs_ret (re_tup (ra_cons (re_var (i := 2)) (ra_cons (re_bin op_add4 oAddA_ok (re_sliceA (re_var (i := 3)) ro_none (ro_some (re_neg re_int))) (re_tup (ra_cons (re_tup (ra_cons (re_bin op_add4 oAddA_ok (re_ix (re_ix (re_var (i := 3)) (re_neg re_int) (fun _ _ => rfl)) re_int (fun _ _ => rfl)) re_int) (ra_cons (re_ix (re_ix (re_var (i := 3)) (re_neg re_int) (fun _ _ => rfl)) re_int (fun _ _ => rfl)) ra_nil))) ra_nil))) (ra_cons (re_var (i := 4)) (ra_cons (re_var (i := 5)) (ra_cons (re_var (i := 6)) ra_nil)))))))) rss_nil)
    (rss_cons (rs_set (i := 12) sc__law_bent.nd (re_call (g__law_take Z) pn__law_take (hr.mono (by decide)) hgu pass_cx (ra_cons (re_var (i := 0)) (ra_cons re_int ra_nil))))
    (rss_one (rs_ret (re_tup (ra_cons (re_var (i := 2)) (ra_cons (re_var (i := 3)) (ra_cons (re_var (i := 4)) (ra_cons (re_var (i := 5)) (ra_cons (re_bin op_add4 oAddA_ok (re_bin op_add4 oAddA_ok (re_sliceA (re_var (i := 6)) ro_none (ro_some (re_var (i := 12)))) (re_tup (ra_cons (re_if (rt_cmp op_gt oGt_ok (re_ix (re_var (i := 6)) (re_var (i := 12)) (fun _ _ => rfl)) re_int (nomark _)) (re_bin op_sub oSub_ok (re_ix (re_var (i := 6)) (re_var (i := 12)) (fun _ _ => rfl)) re_int) re_int) ra_nil))) (re_sliceA (re_var (i := 6)) (ro_some (re_bin op_add4 oAddA_ok (re_var (i := 12)) re_int)) ro_none)) ra_nil)))))))))))))))
theorem g__law_bent (Z : Facts K mg) : DefG P w K mg base T 2 "_law_bent" (defArgs s__law_bent) (defBody s__law_bent) (defScope s__law_bent) ["urn", "parts"] false F__law_bent := by
  obtain ⟨f, fd, a, b⟩ := Z.d__law_bent
  exact ⟨f, fd, a, b, def_g a sc__law_bent (r__law_bent Z)⟩
theorem r_Calls_payers (Z : Facts K mg) {f : Addr} : ∀ (cdv : Value) (A : Around) (outer : List PySem.Env) (s : Shared) (H : Hp) (E : XK), Room 0 (A.deeper (envOfC "Calls.payers" (defScope s_Calls_payers) s.heap.objs.size f cdv)) → A.guards = some [] →
    RSs T false (cxOf (L2.CX P w) P w K mg base ["self"] "Calls.payers" (defScope s_Calls_payers) f cdv A outer s H E) (fun cls d _ H' => E cls d H') (defBody s_Calls_payers) b_Calls_payers := by
  intro cdv A outer s H E hr hgu
  unfold b_Calls_payers
  exact (rss_one (rs_ret (re_ix (re_fld Z.c_Calls Z.na_Calls_told (re_var (i := 0))) re_int (fun _ _ => rfl))))
theorem g_Calls_payers (Z : Facts K mg) : PropG P w K mg base T 1 "Calls" "payers" "Calls.payers" (defArgs s_Calls_payers) (defBody s_Calls_payers) (defScope s_Calls_payers) ["self"] false F_Calls_payers := by
  obtain ⟨p, g, fd, a, b⟩ := Z.d_Calls_payers
  exact ⟨p, g, fd, a, b, def_g b sc_Calls_payers (r_Calls_payers Z)⟩
theorem r_Calls_calls (Z : Facts K mg) {f : Addr} : ∀ (cdv : Value) (A : Around) (outer : List PySem.Env) (s : Shared) (H : Hp) (E : XK), Room 0 (A.deeper (envOfC "Calls.calls" (defScope s_Calls_calls) s.heap.objs.size f cdv)) → A.guards = some [] →
    RSs T false (cxOf (L2.CX P w) P w K mg base ["self"] "Calls.calls" (defScope s_Calls_calls) f cdv A outer s H E) (fun cls d _ H' => E cls d H') (defBody s_Calls_calls) b_Calls_calls := by
  intro cdv A outer s H E hr hgu
  unfold b_Calls_calls
  exact (rss_one (rs_ret (re_ix (re_fld Z.c_Calls Z.na_Calls_told (re_var (i := 0))) re_int (fun _ _ => rfl))))
theorem g_Calls_calls (Z : Facts K mg) : PropG P w K mg base T 1 "Calls" "calls" "Calls.calls" (defArgs s_Calls_calls) (defBody s_Calls_calls) (defScope s_Calls_calls) ["self"] false F_Calls_calls := by
  obtain ⟨p, g, fd, a, b⟩ := Z.d_Calls_calls
  exact ⟨p, g, fd, a, b, def_g b sc_Calls_calls (r_Calls_calls Z)⟩
theorem r_Calls_outlays (Z : Facts K mg) {f : Addr} : ∀ (cdv : Value) (A : Around) (outer : List PySem.Env) (s : Shared) (H : Hp) (E : XK), Room 0 (A.deeper (envOfC "Calls.outlays" (defScope s_Calls_outlays) s.heap.objs.size f cdv)) → A.guards = some [] →
    RSs T false (cxOf (L2.CX P w) P w K mg base ["self"] "Calls.outlays" (defScope s_Calls_outlays) f cdv A outer s H E) (fun cls d _ H' => E cls d H') (defBody s_Calls_outlays) b_Calls_outlays := by
  intro cdv A outer s H E hr hgu
  unfold b_Calls_outlays
  exact (rss_one (rs_ret (re_ix (re_fld Z.c_Calls Z.na_Calls_told (re_var (i := 0))) re_int (fun _ _ => rfl))))
theorem g_Calls_outlays (Z : Facts K mg) : PropG P w K mg base T 1 "Calls" "outlays" "Calls.outlays" (defArgs s_Calls_outlays) (defBody s_Calls_outlays) (defScope s_Calls_outlays) ["self"] false F_Calls_outlays := by
  obtain ⟨p, g, fd, a, b⟩ := Z.d_Calls_outlays
  exact ⟨p, g, fd, a, b, def_g b sc_Calls_outlays (r_Calls_outlays Z)⟩
theorem r_Calls_reserve (Z : Facts K mg) {f : Addr} : ∀ (cdv : Value) (A : Around) (outer : List PySem.Env) (s : Shared) (H : Hp) (E : XK), Room 0 (A.deeper (envOfC "Calls.reserve" (defScope s_Calls_reserve) s.heap.objs.size f cdv)) → A.guards = some [] →
    RSs T false (cxOf (L2.CX P w) P w K mg base ["self"] "Calls.reserve" (defScope s_Calls_reserve) f cdv A outer s H E) (fun cls d _ H' => E cls d H') (defBody s_Calls_reserve) b_Calls_reserve := by
  intro cdv A outer s H E hr hgu
  unfold b_Calls_reserve
  exact (rss_one (rs_ret (re_ix (re_fld Z.c_Calls Z.na_Calls_told (re_var (i := 0))) re_int (fun _ _ => rfl))))
theorem g_Calls_reserve (Z : Facts K mg) : PropG P w K mg base T 1 "Calls" "reserve" "Calls.reserve" (defArgs s_Calls_reserve) (defBody s_Calls_reserve) (defScope s_Calls_reserve) ["self"] false F_Calls_reserve := by
  obtain ⟨p, g, fd, a, b⟩ := Z.d_Calls_reserve
  exact ⟨p, g, fd, a, b, def_g b sc_Calls_reserve (r_Calls_reserve Z)⟩
theorem r_Calls_bounds (Z : Facts K mg) {f : Addr} : ∀ (cdv : Value) (A : Around) (outer : List PySem.Env) (s : Shared) (H : Hp) (E : XK), Room 0 (A.deeper (envOfC "Calls.bounds" (defScope s_Calls_bounds) s.heap.objs.size f cdv)) → A.guards = some [] →
    RSs T false (cxOf (L2.CX P w) P w K mg base ["self"] "Calls.bounds" (defScope s_Calls_bounds) f cdv A outer s H E) (fun cls d _ H' => E cls d H') (defBody s_Calls_bounds) b_Calls_bounds := by
  intro cdv A outer s H E hr hgu
  unfold b_Calls_bounds
  exact (rss_one (rs_ret (re_ix (re_fld Z.c_Calls Z.na_Calls_told (re_var (i := 0))) re_int (fun _ _ => rfl))))
theorem g_Calls_bounds (Z : Facts K mg) : PropG P w K mg base T 1 "Calls" "bounds" "Calls.bounds" (defArgs s_Calls_bounds) (defBody s_Calls_bounds) (defScope s_Calls_bounds) ["self"] false F_Calls_bounds := by
  obtain ⟨p, g, fd, a, b⟩ := Z.d_Calls_bounds
  exact ⟨p, g, fd, a, b, def_g b sc_Calls_bounds (r_Calls_bounds Z)⟩
theorem r_Calls_parts (Z : Facts K mg) {f : Addr} : ∀ (cdv : Value) (A : Around) (outer : List PySem.Env) (s : Shared) (H : Hp) (E : XK), Room 0 (A.deeper (envOfC "Calls.parts" (defScope s_Calls_parts) s.heap.objs.size f cdv)) → A.guards = some [] →
    RSs T false (cxOf (L2.CX P w) P w K mg base ["self"] "Calls.parts" (defScope s_Calls_parts) f cdv A outer s H E) (fun cls d _ H' => E cls d H') (defBody s_Calls_parts) b_Calls_parts := by
  intro cdv A outer s H E hr hgu
  unfold b_Calls_parts
  exact (rss_one (rs_ret (re_fld Z.c_Calls Z.na_Calls_told (re_var (i := 0)))))
theorem g_Calls_parts (Z : Facts K mg) : PropG P w K mg base T 1 "Calls" "parts" "Calls.parts" (defArgs s_Calls_parts) (defBody s_Calls_parts) (defScope s_Calls_parts) ["self"] false F_Calls_parts := by
  obtain ⟨p, g, fd, a, b⟩ := Z.d_Calls_parts
  exact ⟨p, g, fd, a, b, def_g b sc_Calls_parts (r_Calls_parts Z)⟩
theorem r__law_owed (Z : Facts K mg) {f : Addr} : ∀ (cdv : Value) (A : Around) (outer : List PySem.Env) (s : Shared) (H : Hp) (E : XK), Room 0 (A.deeper (envOfC "_law_owed" (defScope s__law_owed) s.heap.objs.size f cdv)) → A.guards = some [] →
    RSs T false (cxOf (L2.CX P w) P w K mg base ["parts", "payer", "call", "day", "part"] "_law_owed" (defScope s__law_owed) f cdv A outer s H E) (fun cls d _ H' => E cls d H') (defBody s__law_owed) b__law_owed := by
  intro cdv A outer s H E hr hgu
  unfold b__law_owed
  exact (rss_one (rs_ret (re_bin op_fdivN oDiv_ok (re_bin op_mul oMul_ok (re_ix (re_var (i := 1)) re_int (fun _ _ => rfl)) (re_callB (cr_sum rfl) bSum_ok Z.n_sum (by decide +kernel) (ra_cons (RE.frozen (re_comp rfl sc__law_owed.nd (blkOk_by (N := ["parts", "payer", "call", "day", "part"]) (sc := (defScope s__law_owed)) (own := [("day", 3), ("part", 4)]) (by decide +kernel)) rfl (by decide) (ri_seqA (re_sliceA (re_ix (re_var (i := 0)) re_int (fun _ _ => rfl)) ro_none (ro_some (re_bin op_add4 oAddA_ok (re_var (i := 2)) re_int)))) (fun _ _ _ _ _ => (rg_tup rfl (rgs_cons (rg_name (i := 3) sc__law_owed.nd) (rgs_cons (rg_name (i := 4) sc__law_owed.nd) rgs_nil)))) (fun _ _ _ _ _ => rts_nil) (fun _ _ _ _ _ => (re_var (i := 4))))) ra_nil))) re_int)))
theorem g__law_owed (Z : Facts K mg) : DefG P w K mg base T 1 "_law_owed" (defArgs s__law_owed) (defBody s__law_owed) (defScope s__law_owed) ["parts", "payer", "call"] false F__law_owed := by
  obtain ⟨f, fd, a, b⟩ := Z.d__law_owed
  exact ⟨f, fd, a, b, def_g a sc__law_owed (r__law_owed Z)⟩
theorem r_payer_of (Z : Facts K mg) {f : Addr} : ∀ (cdv : Value) (A : Around) (outer : List PySem.Env) (s : Shared) (H : Hp) (E : XK), Room 2 (A.deeper (envOfC "payer_of" (defScope s_payer_of) s.heap.objs.size f cdv)) → A.guards = some [] →
    RSs T true (cxOf (L2.CX P w) P w K mg base ["plan", "name", "payer"] "payer_of" (defScope s_payer_of) f cdv A outer s H E) (fun cls d _ H' => E cls d H') (defBody s_payer_of) b_payer_of := by
  intro cdv A outer s H E hr hgu
  unfold b_payer_of
  exact (rss_one (rs_ret (re_comp rfl sc_payer_of.nd (blkOk_by (N := ["plan", "name", "payer"]) (sc := (defScope s_payer_of)) (own := [("payer", 2)]) (by decide +kernel)) rfl (by decide) (ri_seqA (re_prop Z.c_Calls (g_Calls_payers Z) pn_Calls_payers (hr.mono (by decide)) hgu (re_var (i := 0)))) (fun _ _ _ _ _ => (rg_name (i := 2) sc_payer_of.nd)) (fun _ _ _ _ _ => (rts_one (RW.t (rw_and (rt_val (re_isi (t := .str) (re_var (i := 1)) Z.n_isinstance Z.n_str (by decide +kernel))) (rw_and1 (rt_cmp (op_eqA (Room.units hr)) oEqA_ok (re_ix (re_var (i := 2)) re_int (fun _ _ => rfl)) (re_var (i := 1)) (nomark _))))))) (fun _ _ _ _ _ => (re_var (i := 2))))))
theorem g_payer_of (Z : Facts K mg) : DefG P w K mg base T 3 "payer_of" (defArgs s_payer_of) (defBody s_payer_of) (defScope s_payer_of) ["plan", "name"] true F_payer_of := by
  obtain ⟨f, fd, a, b⟩ := Z.d_payer_of
  exact ⟨f, fd, a, b, def_g a sc_payer_of (r_payer_of Z)⟩
theorem r_check_payer (Z : Facts K mg) {f : Addr} : ∀ (cdv : Value) (A : Around) (outer : List PySem.Env) (s : Shared) (H : Hp) (E : XK), Room 3 (A.deeper (envOfC "check_payer" (defScope s_check_payer) s.heap.objs.size f cdv)) → A.guards = some [] →
    RSs T false (cxOf (L2.CX P w) P w K mg base ["plan", "value"] "check_payer" (defScope s_check_payer) f cdv A outer s H E) (fun cls d _ H' => E cls d H') (defBody s_check_payer) b_check_payer := by
  intro cdv A outer s H E hr hgu
  unfold b_check_payer
  exact (rss_one (rs_if (rt_cmp (op_eqA (Room.units hr)) oEqA_ok (RE.frozen (re_call (g_payer_of Z) pn_payer_of (hr.mono (by decide)) hgu pass_cx (ra_cons (re_var (i := 0)) (ra_cons (re_var (i := 1)) ra_nil)))) (RE.frozen (re_lst ra_nil)) (nomark _)) (rss_one rs_never) rss_nil))
theorem g_check_payer (Z : Facts K mg) : DefG P w K mg base T 4 "check_payer" (defArgs s_check_payer) (defBody s_check_payer) (defScope s_check_payer) ["plan", "value"] false F_check_payer := by
  obtain ⟨f, fd, a, b⟩ := Z.d_check_payer
  exact ⟨f, fd, a, b, def_g a sc_check_payer (r_check_payer Z)⟩
theorem r_part_up_to (Z : Facts K mg) {f : Addr} : ∀ (cdv : Value) (A : Around) (outer : List PySem.Env) (s : Shared) (H : Hp) (E : XK), Room 0 (A.deeper (envOfC "part_up_to" (defScope s_part_up_to) s.heap.objs.size f cdv)) → A.guards = some [] →
    RSs T false (cxOf (L2.CX P w) P w K mg base ["calls", "index", "_", "part"] "part_up_to" (defScope s_part_up_to) f cdv A outer s H E) (fun cls d _ H' => E cls d H') (defBody s_part_up_to) b_part_up_to := by
  intro cdv A outer s H E hr hgu
  unfold b_part_up_to
  exact (rss_one (rs_ret (re_callB (cr_sum rfl) bSum_ok Z.n_sum (by decide +kernel) (ra_cons (RE.frozen (re_comp rfl sc_part_up_to.nd (blkOk_by (N := ["calls", "index", "_", "part"]) (sc := (defScope s_part_up_to)) (own := [("_", 2), ("part", 3)]) (by decide +kernel)) rfl (by decide) (ri_seqA (re_sliceA (re_var (i := 0)) ro_none (ro_some (re_bin op_add4 oAddA_ok (re_var (i := 1)) re_int)))) (fun _ _ _ _ _ => (rg_tup rfl (rgs_cons (rg_name (i := 2) sc_part_up_to.nd) (rgs_cons (rg_name (i := 3) sc_part_up_to.nd) rgs_nil)))) (fun _ _ _ _ _ => rts_nil) (fun _ _ _ _ _ => (re_var (i := 3))))) ra_nil))))
theorem g_part_up_to (Z : Facts K mg) : DefG P w K mg base T 1 "part_up_to" (defArgs s_part_up_to) (defBody s_part_up_to) (defScope s_part_up_to) ["calls", "index"] false F_part_up_to := by
  obtain ⟨f, fd, a, b⟩ := Z.d_part_up_to
  exact ⟨f, fd, a, b, def_g a sc_part_up_to (r_part_up_to Z)⟩
theorem r_owed_of (Z : Facts K mg) {f : Addr} : ∀ (cdv : Value) (A : Around) (outer : List PySem.Env) (s : Shared) (H : Hp) (E : XK), Room 1 (A.deeper (envOfC "owed_of" (defScope s_owed_of) s.heap.objs.size f cdv)) → A.guards = some [] →
    RSs T false (cxOf (L2.CX P w) P w K mg base ["due", "calls", "index"] "owed_of" (defScope s_owed_of) f cdv A outer s H E) (fun cls d _ H' => E cls d H') (defBody s_owed_of) b_owed_of := by
  intro cdv A outer s H E hr hgu
  unfold b_owed_of
  exact (rss_one (rs_ret (re_bin op_fdivN oDiv_ok (re_bin op_mul oMul_ok (re_var (i := 0)) (re_call (g_part_up_to Z) pn_part_up_to (hr.mono (by decide)) hgu pass_cx (ra_cons (re_var (i := 1)) (ra_cons (re_var (i := 2)) ra_nil)))) (re_glob Z.k_THOUSAND))))
theorem g_owed_of (Z : Facts K mg) : DefG P w K mg base T 2 "owed_of" (defArgs s_owed_of) (defBody s_owed_of) (defScope s_owed_of) ["due", "calls", "index"] false F_owed_of := by
  obtain ⟨f, fd, a, b⟩ := Z.d_owed_of
  exact ⟨f, fd, a, b, def_g a sc_owed_of (r_owed_of Z)⟩
theorem r_Calls_owed (Z : Facts K mg) {f : Addr} : ∀ (cdv : Value) (A : Around) (outer : List PySem.Env) (s : Shared) (H : Hp) (E : XK), Room 4 (A.deeper (envOfC "Calls.owed" (defScope s_Calls_owed) s.heap.objs.size f cdv)) → A.guards = some [] →
    RSs T false (cxOf (L2.CX P w) P w K mg base ["self", "payer", "call"] "Calls.owed" (defScope s_Calls_owed) f cdv A outer s H E) (fun cls d _ H' => E cls d H') (defBody s_Calls_owed) b_Calls_owed := by
  intro cdv A outer s H E hr hgu
  unfold b_Calls_owed
  exact (rss_cons (rs_expr (re_call (g_check_payer Z) pn_check_payer (hr.mono (by decide)) hgu pass_cx (ra_cons (re_var (i := 0)) (ra_cons (re_var (i := 1)) ra_nil))))
    (rss_cons (rs_expr (re_call (g_check_number Z) pn_check_number (hr.mono (by decide)) hgu pass_cx (ra_cons (re_var (i := 2)) (ra_cons re_int (ra_cons (re_bin op_sub oSub_ok (re_callB call_len bLen_ok Z.n_len (by decide +kernel) (ra_cons (re_prop Z.c_Calls (g_Calls_calls Z) pn_Calls_calls (hr.mono (by decide)) hgu (re_var (i := 0))) ra_nil)) re_int) ra_nil)))))
    (rss_one (rs_ret (re_call (g_owed_of Z) pn_owed_of (hr.mono (by decide)) hgu pass_cx (ra_cons (re_ix (re_ix (RE.frozen (re_call (g_payer_of Z) pn_payer_of (hr.mono (by decide)) hgu pass_cx (ra_cons (re_var (i := 0)) (ra_cons (re_var (i := 1)) ra_nil)))) re_int (fun _ _ => rfl)) re_int (fun _ _ => rfl)) (ra_cons (re_prop Z.c_Calls (g_Calls_calls Z) pn_Calls_calls (hr.mono (by decide)) hgu (re_var (i := 0))) (ra_cons (re_var (i := 2)) ra_nil))))))))
theorem g_Calls_owed (Z : Facts K mg) : MethG P w K mg base T 5 "Calls" "owed" "Calls.owed" (defArgs s_Calls_owed) (defBody s_Calls_owed) (defScope s_Calls_owed) ["self", "payer", "call"] false F_Calls_owed := by
  obtain ⟨g, fd, a, b⟩ := Z.d_Calls_owed
  exact ⟨g, fd, a, b, def_g b sc_Calls_owed (r_Calls_owed Z)⟩
theorem r_Calls___eq__ (Z : Facts K mg) {f : Addr} : ∀ (cdv : Value) (A : Around) (outer : List PySem.Env) (s : Shared) (H : Hp) (E : XK), Room 2 (A.deeper (envOfC "Calls.__eq__" (defScope s_Calls___eq__) s.heap.objs.size f cdv)) → A.guards = some [] →
    RSs T false (cxOf (L2.CX P w) P w K mg base ["self", "other"] "Calls.__eq__" (defScope s_Calls___eq__) f cdv A outer s H E) (fun cls d _ H' => E cls d H') (defBody s_Calls___eq__) b_Calls___eq__ := by
  intro cdv A outer s H E hr hgu
  unfold b_Calls___eq__
  exact (rss_one (rs_ret (re_and (re_isC Z.c_Calls Z.isf_Calls Z.gm_Calls (re_var (i := 1)) Z.n_isinstance) (re_one (re_cmp (op_eqA (Room.units hr)) oEqA_ok (re_prop Z.c_Calls (g_Calls_parts Z) pn_Calls_parts (hr.mono (by decide)) hgu (re_var (i := 0))) (re_prop Z.c_Calls (g_Calls_parts Z) pn_Calls_parts (hr.mono (by decide)) hgu (re_var (i := 1))) (nomark _))))))
theorem g_Calls___eq__ (Z : Facts K mg) : MethG P w K mg base T 3 "Calls" "__eq__" "Calls.__eq__" (defArgs s_Calls___eq__) (defBody s_Calls___eq__) (defScope s_Calls___eq__) ["self", "other"] false F_Calls___eq__ := by
  obtain ⟨g, fd, a, b⟩ := Z.d_Calls___eq__
  exact ⟨g, fd, a, b, def_g b sc_Calls___eq__ (r_Calls___eq__ Z)⟩
theorem r__law_is_equal (Z : Facts K mg) {f : Addr} : ∀ (cdv : Value) (A : Around) (outer : List PySem.Env) (s : Shared) (H : Hp) (E : XK), Room 4 (A.deeper (envOfC "_law_is_equal" (defScope s__law_is_equal) s.heap.objs.size f cdv)) → A.guards = some [] →
    RSs T false (cxOf (L2.CX P w) P w K mg base ["one", "two", "due"] "_law_is_equal" (defScope s__law_is_equal) f cdv A outer s H E) (fun cls d _ H' => E cls d H') (defBody s__law_is_equal) b__law_is_equal := by
  intro cdv A outer s H E hr hgu
  unfold b__law_is_equal
  exact (rss_one (rs_ret (re_cmp (op_eqA (Room.units hr)) oEqA_ok (re_callB (call_repr hgu (Room.units hr)) bRepr_ok Z.n_repr (by decide +kernel) (ra_cons (RE.frozen (re_lst (ra_cons (re_cmp (op_eqI Z.e_Calls (g_Calls___eq__ Z) pn_Calls___eq__ (hr.mono (by decide)) hgu) oEqI_ok (re_var (i := 0)) (re_var (i := 1)) (nomark _)) (ra_cons (re_cmp (op_eqI Z.e_Calls (g_Calls___eq__ Z) pn_Calls___eq__ (hr.mono (by decide)) hgu) oEqI_ok (re_var (i := 1)) (re_var (i := 0)) (nomark _)) (ra_cons (re_cmp (op_neI Z.c_Calls Z.e_Calls (g_Calls___eq__ Z) pn_Calls___eq__ (hr.mono (by decide)) hgu) oEqI_ok (re_var (i := 0)) (re_var (i := 1)) (nomark _)) (ra_cons (re_cmp (op_neI Z.c_Calls Z.e_Calls (g_Calls___eq__ Z) pn_Calls___eq__ (hr.mono (by decide)) hgu) oEqI_ok (re_var (i := 1)) (re_var (i := 0)) (nomark _)) ra_nil)))))) ra_nil)) (re_callB (call_repr hgu (Room.units hr)) bRepr_ok Z.n_repr (by decide +kernel) (ra_cons (RE.frozen (re_lst (ra_cons (re_var (i := 2)) (ra_cons (re_var (i := 2)) (ra_cons (re_not (re_var (i := 2))) (ra_cons (re_not (re_var (i := 2))) ra_nil)))))) ra_nil)) (nomark _))))
theorem g__law_is_equal (Z : Facts K mg) : DefG P w K mg base T 5 "_law_is_equal" (defArgs s__law_is_equal) (defBody s__law_is_equal) (defScope s__law_is_equal) ["one", "two", "due"] false F__law_is_equal := by
  obtain ⟨f, fd, a, b⟩ := Z.d__law_is_equal
  exact ⟨f, fd, a, b, def_g a sc__law_is_equal (r__law_is_equal Z)⟩
theorem r__law_right (Z : Facts K mg) {f : Addr} : ∀ (cdv : Value) (A : Around) (outer : List PySem.Env) (s : Shared) (H : Hp) (E : XK), Room 8 (A.deeper (envOfC "_law_right" (defScope s__law_right) s.heap.objs.size f cdv)) → A.guards = some [] →
    RSs T false (cxOf (L2.CX P w) P w K mg base ["urn", "turn", "sizes", "top", "parts", "payers", "calls", "outlays", "reserve", "bounds", "one", "two", "other", "plan", "told", "payer", "k", "due", "mate", "thing"] "_law_right" (defScope s__law_right) f cdv A outer s H E) (fun cls d _ H' => E cls d H') (defBody s__law_right) b__law_right := by
  intro cdv A outer s H E hr hgu
  unfold b__law_right
  exact (rss_cons (rs_for own_cx rfl (ri_range1 (ra_cons re_int ra_nil) Z.n_range) (rg_name (i := 1) sc__law_right.nd) (rss_cons (rs_par (i := 2) (j := 3) rfl sc__law_right.nd (ra_cons (re_call (g__law_of Z) pn__law_of (hr.mono (by decide)) hgu pass_cx (ra_cons (re_var (i := 0)) (ra_cons (RE.frozen (re_lst (ra_cons (re_tup (ra_cons re_int (ra_cons re_int (ra_cons re_int ra_nil)))) (ra_cons (re_tup (ra_cons re_int (ra_cons re_int (ra_cons re_int ra_nil)))) (ra_cons (re_tup (ra_cons re_int (ra_cons re_int (ra_cons re_int ra_nil)))) ra_nil))))) ra_nil))) (ra_cons (re_call (g__law_of Z) pn__law_of (hr.mono (by decide)) hgu pass_cx (ra_cons (re_var (i := 0)) (ra_cons (RE.frozen (re_lst (ra_cons re_int (ra_cons re_int (ra_cons (re_bin op_pow oPow_ok re_int re_int) ra_nil))))) ra_nil))) ra_nil)))
    (rss_cons (rs_set (i := 4) sc__law_right.nd (re_call (g__law_bounds Z) pn__law_bounds (hr.mono (by decide)) hgu pass_cx (ra_cons (re_var (i := 0)) (ra_cons (re_call (g__law_plan Z) pn__law_plan (hr.mono (by decide)) hgu pass_cx (ra_cons (re_var (i := 0)) (ra_cons (re_var (i := 2)) (ra_cons (re_var (i := 3)) ra_nil)))) (ra_cons (re_tup (ra_cons re_int (ra_cons re_int (ra_cons re_int (ra_cons re_int ra_nil))))) ra_nil)))))
    (rss_cons (rs_asg (re_var (i := 4)) (rg_tup rfl (rgs_cons (rg_name (i := 5) sc__law_right.nd) (rgs_cons (rg_name (i := 6) sc__law_right.nd) (rgs_cons (rg_name (i := 7) sc__law_right.nd) (rgs_cons (rg_name (i := 8) sc__law_right.nd) (rgs_cons (rg_name (i := 9) sc__law_right.nd) rgs_nil)))))))
    (rss_cons (rs_set (i := 10) sc__law_right.nd (re_make madeI_ok Z.c_Calls (g_Calls___init__ Z) pn_Calls___init__ (hr.mono (by decide)) hgu pass_cx (ra_cons (re_var (i := 5)) (ra_cons (re_var (i := 6)) (ra_cons (re_var (i := 7)) (ra_cons (re_var (i := 8)) (ra_cons (re_var (i := 9)) ra_nil)))))))
    (rss_cons (rs_set (i := 11) sc__law_right.nd (re_makeK madeI_ok Z.c_Calls (g_Calls___init__ Z) kn0_b kn0_r kn0_v kn0_l (hr.mono (by decide)) hgu pass_cx (rk_cons (re_var (i := 9)) (rk_cons (re_var (i := 8)) (rk_cons (re_var (i := 7)) (rk_cons (re_var (i := 6)) (rk_cons (re_var (i := 5)) rk_nil)))))))
    (rss_cons (rs_set (i := 12) sc__law_right.nd (re_call (g__law_bent Z) pn__law_bent (hr.mono (by decide)) hgu pass_cx (ra_cons (re_var (i := 0)) (ra_cons (re_var (i := 4)) ra_nil))))
    (rss_cons (rs_for own_cx rfl (ri_seqA (re_tup (ra_cons (re_var (i := 10)) (ra_cons (re_var (i := 11)) ra_nil)))) (rg_name (i := 13) sc__law_right.nd) (rss_cons (rs_set (i := 14) sc__law_right.nd (RE.frozen (re_lst (ra_cons (re_prop Z.c_Calls (g_Calls_payers Z) pn_Calls_payers (hr.mono (by decide)) hgu (re_var (i := 13))) (ra_cons (re_prop Z.c_Calls (g_Calls_calls Z) pn_Calls_calls (hr.mono (by decide)) hgu (re_var (i := 13))) (ra_cons (re_prop Z.c_Calls (g_Calls_outlays Z) pn_Calls_outlays (hr.mono (by decide)) hgu (re_var (i := 13))) (ra_cons (re_prop Z.c_Calls (g_Calls_reserve Z) pn_Calls_reserve (hr.mono (by decide)) hgu (re_var (i := 13))) (ra_cons (re_prop Z.c_Calls (g_Calls_bounds Z) pn_Calls_bounds (hr.mono (by decide)) hgu (re_var (i := 13))) (ra_cons (re_prop Z.c_Calls (g_Calls_parts Z) pn_Calls_parts (hr.mono (by decide)) hgu (re_var (i := 13))) ra_nil)))))))))
    (rss_one (rs_if (RW.t (rw_or (rt_cmp (op_neA (Room.units hr)) oNeA_ok (re_callB (call_repr hgu (Room.units hr)) bRepr_ok Z.n_repr (by decide +kernel) (ra_cons (re_var (i := 14)) ra_nil)) (re_callB (call_repr hgu (Room.units hr)) bRepr_ok Z.n_repr (by decide +kernel) (ra_cons (RE.frozen (re_lst (ra_cons (re_var (i := 5)) (ra_cons (re_var (i := 6)) (ra_cons (re_var (i := 7)) (ra_cons (re_var (i := 8)) (ra_cons (re_var (i := 9)) (ra_cons (re_var (i := 4)) ra_nil)))))))) ra_nil)) (nomark _)) (rw_or1 (rt_not (rt_ins Z.na_Calls___bool__ Z.na_Calls___len__ (re_var (i := 13))))))) (rss_one (rs_ret re_bl)) rss_nil))))
    (rss_cons (rs_for own_cx rfl (ri_seqA (re_var (i := 5))) (rg_name (i := 15) sc__law_right.nd) (rss_one (rs_for own_cx rfl (ri_range1 (ra_cons (re_callB call_len bLen_ok Z.n_len (by decide +kernel) (ra_cons (re_var (i := 6)) ra_nil)) ra_nil) Z.n_range) (rg_name (i := 16) sc__law_right.nd) (rss_cons (rs_set (i := 17) sc__law_right.nd (re_call (g__law_owed Z) pn__law_owed (hr.mono (by decide)) hgu pass_cx (ra_cons (re_var (i := 4)) (ra_cons (re_var (i := 15)) (ra_cons (re_var (i := 16)) ra_nil)))))
    (rss_one (rs_if (rt_cmp (op_neA (Room.units hr)) oNeA_ok (re_callB (call_repr hgu (Room.units hr)) bRepr_ok Z.n_repr (by decide +kernel) (ra_cons (RE.frozen (re_lst (ra_cons (re_meth Z.c_Calls (g_Calls_owed Z) pn_Calls_owed (hr.mono (by decide)) hgu pass_cx (re_var (i := 10)) (ra_cons (re_ix (re_var (i := 15)) re_int (fun _ _ => rfl)) (ra_cons (re_var (i := 16)) ra_nil))) (ra_cons (re_methK0 Z.c_Calls (g_Calls_owed Z) kn1_b kn1_r kn1_v kn1_l (hr.mono (by decide)) hgu pass_cx (re_var (i := 10)) (rk_cons (re_var (i := 16)) (rk_cons (re_ix (re_var (i := 15)) re_int (fun _ _ => rfl)) rk_nil))) ra_nil)))) ra_nil)) (re_callB (call_repr hgu (Room.units hr)) bRepr_ok Z.n_repr (by decide +kernel) (ra_cons (RE.frozen (re_lst (ra_cons (re_var (i := 17)) (ra_cons (re_var (i := 17)) ra_nil)))) ra_nil)) (nomark _)) (rss_one (rs_ret re_bl)) rss_nil))))))
    (rss_cons (rs_set (i := 18) sc__law_right.nd (re_make madeI_ok Z.c_Calls (g_Calls___init__ Z) pn_Calls___init__ (hr.mono (by decide)) hgu pass_cx (ra_cons (re_ix (re_var (i := 12)) re_int (fun _ _ => rfl)) (ra_cons (re_ix (re_var (i := 12)) re_int (fun _ _ => rfl)) (ra_cons (re_ix (re_var (i := 12)) re_int (fun _ _ => rfl)) (ra_cons (re_ix (re_var (i := 12)) re_int (fun _ _ => rfl)) (ra_cons (re_ix (re_var (i := 12)) re_int (fun _ _ => rfl)) ra_nil)))))))
    (rss_one (rs_for own_cx rfl (ri_seqA (re_tup (ra_cons (re_tup (ra_cons (re_var (i := 11)) (ra_cons re_bl ra_nil))) (ra_cons (re_tup (ra_cons (re_var (i := 10)) (ra_cons re_bl ra_nil))) (ra_cons (re_tup (ra_cons (re_var (i := 18)) (ra_cons (re_cmp (op_eqA (Room.units hr)) oEqA_ok (re_var (i := 12)) (re_var (i := 4)) (nomark _)) ra_nil))) (ra_cons (re_tup (ra_cons (re_var (i := 4)) (ra_cons re_bl ra_nil))) (ra_cons (re_tup (ra_cons re_non (ra_cons re_bl ra_nil))) ra_nil))))))) (rg_tup rfl (rgs_cons (rg_name (i := 19) sc__law_right.nd) (rgs_cons (rg_name (i := 17) sc__law_right.nd) rgs_nil))) (rss_one (rs_if (rt_not (rt_val (re_call (g__law_is_equal Z) pn__law_is_equal (hr.mono (by decide)) hgu pass_cx (ra_cons (re_var (i := 10)) (ra_cons (re_var (i := 19)) (ra_cons (re_var (i := 17)) ra_nil)))))) (rss_one (rs_ret re_bl)) rss_nil))))))))))))))
    (rss_one (rs_ret re_bl)))
theorem g__law_right (Z : Facts K mg) : DefG P w K mg base T 9 "_law_right" (defArgs s__law_right) (defBody s__law_right) (defScope s__law_right) ["urn"] false F__law_right := by
  obtain ⟨f, fd, a, b⟩ := Z.d__law_right
  exact ⟨f, fd, a, b, def_g a sc__law_right (r__law_right Z)⟩
theorem r__law_urn (Z : Facts K mg) {f : Addr} : ∀ (cdv : Value) (A : Around) (outer : List PySem.Env) (s : Shared) (H : Hp) (E : XK), Room 0 (A.deeper (envOfC "_law_urn" (defScope s__law_urn) s.heap.objs.size f cdv)) → A.guards = some [] →
    RSs T true (cxOf (L2.CX P w) P w K mg base ["script", "lap", "mixed", "cell", "own"] "_law_urn" (defScope s__law_urn) f cdv A outer s H E) (fun cls d _ H' => E cls d H') (defBody s__law_urn) b__law_urn := by
  intro cdv A outer s H E hr hgu
  unfold b__law_urn
  exact (rss_cons (rs_set (i := 2) sc__law_urn.nd (re_bin op_add4 oAddA_ok re_int (re_bin op_mul oMul_ok re_int (re_var (i := 1)))))
    (rss_cons (rs_for own_cx rfl (ri_seqA (RE.frozen (re_sliceL (re_var (i := 0)) ro_none (ro_some re_int)))) (rg_name (i := 3) sc__law_urn.nd) (rss_one (rs_set (i := 2) sc__law_urn.nd (re_bin op_modN oMod_ok (re_callTy call_int1 bInt_ok Z.n_int (by decide +kernel) (ra_cons (re_bin op_add4 oAddA_ok (re_bin op_add4 oAddA_ok (re_bin op_mul oMul_ok (re_var (i := 2)) re_int) (re_bin op_mul oMul_ok (re_bin op_modN oMod_ok (re_callTy call_int1 bInt_ok Z.n_int (by decide +kernel) (ra_cons (re_var (i := 3)) ra_nil)) re_int) re_int)) re_int) ra_nil)) re_int))))
    (rss_cons (rs_set (i := 4) sc__law_urn.nd (re_if (rt_cmp (op_ltA (Room.units0 hr)) oLtA_ok (re_var (i := 1)) (re_callB call_len bLen_ok Z.n_len (by decide +kernel) (ra_cons (re_var (i := 0)) ra_nil)) (nomark _)) (re_callTy call_int1 bInt_ok Z.n_int (by decide +kernel) (ra_cons (re_ix (re_var (i := 0)) (re_var (i := 1)) (fun _ _ => rfl)) ra_nil)) re_int))
    (rss_cons (rs_set (i := 2) sc__law_urn.nd (re_bin op_modN oMod_ok (re_callTy call_int1 bInt_ok Z.n_int (by decide +kernel) (ra_cons (re_bin op_add4 oAddA_ok (re_bin op_add4 oAddA_ok (re_bin op_mul oMul_ok (re_var (i := 2)) re_int) (re_bin op_mul oMul_ok (re_bin op_modN oMod_ok (re_callTy call_int1 bInt_ok Z.n_int (by decide +kernel) (ra_cons (re_var (i := 4)) ra_nil)) re_int) re_int)) re_int) ra_nil)) re_int))
    (rss_one (rs_ret (re_lst (ra_cons (re_if (RW.t (rw_or (rt_cmp (op_ltA (Room.units0 hr)) oLtA_ok (re_var (i := 4)) re_int (nomark _)) (rw_or1 (rt_cmp op_ge oGe_ok (re_var (i := 4)) (re_bin op_pow oPow_ok re_int re_int) (nomark _))))) (re_callB call_abs bAbs_ok Z.n_abs (by decide +kernel) (ra_cons (re_var (i := 4)) ra_nil)) re_int) (ra_cons (re_var (i := 2)) (ra_cons re_int ra_nil))))))))))
theorem g__law_urn (Z : Facts K mg) : DefG P w K mg base T 1 "_law_urn" (defArgs s__law_urn) (defBody s__law_urn) (defScope s__law_urn) ["script", "lap"] true F__law_urn := by
  obtain ⟨f, fd, a, b⟩ := Z.d__law_urn
  exact ⟨f, fd, a, b, def_g a sc__law_urn (r__law_urn Z)⟩
theorem r_law (Z : Facts K mg) {f : Addr} : ∀ (cdv : Value) (A : Around) (outer : List PySem.Env) (s : Shared) (H : Hp) (E : XK), Room 9 (A.deeper (envOfC "law" (defScope s_law) s.heap.objs.size f cdv)) → A.guards = some [] →
    RSs T false (cxOf (L2.CX P w) P w K mg base ["script", "lap"] "law" (defScope s_law) f cdv A outer s H E) (fun cls d _ H' => E cls d H') (defBody s_law) b_law := by
  intro cdv A outer s H E hr hgu
  unfold b_law
  exact (rss_one (rs_ret (re_callB (cr_all rfl) bAll_ok Z.n_all (by decide +kernel) (ra_cons (RE.frozen (re_comp rfl sc_law.nd (blkOk_by (N := ["script", "lap"]) (sc := (defScope s_law)) (own := [("lap", 1)]) (by decide +kernel)) rfl (by decide) (ri_range1 (ra_cons (re_callB (call_max2 rfl) bMax2_ok Z.n_max (by decide +kernel) (ra_cons re_int (ra_cons (re_callB (call_min2 rfl) bMin2_ok Z.n_min (by decide +kernel) (ra_cons (re_callB call_len bLen_ok Z.n_len (by decide +kernel) (ra_cons (re_var (i := 0)) ra_nil)) (ra_cons re_int ra_nil))) ra_nil))) ra_nil) Z.n_range) (fun _ _ _ _ _ => (rg_name (i := 1) sc_law.nd)) (fun _ _ _ _ _ => rts_nil) (fun _ _ _ _ _ => (RE.scope (re_call (g__law_right Z) pn__law_right (hr.mono (by decide)) hgu pass_blk (ra_cons (RE.alloc (re_call (g__law_urn Z) pn__law_urn (hr.mono (by decide)) hgu pass_blk (ra_cons (re_var (i := 0)) (ra_cons (re_var (i := 1)) ra_nil)))) ra_nil)))))) ra_nil))))
theorem g_law (Z : Facts K mg) : DefG P w K mg base T 10 "law" (defArgs s_law) (defBody s_law) (defScope s_law) ["script"] false F_law := by
  obtain ⟨f, fd, a, b⟩ := Z.d_law
  exact ⟨f, fd, a, b, def_g a sc_law (r_law Z)⟩
end
end LW
set_option Elab.async false
set_option linter.all false
set_option maxRecDepth 100000
set_option maxHeartbeats 0
namespace LW
open PySem L2 Evl PySem.Spec PyProof.Rows PF
theorem facts_of {K : PySem.W.Frag} {h : Heap} {mg : Str → Option Value} (X : K.In h) (G : h.Ns mainGlobals mg) (c : He.SaysD fas fns K) (cm : exb K = true) (cp : He5.SaysA [] fnp K) : Facts K mg := by
  refine { n_abs := ?n_abs, n_all := ?n_all, n_any := ?n_any, n_bool := ?n_bool, n_divmod := ?n_divmod, n_enumerate := ?n_enumerate, n_int := ?n_int, n_isinstance := ?n_isinstance, n_len := ?n_len, n_max := ?n_max, n_min := ?n_min, n_range := ?n_range, n_repr := ?n_repr, n_sorted := ?n_sorted, n_str := ?n_str, n_sum := ?n_sum, n_tuple := ?n_tuple, n_zip := ?n_zip, k_ALL_PARTS := ?k_ALL_PARTS, k_MOST_BOUNDS := ?k_MOST_BOUNDS, k_MOST_CALLS := ?k_MOST_CALLS, k_MOST_DAY := ?k_MOST_DAY, k_MOST_DUE := ?k_MOST_DUE, k_MOST_IN_NAME := ?k_MOST_IN_NAME, k_MOST_OFFICES := ?k_MOST_OFFICES, k_MOST_OUTLAYS := ?k_MOST_OUTLAYS, k_MOST_OUTLAY_DAY := ?k_MOST_OUTLAY_DAY, k_MOST_PAYERS := ?k_MOST_PAYERS, k_MOST_UNITS := ?k_MOST_UNITS, k_SMALL_LETTERS := ?k_SMALL_LETTERS, k_THOUSAND := ?k_THOUSAND, k_WORDS := ?k_WORDS, gm_Calls := ?gm_Calls, gm_is_call := ?gm_is_call, gm_is_outlay := ?gm_is_outlay, gm_is_payer := ?gm_is_payer, c_Calls := ?c_Calls, isf_Calls := ?isf_Calls, e_Calls := ?e_Calls, na_Calls___bool__ := ?na_Calls___bool__, na_Calls___len__ := ?na_Calls___len__, na_Calls_told := ?na_Calls_told, d_part_up_to := ?d_part_up_to, d_owed_of := ?d_owed_of, d_payer_of := ?d_payer_of, d_is_whole := ?d_is_whole, d_is_number := ?d_is_number, d_check_number := ?d_check_number, d_is_tuple_of := ?d_is_tuple_of, d_wrong_at := ?d_wrong_at, d_wrong_from_one := ?d_wrong_from_one, d_is_letters := ?d_is_letters, d_is_name := ?d_is_name, d_is_payer := ?d_is_payer, d_is_call := ?d_is_call, d_is_outlay := ?d_is_outlay, d_are_bounds := ?d_are_bounds, d_check_payers := ?d_check_payers, d_check_calls := ?d_check_calls, d_check_outlays := ?d_check_outlays, d_Calls___init__ := ?d_Calls___init__, d_Calls_payers := ?d_Calls_payers, d_Calls_calls := ?d_Calls_calls, d_Calls_outlays := ?d_Calls_outlays, d_Calls_reserve := ?d_Calls_reserve, d_Calls_bounds := ?d_Calls_bounds, d_Calls_parts := ?d_Calls_parts, d_Calls___eq__ := ?d_Calls___eq__, d_Calls_owed := ?d_Calls_owed, d_check_payer := ?d_check_payer, d__law_urn := ?d__law_urn, d__law_take := ?d__law_take, d__law_of := ?d__law_of, d__law_names := ?d__law_names, d__law_plan := ?d__law_plan, d__law_bounds := ?d__law_bounds, d__law_owed := ?d__law_owed, d__law_bent := ?d__law_bent, d__law_is_equal := ?d__law_is_equal, d__law_right := ?d__law_right, d_law := ?d_law }
  case n_abs => exact He.free_ok X G (c.fact 30 (f := .free "abs") rfl)
  case n_all => exact He.free_ok X G (c.fact 31 (f := .free "all") rfl)
  case n_any => exact He.free_ok X G (c.fact 32 (f := .free "any") rfl)
  case n_bool => exact He.free_ok X G (c.fact 33 (f := .free "bool") rfl)
  case n_divmod => exact He.free_ok X G (c.fact 34 (f := .free "divmod") rfl)
  case n_enumerate => exact He.free_ok X G (c.fact 35 (f := .free "enumerate") rfl)
  case n_int => exact He.free_ok X G (c.fact 36 (f := .free "int") rfl)
  case n_isinstance => exact He.free_ok X G (c.fact 37 (f := .free "isinstance") rfl)
  case n_len => exact He.free_ok X G (c.fact 38 (f := .free "len") rfl)
  case n_max => exact He.free_ok X G (c.fact 39 (f := .free "max") rfl)
  case n_min => exact He.free_ok X G (c.fact 40 (f := .free "min") rfl)
  case n_range => exact He.free_ok X G (c.fact 41 (f := .free "range") rfl)
  case n_repr => exact He.free_ok X G (c.fact 42 (f := .free "repr") rfl)
  case n_sorted => exact He.free_ok X G (c.fact 43 (f := .free "sorted") rfl)
  case n_str => exact He.free_ok X G (c.fact 44 (f := .free "str") rfl)
  case n_sum => exact He.free_ok X G (c.fact 45 (f := .free "sum") rfl)
  case n_tuple => exact He.free_ok X G (c.fact 46 (f := .free "tuple") rfl)
  case n_zip => exact He.free_ok X G (c.fact 47 (f := .free "zip") rfl)
  case k_ALL_PARTS => exact globInt (He.int_ok X G (c.fact 48 (f := .int "ALL_PARTS" 1000) rfl))
  case k_MOST_BOUNDS => exact globTup (cs := [.int 6, .int 9, .int 3, .int 9]) (He.glo_ok X G (c.fact 49 (f := .glo "MOST_BOUNDS") rfl)) (exb_at cm 0 rfl)
  case k_MOST_CALLS => exact globInt (He.int_ok X G (c.fact 50 (f := .int "MOST_CALLS" 8) rfl))
  case k_MOST_DAY => exact globInt (He.int_ok X G (c.fact 51 (f := .int "MOST_DAY" 60) rfl))
  case k_MOST_DUE => exact globInt (He.int_ok X G (c.fact 52 (f := .int "MOST_DUE" 1000000) rfl))
  case k_MOST_IN_NAME => exact globInt (He.int_ok X G (c.fact 53 (f := .int "MOST_IN_NAME" 8) rfl))
  case k_MOST_OFFICES => exact globInt (He.int_ok X G (c.fact 54 (f := .int "MOST_OFFICES" 4) rfl))
  case k_MOST_OUTLAYS => exact globInt (He.int_ok X G (c.fact 55 (f := .int "MOST_OUTLAYS" 8) rfl))
  case k_MOST_OUTLAY_DAY => exact globInt (He.int_ok X G (c.fact 56 (f := .int "MOST_OUTLAY_DAY" 90) rfl))
  case k_MOST_PAYERS => exact globInt (He.int_ok X G (c.fact 57 (f := .int "MOST_PAYERS" 12) rfl))
  case k_MOST_UNITS => exact globInt (He.int_ok X G (c.fact 58 (f := .int "MOST_UNITS" 10000000) rfl))
  case k_SMALL_LETTERS => exact globStr (He.str_ok X G (c.fact 59 (f := .str "SMALL_LETTERS" "abcdefghijklmnopqrstuvwxyz") rfl))
  case k_THOUSAND => exact globInt (He.int_ok X G (c.fact 60 (f := .int "THOUSAND" 1000) rfl))
  case k_WORDS => exact globTup (cs := [.str "all", .str "any", .str "back", .str "cannot", .str "close", .str "day", .str "fixed", .str "gives", .str "goal", .str "hear", .str "match", .str "may", .str "met", .str "none", .str "office", .str "person", .str "some", .str "sum", .str "sure", .str "terms", .str "with"]) (He.glo_ok X G (c.fact 61 (f := .glo "WORDS") rfl)) (exb_at cm 1 rfl)
  case gm_Calls => exact He.glo_ok X G (c.fact 62 (f := .glo "Calls") rfl)
  case gm_is_call => exact He.glo_ok X G (c.fact 12 (f := .glo "is_call") rfl)
  case gm_is_outlay => exact He.glo_ok X G (c.fact 13 (f := .glo "is_outlay") rfl)
  case gm_is_payer => exact He.glo_ok X G (c.fact 11 (f := .glo "is_payer") rfl)
  case c_Calls => exact clsI_of (exb_at cm 2 rfl)
  case isf_Calls => exact isF_of (exb_at cm 3 rfl)
  case e_Calls => exact cmpI_of (exb_at cm 4 rfl)
  case na_Calls___bool__ => exact He.noat_ok (c.fact 66 (f := .noat "Calls" "__bool__") rfl)
  case na_Calls___len__ => exact He.noat_ok (c.fact 67 (f := .noat "Calls" "__len__") rfl)
  case na_Calls_told => exact He.noat_ok (c.fact 68 (f := .noat "Calls" "told") rfl)
  case d_part_up_to =>
    obtain ⟨fd, FD⟩ := c.def_ 0 (d := df_part_up_to) rfl
    exact ⟨_, fd, FD, He.glo_ok X G (c.fact 0 (f := .glo "part_up_to") rfl)⟩
  case d_owed_of =>
    obtain ⟨fd, FD⟩ := c.def_ 1 (d := df_owed_of) rfl
    exact ⟨_, fd, FD, He.glo_ok X G (c.fact 1 (f := .glo "owed_of") rfl)⟩
  case d_payer_of =>
    obtain ⟨fd, FD⟩ := c.def_ 2 (d := df_payer_of) rfl
    exact ⟨_, fd, FD, He.glo_ok X G (c.fact 2 (f := .glo "payer_of") rfl)⟩
  case d_is_whole =>
    obtain ⟨fd, FD⟩ := c.def_ 3 (d := df_is_whole) rfl
    exact ⟨_, fd, FD, He.glo_ok X G (c.fact 3 (f := .glo "is_whole") rfl)⟩
  case d_is_number =>
    obtain ⟨fd, FD⟩ := c.def_ 4 (d := df_is_number) rfl
    exact ⟨_, fd, FD, He.glo_ok X G (c.fact 4 (f := .glo "is_number") rfl)⟩
  case d_check_number =>
    obtain ⟨fd, FD⟩ := c.def_ 5 (d := df_check_number) rfl
    exact ⟨_, fd, FD, He.glo_ok X G (c.fact 5 (f := .glo "check_number") rfl)⟩
  case d_is_tuple_of =>
    obtain ⟨fd, FD⟩ := c.def_ 6 (d := df_is_tuple_of) rfl
    exact ⟨_, fd, FD, He.glo_ok X G (c.fact 6 (f := .glo "is_tuple_of") rfl)⟩
  case d_wrong_at =>
    obtain ⟨fd, FD⟩ := c.def_ 7 (d := df_wrong_at) rfl
    exact ⟨_, fd, FD, He.glo_ok X G (c.fact 7 (f := .glo "wrong_at") rfl)⟩
  case d_wrong_from_one =>
    obtain ⟨fd, FD⟩ := c.def_ 8 (d := df_wrong_from_one) rfl
    exact ⟨_, fd, FD, He.glo_ok X G (c.fact 8 (f := .glo "wrong_from_one") rfl)⟩
  case d_is_letters =>
    obtain ⟨fd, FD⟩ := c.def_ 9 (d := df_is_letters) rfl
    exact ⟨_, fd, FD, He.glo_ok X G (c.fact 9 (f := .glo "is_letters") rfl)⟩
  case d_is_name =>
    obtain ⟨fd, FD⟩ := c.def_ 10 (d := df_is_name) rfl
    exact ⟨_, fd, FD, He.glo_ok X G (c.fact 10 (f := .glo "is_name") rfl)⟩
  case d_is_payer =>
    obtain ⟨fd, FD⟩ := c.def_ 11 (d := df_is_payer) rfl
    exact ⟨_, fd, FD, He.glo_ok X G (c.fact 11 (f := .glo "is_payer") rfl)⟩
  case d_is_call =>
    obtain ⟨fd, FD⟩ := c.def_ 12 (d := df_is_call) rfl
    exact ⟨_, fd, FD, He.glo_ok X G (c.fact 12 (f := .glo "is_call") rfl)⟩
  case d_is_outlay =>
    obtain ⟨fd, FD⟩ := c.def_ 13 (d := df_is_outlay) rfl
    exact ⟨_, fd, FD, He.glo_ok X G (c.fact 13 (f := .glo "is_outlay") rfl)⟩
  case d_are_bounds =>
    obtain ⟨fd, FD⟩ := c.def_ 14 (d := df_are_bounds) rfl
    exact ⟨_, fd, FD, He.glo_ok X G (c.fact 14 (f := .glo "are_bounds") rfl)⟩
  case d_check_payers =>
    obtain ⟨fd, FD⟩ := c.def_ 15 (d := df_check_payers) rfl
    exact ⟨_, fd, FD, He.glo_ok X G (c.fact 15 (f := .glo "check_payers") rfl)⟩
  case d_check_calls =>
    obtain ⟨fd, FD⟩ := c.def_ 16 (d := df_check_calls) rfl
    exact ⟨_, fd, FD, He.glo_ok X G (c.fact 16 (f := .glo "check_calls") rfl)⟩
  case d_check_outlays =>
    obtain ⟨fd, FD⟩ := c.def_ 17 (d := df_check_outlays) rfl
    exact ⟨_, fd, FD, He.glo_ok X G (c.fact 17 (f := .glo "check_outlays") rfl)⟩
  case d_Calls___init__ =>
    obtain ⟨fd, FD⟩ := c.def_ 18 (d := df_Calls___init__) rfl
    exact ⟨_, fd, He.mkr_ok (c.fact 63 (f := .mkr "Calls") rfl), He.glo_ok X G (c.fact 62 (f := .glo "Calls") rfl), FD⟩
  case d_Calls___eq__ =>
    obtain ⟨fd, FD⟩ := c.def_ 19 (d := df_Calls___eq__) rfl
    exact ⟨_, fd, He.meth_ok (c.fact 64 (f := .meth "Calls" "__eq__") rfl), FD⟩
  case d_Calls_owed =>
    obtain ⟨fd, FD⟩ := c.def_ 20 (d := df_Calls_owed) rfl
    exact ⟨_, fd, He.meth_ok (c.fact 65 (f := .meth "Calls" "owed") rfl), FD⟩
  case d_check_payer =>
    obtain ⟨fd, FD⟩ := c.def_ 21 (d := df_check_payer) rfl
    exact ⟨_, fd, FD, He.glo_ok X G (c.fact 18 (f := .glo "check_payer") rfl)⟩
  case d__law_urn =>
    obtain ⟨fd, FD⟩ := c.def_ 22 (d := df__law_urn) rfl
    exact ⟨_, fd, FD, He.glo_ok X G (c.fact 19 (f := .glo "_law_urn") rfl)⟩
  case d__law_take =>
    obtain ⟨fd, FD⟩ := c.def_ 23 (d := df__law_take) rfl
    exact ⟨_, fd, FD, He.glo_ok X G (c.fact 20 (f := .glo "_law_take") rfl)⟩
  case d__law_of =>
    obtain ⟨fd, FD⟩ := c.def_ 24 (d := df__law_of) rfl
    exact ⟨_, fd, FD, He.glo_ok X G (c.fact 21 (f := .glo "_law_of") rfl)⟩
  case d__law_names =>
    obtain ⟨fd, FD⟩ := c.def_ 25 (d := df__law_names) rfl
    exact ⟨_, fd, FD, He.glo_ok X G (c.fact 22 (f := .glo "_law_names") rfl)⟩
  case d__law_plan =>
    obtain ⟨fd, FD⟩ := c.def_ 26 (d := df__law_plan) rfl
    exact ⟨_, fd, FD, He.glo_ok X G (c.fact 23 (f := .glo "_law_plan") rfl)⟩
  case d__law_bounds =>
    obtain ⟨fd, FD⟩ := c.def_ 27 (d := df__law_bounds) rfl
    exact ⟨_, fd, FD, He.glo_ok X G (c.fact 24 (f := .glo "_law_bounds") rfl)⟩
  case d__law_owed =>
    obtain ⟨fd, FD⟩ := c.def_ 28 (d := df__law_owed) rfl
    exact ⟨_, fd, FD, He.glo_ok X G (c.fact 25 (f := .glo "_law_owed") rfl)⟩
  case d__law_bent =>
    obtain ⟨fd, FD⟩ := c.def_ 29 (d := df__law_bent) rfl
    exact ⟨_, fd, FD, He.glo_ok X G (c.fact 26 (f := .glo "_law_bent") rfl)⟩
  case d__law_is_equal =>
    obtain ⟨fd, FD⟩ := c.def_ 30 (d := df__law_is_equal) rfl
    exact ⟨_, fd, FD, He.glo_ok X G (c.fact 27 (f := .glo "_law_is_equal") rfl)⟩
  case d__law_right =>
    obtain ⟨fd, FD⟩ := c.def_ 31 (d := df__law_right) rfl
    exact ⟨_, fd, FD, He.glo_ok X G (c.fact 28 (f := .glo "_law_right") rfl)⟩
  case d_law =>
    obtain ⟨fd, FD⟩ := c.def_ 32 (d := df_law) rfl
    exact ⟨_, fd, FD, He.glo_ok X G (c.fact 29 (f := .glo "law") rfl)⟩
  case d_Calls_payers =>
    obtain ⟨fd, FD⟩ := cp.def_ 0 (d := df_Calls_payers) rfl
    obtain ⟨p, hp⟩ := prop_of (exb_at cm 5 rfl)
    exact ⟨p, _, fd, hp, FD⟩
  case d_Calls_calls =>
    obtain ⟨fd, FD⟩ := cp.def_ 1 (d := df_Calls_calls) rfl
    obtain ⟨p, hp⟩ := prop_of (exb_at cm 6 rfl)
    exact ⟨p, _, fd, hp, FD⟩
  case d_Calls_outlays =>
    obtain ⟨fd, FD⟩ := cp.def_ 2 (d := df_Calls_outlays) rfl
    obtain ⟨p, hp⟩ := prop_of (exb_at cm 7 rfl)
    exact ⟨p, _, fd, hp, FD⟩
  case d_Calls_reserve =>
    obtain ⟨fd, FD⟩ := cp.def_ 3 (d := df_Calls_reserve) rfl
    obtain ⟨p, hp⟩ := prop_of (exb_at cm 8 rfl)
    exact ⟨p, _, fd, hp, FD⟩
  case d_Calls_bounds =>
    obtain ⟨fd, FD⟩ := cp.def_ 4 (d := df_Calls_bounds) rfl
    obtain ⟨p, hp⟩ := prop_of (exb_at cm 9 rfl)
    exact ⟨p, _, fd, hp, FD⟩
  case d_Calls_parts =>
    obtain ⟨fd, FD⟩ := cp.def_ 5 (d := df_Calls_parts) rfl
    obtain ⟨p, hp⟩ := prop_of (exb_at cm 10 rfl)
    exact ⟨p, _, fd, hp, FD⟩
theorem main_ (end_ : ∀ ns : List Int, ns.length ≤ 63 → F_law [.fz (ns.map D.int)] [] = some (.ok (.bl true), [])) : PySem.Challenge.rw_pledgehall_k62_whole_plans_and_what_is_o.Holds := by
  open PySem.W in
  w_on; o_law
  refine HandSHeadRun.head_any (r := PySem.W.OpenLaw.row PySem.Challenge.rw_pledgehall_k62_whole_plans_and_what_is_o) (q := PySem.W.view (PySem.W.OpenLaw.row PySem.Challenge.rw_pledgehall_k62_whole_plans_and_what_is_o).prog [57]) (H := hk) (ob := obs) (M := 100000) (loose := loose) (d := HandSHeadRun.topDef (PySem.W.OpenLaw.row PySem.Challenge.rw_pledgehall_k62_whole_plans_and_what_is_o).prog 57) (kwd := []) obs_eq
    (by kernel_rfl) (fun s => by kernel_rfl) run (by kernel_rfl) (by kernel_rfl) (by kernel_rfl) (by rfl) (by first | assumption | decide +kernel) (by decide +kernel) ⟨rfl, rfl, rfl, rfl, rfl, by decide +kernel⟩ ?hw ?hc
  case hw => w_witness2
  case hc =>
    refine walk_pf (l := PySem.Challenge.rw_pledgehall_k62_whole_plans_and_what_is_o) (k := 10) (x := "script") (o := F_law) rfl (by kernel_rfl) ⟨rfl, by decide, by decide⟩ end_ ?F
    intro w mg fa h Y G hmg0
    obtain ⟨K, KX, c, cp⟩ := Y
    have hmg : mg ("law" : PySem.Str) = some (.ref fa) := by
      have e : (HandSHeadRun.topDef (PySem.W.OpenLaw.row PySem.Challenge.rw_pledgehall_k62_whole_plans_and_what_is_o).prog 57).name = ("law" : PySem.Str) := by kernel_rfl
      rw [← e]
      exact hmg0
    have Z := facts_of KX G c.t.d c.more cp
    obtain ⟨f, fd, FD, hf⟩ := Z.d_law
    have e := hmg.symm.trans hf
    cases e
    refine ⟨K, fd, KX, fun s u => FunD.bindsA (ps := ["script"]) FD pn_law s [u] rfl, fun base kb gb => ?_⟩
    exact def_g FD sc_law (r_law Z)
end LW
set_option Elab.async false
set_option linter.all false
set_option maxRecDepth 100000
set_option maxHeartbeats 4000000
/-! PF10: one rule for each letter (printed by mk10.py). -/
namespace PF
open PySem L2 Evl PySem.Spec PyProof.Rows
theorem set_get {S : Store} {n : Nat} {x : List D} (y : List D) (h : S[n]? = some x) : (S.set n y)[n]? = some y := by
  have : n < S.length := by
    rcases Nat.lt_or_ge n S.length with h1 | h1
    · exact h1
    · rw [List.getElem?_eq_none h1] at h; cases h
  simp [this]
/-- two ways -/
def Cs (b : Bool) (A B : Prop) : Prop := (b = true → A) ∧ (b = false → B)
def slL (x : D) (l r : Option Int) (S : Store) : Out D := match asL x S with
  | some xs => some (.ok (.lst (cutL xs l r)), S)
  | none => none
def slA (x : D) (l r : Option Int) (S : Store) : Out D := match x with
  | .tup xs => some (.ok (.tup (cutL xs l r)), S)
  | .str z => if z.length ≤ lim then some (.ok (.str (cutS z l r)), S) else none
  | d => slL d l r S
def Bl (d : D) (k : Bool → Prop) : Prop := match d with
  | .bl b => k b
  | _ => False
theorem cs_dec {p : Prop} [Decidable p] {A B : Prop} (h1 : p → A) (h2 : ¬ p → B) : Cs (decide p) A B := ⟨fun h => h1 (of_decide_eq_true h), fun h => h2 (of_decide_eq_false h)⟩
theorem cs_beq {i j : Int} {A B : Prop} (h1 : i = j → A) (h2 : i ≠ j → B) : Cs (i == j) A B := ⟨fun h => h1 (eq_of_beq h), fun h => h2 (fun e => by rw [e, beq_self_eq_true] at h; cases h)⟩
theorem cs_t {A B : Prop} (h1 : A) : Cs true A B := ⟨fun _ => h1, fun h => by cases h⟩
theorem cs_f {A B : Prop} (h1 : B) : Cs false A B := ⟨fun h => (by cases h), fun _ => h1⟩
theorem cs_te {b : Bool} {A B : Prop} (e : b = true) (h1 : A) : Cs b A B := by rw [e]; exact cs_t h1
theorem cs_fe {b : Bool} {A B : Prop} (e : b = false) (h1 : B) : Cs b A B := by rw [e]; exact cs_f h1
theorem cs_not {b : Bool} {A B : Prop} (h : Cs b B A) : Cs (!b) A B := by
  cases b with
  | true => exact cs_f (h.1 rfl)
  | false => exact cs_t (h.2 rfl)
theorem bl_bl {b : Bool} {k : Bool → Prop} (h : k b) : Bl (.bl b) k := h
section
variable {α β : Type} {Q : α → Store → Prop} {E : XV → Store → Prop} {S : Store} {ρ : PF.Env}
theorem r_ok {a : α} (h : Q a S) : Pst (some (.ok a, S)) Q E := h
theorem r_eq {r : Out α} {a : α} {S1 : Store} (e : r = some (.ok a, S1)) (h : Q a S1) : Pst r Q E := by rw [e]; exact h
theorem r_ite {c : Prop} [Decidable c] {r : Out α} (hc : c) (h : Pst r Q E) : Pst (if c then r else none) Q E := by rw [if_pos hc]; exact h
theorem r_bind {r : Out β} {k : β → Store → Out α} (h : Pst r (fun a S => Pst (k a S) Q E) E) : Pst (bindO r k) Q E := by rw [Pst_bind]; exact h
theorem r_nox {r : Out α} (h : Pst r Q NoE) : Pst (noX r) Q E := by rw [Pst_noX]; exact h
theorem r_nil {Q : List D → Store → Prop} (h : Q [] S) : Pst (aNil ρ S) Q E := h
theorem r_cons {Q : List D → Store → Prop} {a : EX} {r : AX} (h : Pst (a ρ S) (fun x S => Pst (r ρ S) (fun xs S => Q (x :: xs) S) E) E) : Pst (aCons a r ρ S) Q E := by
  rw [ap_cons, Pst_bind]
  simpa only [Pst_bind, Pst_ok] using h
theorem bool_t {QB : Bool → Store → Prop} {c : EX} (h : Pst (c ρ S) (fun d S => Bl d fun b => QB b S) E) : Pst (cTest c ρ S) QB E := by
  rw [ap_test]
  exact h
theorem bool_and {QB : Bool → Store → Prop} {a b : BX} (h : Pst (a ρ S) (fun x S => Cs x (Pst (b ρ S) QB E) (QB false S)) E) : Pst (bAnd a b ρ S) QB E := by rw [ap_band]; exact h
theorem bool_or {QB : Bool → Store → Prop} {a b : BX} (h : Pst (a ρ S) (fun x S => Cs x (QB true S) (Pst (b ρ S) QB E)) E) : Pst (bOr a b ρ S) QB E := by rw [ap_bor]; exact h.mono (fun _ _ h => ⟨h.2, h.1⟩) fun _ _ h => h
theorem bool_not {QB : Bool → Store → Prop} {a : BX} (h : Pst (a ρ S) (fun x S => QB (!x) S) E) : Pst (bNot a ρ S) QB E := by rw [ap_bnot]; exact h
theorem bool_yes {QB : Bool → Store → Prop} (h : QB true S) : Pst (bYes ρ S) QB E := h
end
section
variable {Q : D → Store → Prop} {E : XV → Store → Prop} {S : Store} {ρ : PF.Env}
theorem r_k {d : D} (h : Q d S) : Pst (cK d ρ S) Q E := h
theorem r_bin {o : Op2} {a b : EX} (h : Pst (a ρ S) (fun x S => Pst (b ρ S) (fun y S => Pst (o x y S) Q E) E) E) : Pst (cBin o a b ρ S) Q E := by
  rw [ap_bin, Pst_bind]
  simpa only [Pst_bind] using h
theorem r_un {o : D → Store → Out D} {a : EX} (h : Pst (a ρ S) (fun x S => Pst (o x S) Q E) E) : Pst (cUn o a ρ S) Q E := by rw [ap_un, Pst_bind]; exact h
theorem r_tup {r : AX} (h : Pst (r ρ S) (fun xs S => xs.length ≤ lim ∧ Q (.tup xs) S) E) : Pst (cTup r ρ S) Q E := by
  rw [ap_tup, Pst_bind]
  simpa only [Pst_ite, Pst_ok] using h
theorem r_lst {r : AX} (h : Pst (r ρ S) (fun xs S => xs.length ≤ lim ∧ Q (.lst xs) S) E) : Pst (cLst r ρ S) Q E := by
  rw [ap_lst, Pst_bind]
  simpa only [Pst_ite, Pst_ok] using h
theorem r_blt {o : OpB} {r : AX} (h : Pst (r ρ S) (fun ds S => Pst (o ds S) Q E) E) : Pst (cBlt o r ρ S) Q E := by rw [ap_blt, Pst_bind]; exact h
theorem r_call {n : Nat} {o : OpB} {r : AX} (h : Pst (r ρ S) (fun ds S => ds.length = n ∧ Pst (o ds S) Q E) E) : Pst (cCall n o r ρ S) Q E := by
  rw [ap_call, Pst_bind]
  simpa only [Pst_ite] using h
theorem r_callK {n m : Nat} {g : List D → List D → List D} {o : OpB} {r rk : AX} (h : Pst (r ρ S) (fun ds S => Pst (rk ρ S) (fun es S => (ds.length = n ∧ es.length = m) ∧ Pst (o (g ds es) S) Q E) E) E) : Pst (cCallK n m g o r rk ρ S) Q E := by
  rw [ap_callK, Pst_bind]
  simpa only [Pst_bind, Pst_ite] using h
theorem r_isi {t : Ty} {a : EX} (h : Pst (a ρ S) (fun x S => x.isFn = false ∧ Q (.bl (isTy x t)) S) E) : Pst (cIsi t a ρ S) Q E := by
  rw [ap_isi, Pst_bind]
  simpa only [Pst_ite, Pst_ok] using h
theorem r_lam {l : LamSite} (h : Q (.fn l) S) : Pst (cLam l ρ S) Q E := h
theorem r_back {a : EX} (h : Pst (a ρ S) (fun x S => ∃ xs, asL x S = some xs ∧ Q (.lst xs.reverse) S) E) : Pst (cBack a ρ S) Q E := by
  rw [ap_back, Pst_bind]
  refine h.mono (fun x S h => ?_) fun _ _ h => h
  obtain ⟨xs, e, h⟩ := h
  rw [e]; exact h
theorem r_callV {i n : Nat} {l : LamSite} {o : OpB} {r : AX} (h : ρ[i]? = some (some (.fn l))) (k : Pst (r ρ S) (fun ds S => ds.length = n ∧ Pst (o ds S) Q E) E) : Pst (cCallV i l n o r ρ S) Q E := by
  rw [ap_callV h, Pst_bind]
  simpa only [Pst_ite] using k
theorem r_listR1 {c : EX} (h : Pst (c ρ S) (fun d S => ∃ n, d = .int n ∧ (n ≤ 1000000 ∧ -1000000000 < n) ∧ Q (.lst (ranged 0 n.toNat)) S) E) : Pst (cListR1 c ρ S) Q E := by
  have e : cListR1 c ρ S = bindO (c ρ S) fun d S => match d with
    | .int n => if n ≤ 1000000 ∧ -1000000000 < n then some (.ok (.lst (ranged 0 n.toNat)), S) else none
    | _ => none := rfl
  rw [e, Pst_bind]
  refine h.mono (fun d S h => ?_) fun _ _ h => h
  obtain ⟨n, rfl, c, h⟩ := h
  simp only [c, and_self, if_true, Pst_ok]
  exact h
theorem r_mt {o : OpM} {a : EX} {r : AX} (h : Pst (a ρ S) (fun d S => ∃ n, d = .loc n ∧ Pst (r ρ S) (fun ds S => Pst (o (.loc n) ds S) Q E) E) E) : Pst (cMt o a r ρ S) Q E := by
  rw [ap_mt, Pst_bind]
  refine h.mono (fun d S h => ?_) fun _ _ h => h
  obtain ⟨n, rfl, h⟩ := h
  simpa only [Pst_bind] using h
theorem r_and {a b : EX} (h : Pst (a ρ S) (fun x S => Bl x fun x => Cs x (Pst (b ρ S) Q E) (Q (.bl false) S)) E) : Pst (cAnd a b ρ S) Q E := by
  rw [ap_and]
  exact h
theorem r_or {a b : EX} (h : Pst (a ρ S) (fun x S => Bl x fun x => Cs x (Q (.bl true) S) (Pst (b ρ S) Q E)) E) : Pst (cOr a b ρ S) Q E := by
  rw [ap_or]
  refine h.mono (fun d S h => ?_) fun _ _ h => h
  cases d <;> first | exact h.elim | exact ⟨h.2, h.1⟩
theorem r_not {a : EX} (h : Pst (a ρ S) (fun x S => Bl x fun x => Q (.bl (!x)) S) E) : Pst (cNot a ρ S) Q E := by
  rw [ap_not]
  exact h
theorem r_ife {c : BX} {a b : EX} (h : Pst (c ρ S) (fun x S => Cs x (Pst (a ρ S) Q E) (Pst (b ρ S) Q E)) E) : Pst (cIfE c a b ρ S) Q E := by rw [ap_ife]; exact h
theorem r_chain {o o' : Op2} {a b c : EX} (h : Pst (a ρ S) (fun x S => Pst (b ρ S) (fun y S => Pst (o x y S) (fun z S => Bl z fun z => Cs z (Pst (c ρ S) (fun w S => Pst (o' y w S) Q E) E) (Q (.bl false) S)) E) E) E) : Pst (cChain o o' a b c ρ S) Q E := by
  rw [ap_chain]
  exact h
theorem r_alloc {c : EX} (h : Pst (c ρ S) (fun d S => ∃ ds, d = .lst ds ∧ D.pures ds = true ∧ ∀ m S', m = S.length → S' = S ++ [ds] → S'[m]? = some ds → Q (.loc m) S') E) : Pst (cAlloc c ρ S) Q E := by
  rw [ap_alloc, Pst_bind]
  refine h.mono (fun d S h => ?_) fun _ _ h => h
  obtain ⟨ds, rfl, hp, h⟩ := h
  simp only [hp, if_true, Pst_ok]
  exact h _ _ rfl rfl (by simp)
theorem r_sliceA {a : EX} {lo hi : OX} (h : Pst (a ρ S) (fun x S => Pst (lo ρ S) (fun l S => Pst (hi ρ S) (fun r S => Pst (slA x l r S) Q E) E) E) E) : Pst (cSliceA a lo hi ρ S) Q E := by
  have e : cSliceA a lo hi ρ S = bindO (a ρ S) fun x S => bindO (lo ρ S) fun l S => bindO (hi ρ S) fun r S => slA x l r S := rfl
  rw [e]
  simpa only [Pst_bind] using h
theorem r_sliceL {a : EX} {lo hi : OX} (h : Pst (a ρ S) (fun x S => Pst (lo ρ S) (fun l S => Pst (hi ρ S) (fun r S => Pst (slL x l r S) Q E) E) E) E) : Pst (cSliceL a lo hi ρ S) Q E := by
  have e : cSliceL a lo hi ρ S = bindO (a ρ S) fun x S => bindO (lo ρ S) fun l S => bindO (hi ρ S) fun r S => slL x l r S := rfl
  rw [e]
  simpa only [Pst_bind] using h
theorem r_no {Q : Option Int → Store → Prop} (h : Q none S) : Pst (cNo ρ S) Q E := h
theorem r_part {Q : Option Int → Store → Prop} {c : EX} (h : Pst (c ρ S) (fun d S => ∃ i, d = .int i ∧ Q (some i) S) E) : Pst (cPart c ρ S) Q E := by
  rw [ap_part, Pst_bind]
  refine h.mono (fun d S h => ?_) fun _ _ h => h
  obtain ⟨i, rfl, h⟩ := h
  exact h
theorem r_scope {c : EX} (h : Pst (c ρ S) (fun d S1 => d.pure = true ∧ Q d (S1.take S.length)) NoE) : Pst (cScope c ρ S) Q E := by
  unfold cScope
  match hc : c ρ S with
  | none => rw [hc] at h; exact h.elim
  | some (.error x, S1) => rw [hc] at h; exact h.elim
  | some (.ok d, S1) =>
    rw [hc] at h
    simp only [Pst_ok] at h
    simp only [h.1, if_true, Pst_ok]
    exact h.2
end
theorem cs_pick {b : Bool} {x y : D} {c1 c2 : EX} {ρ : PF.Env} {S : Store} {Q : D → Store → Prop} {E : XV → Store → Prop} (P : D → Prop) (e1 : c1 ρ S = some (.ok x, S)) (e2 : c2 ρ S = some (.ok y, S)) (hp : P (if b = true then x else y)) (k : ∀ z, P z → Q z S) : Cs b (Pst (c1 ρ S) Q E) (Pst (c2 ρ S) Q E) := by
  rw [e1, e2]
  cases b with
  | true => exact cs_t (k _ hp)
  | false => exact cs_f (k _ hp)
/-! ### statements -/
section
variable {Q : Fl → Store → Prop} {E : XV → Store → Prop} {S : Store} {ρ : PF.Env}
def Nx (fl : Fl) (S : Store) (Q : Fl → Store → Prop) (k : PF.Env → Prop) : Prop := match fl with
  | .nx ρ => k ρ
  | fl => Q fl S
theorem nx_nx {k : PF.Env → Prop} (h : k ρ) : Nx (.nx ρ) S Q k := h
theorem nx_ret {k : PF.Env → Prop} {d : D} (h : Q (.ret d) S) : Nx (.ret d) S Q k := h
theorem nx_exc {k : PF.Env → Prop} {x : XV} (h : Q (.exc x ρ) S) : Nx (.exc x ρ) S Q k := h
theorem nx_brk {k : PF.Env → Prop} (h : Q (.brk ρ) S) : Nx (.brk ρ) S Q k := h
theorem nx_ct {k : PF.Env → Prop} (h : Q (.ct ρ) S) : Nx (.ct ρ) S Q k := h
theorem s_nil (h : Q (.nx ρ) S) : Pst (sNil ρ S) Q E := h
theorem s_brk (h : Q (.brk ρ) S) : Pst (sBrk ρ S) Q E := h
theorem s_ct (h : Q (.ct ρ) S) : Pst (sCt ρ S) Q E := h
theorem s_seq {a b : SX} (h : Pst (a ρ S) (fun fl S => Nx fl S Q fun ρ' => Pst (b ρ' S) Q E) E) : Pst (sSeq a b ρ S) Q E := by rw [st_seq]; exact h
theorem s_if {c : BX} {a b : SX} (h : Pst (c ρ S) (fun x S => Cs x (Pst (a ρ S) Q E) (Pst (b ρ S) Q E)) (fun x S => Q (.exc x ρ) S)) : Pst (sIf c a b ρ S) Q E := by rw [st_if]; exact h
theorem s_ret {c : EX} (h : Pst (c ρ S) (fun d S => Q (.ret d) S) (fun x S => Q (.exc x ρ) S)) : Pst (sRet c ρ S) Q E := by rw [st_ret, Pst_stm]; exact h
theorem s_retL {c : EX} (h : Pst (c ρ S) (fun d S => ∃ n, d = .loc n ∧ Q (.ret (.loc n)) S) (fun x S => Q (.exc x ρ) S)) : Pst (sRetL c ρ S) Q E := by
  rw [st_retL, Pst_stm]
  refine h.mono (fun d S h => ?_) fun _ _ h => h
  obtain ⟨n, rfl, h⟩ := h
  exact h
theorem s_expr {c : EX} (h : Pst (c ρ S) (fun _ S => Q (.nx ρ) S) (fun x S => Q (.exc x ρ) S)) : Pst (sExpr c ρ S) Q E := by rw [st_expr, Pst_stm]; exact h
theorem s_set {i : Nat} {c : EX} (h : Pst (c ρ S) (fun d S => Q (.nx (ρ.set i (some d))) S) (fun x S => Q (.exc x ρ) S)) : Pst (sSet i c ρ S) Q E := by rw [st_set, Pst_stm]; exact h
theorem s_asg {t : TX} {c : EX} (h : Pst (c ρ S) (fun d S => Pst (t d ρ S) (fun ρ' S => Q (.nx ρ') S) NoE) (fun x S => Q (.exc x ρ) S)) : Pst (sAsg t c ρ S) Q E := by
  rw [st_asg, Pst_stm]
  simpa only [Pst_bind, Pst_noX, Pst_ok] using h
theorem s_par {i j : Nat} {r : AX} (h : Pst (r ρ S) (fun ds S => ∃ x y, ds = [x, y] ∧ Pst (tName i x ρ S) (fun ρ1 S => Pst (tName j y ρ1 S) (fun ρ2 S => Q (.nx ρ2) S) NoE) NoE) (fun x S => Q (.exc x ρ) S)) : Pst (sPar i j r ρ S) Q E := by
  rw [st_par, Pst_stm]
  refine h.mono (fun d S h => ?_) fun _ _ h => h
  obtain ⟨x, y, rfl, h⟩ := h
  exact h
theorem s_for {src : IX} {t : TX} {b : SX} (h : Pst (src ρ S) (fun src S => ∃ ds, srcAt src S = some ds ∧ Pst (forGo src t b ds.length 0 ρ S) Q E) (fun x S => Q (.exc x ρ) S)) : Pst (sFor src t b ρ S) Q E := by
  rw [st_for]
  refine h.mono (fun d S h => ?_) fun _ _ h => h
  obtain ⟨ds, e, h⟩ := h
  rw [e]
  exact h
theorem t_name {Q : PF.Env → Store → Prop} {i : Nat} {d : D} (h : Q (ρ.set i (some d)) S) : Pst (tName i d ρ S) Q E := h
theorem t_tup {Q : PF.Env → Store → Prop} {n : Nat} {c : TXs} {ds : List D} (e : ds.length = n) (h : Pst (c ds ρ S) Q E) : Pst (tTup n c (.tup ds) ρ S) Q E := by rw [tg_tup, if_pos e]; exact h
theorem t_nil {Q : PF.Env → Store → Prop} (h : Q ρ S) : Pst (tsNil [] ρ S) Q E := h
theorem t_cons {Q : PF.Env → Store → Prop} {t : TX} {r : TXs} {d : D} {ds : List D} (h : Pst (t d ρ S) (fun ρ1 S => Pst (r ds ρ1 S) Q E) E) : Pst (tsCons t r (d :: ds) ρ S) Q E := by rw [tg_cons, Pst_bind]; exact h
/-- a place of a list of the store is written -/
def Put (S : Store) (n : Nat) (k : Int) (d : D) (Q : Store → Prop) : Prop := ∃ ds j, S[n]? = some ds ∧ ixN ds.length k = some j ∧ d.pure = true ∧ Q (S.set n (ds.set j d))
theorem t_sub {Q : PF.Env → Store → Prop} {a b : EX} {d : D} (h : Pst (a ρ S) (fun o S => Pst (b ρ S) (fun i S => ∃ n k, o = .loc n ∧ i = .int k ∧ Put S n k d fun S' => Q ρ S') NoE) NoE) : Pst (tSub a b d ρ S) Q E := by
  rw [tg_sub, Pst_bind, Pst_noX]
  refine h.mono (fun o S h => ?_) fun _ _ h => h.elim
  rw [Pst_bind, Pst_noX]
  refine h.mono (fun i S h => ?_) fun _ _ h => h.elim
  obtain ⟨n, k, rfl, rfl, ds, j, e1, e2, e3, h⟩ := h
  simp only [e1, e2, e3, if_true, Pst_ok]
  exact h
theorem put0 {n : Nat} {d a b c : D} {Q : Store → Prop} (e : S[n]? = some [a, b, c]) (p : d.pure = true) (h : (S.set n [d, b, c])[n]? = some [d, b, c] → Q (S.set n [d, b, c])) : Put S n 0 d Q := ⟨_, 0, e, rfl, p, h (set_get _ e)⟩
theorem put1 {n : Nat} {d a b c : D} {Q : Store → Prop} (e : S[n]? = some [a, b, c]) (p : d.pure = true) (h : (S.set n [a, d, c])[n]? = some [a, d, c] → Q (S.set n [a, d, c])) : Put S n 1 d Q := ⟨_, 1, e, rfl, p, h (set_get _ e)⟩
theorem put2 {n : Nat} {d a b c : D} {Q : Store → Prop} (e : S[n]? = some [a, b, c]) (p : d.pure = true) (h : (S.set n [a, b, d])[n]? = some [a, b, d] → Q (S.set n [a, b, d])) : Put S n 2 d Q := ⟨_, 2, e, rfl, p, h (set_get _ e)⟩
theorem q_seq {Q : Src → Store → Prop} {c : EX} (h : Pst (c ρ S) (fun d S => ∃ src, srcOfA d = some src ∧ Q src S) E) : Pst (cSeqA c ρ S) Q E := by
  rw [sq_tup, Pst_bind]
  refine h.mono (fun d S h => ?_) fun _ _ h => h
  obtain ⟨src, e, h⟩ := h
  rw [e]
  exact h
theorem q_range {Q : Src → Store → Prop} {c : AX} (h : Pst (c ρ S) (fun ds S => ∃ n, ds = [.int n] ∧ (n < 1000000000 ∧ -1000000000 < n) ∧ Q (.items (ranged 0 n.toNat)) S) E) : Pst (cRange1 c ρ S) Q E := by
  rw [sq_range, Pst_bind]
  refine h.mono (fun d S h => ?_) fun _ _ h => h
  obtain ⟨n, rfl, e, h⟩ := h
  simp only [e, and_self, if_true, Pst_ok]
  exact h
theorem q_range2 {Q : Src → Store → Prop} {c : AX} (h : Pst (c ρ S) (fun ds S => ∃ m n, ds = [.int m, .int n] ∧ ((n < 1000000000 ∧ -1000000000 < n) ∧ (m < 1000000000 ∧ -1000000000 < m)) ∧ Q (.items (ranged m (n - m).toNat)) S) E) : Pst (cRange2 c ρ S) Q E := by
  rw [sq_range2, Pst_bind]
  refine h.mono (fun d S h => ?_) fun _ _ h => h
  obtain ⟨m, n, rfl, e, h⟩ := h
  simp only [e, and_self, if_true, Pst_ok]
  exact h
theorem q_rangeD {Q : Src → Store → Prop} {c : AX} (h : Pst (c ρ S) (fun ds S => ∃ i j, ds = [.int i, .int j, .int (-1)] ∧ ((i < 1000000000 ∧ -1000000000 < i) ∧ (j < 1000000000 ∧ -1000000000 < j)) ∧ Q (.items (stepped i (-1) (i - j).toNat)) S) E) : Pst (cRangeD c ρ S) Q E := by
  unfold cRangeD
  rw [Pst_bind]
  refine h.mono (fun d S h => ?_) fun _ _ h => h
  obtain ⟨m, n, rfl, e, h⟩ := h
  simp only [e, and_self, if_true, Pst_ok]
  exact h
theorem q_enumA {Q : Src → Store → Prop} {c : AX} (h : Pst (c ρ S) (fun ds S => ∃ d src, ds = [d] ∧ srcOf d = some src ∧ Q (.enum src) S) E) : Pst (cEnumA c ρ S) Q E := by
  unfold cEnumA
  rw [Pst_bind]
  refine h.mono (fun d S h => ?_) fun _ _ h => h
  obtain ⟨x, src, rfl, e, h⟩ := h
  simp only [e]
  exact h
end
/-! ### operators -/
section
variable {Q : D → Store → Prop} {E : XV → Store → Prop} {S : Store} {i j : Int}
theorem o1_sub (h : Q (.int (i - j)) S) : Pst (oSub (.int i) (.int j) S) Q E := h
theorem o1_add (h : Q (.int (i + j)) S) : Pst (oAddA (.int i) (.int j) S) Q E := h
theorem o1_mul (c : (-18446744073709551616 < i ∧ i < 18446744073709551616) ∨ (-18446744073709551616 < j ∧ j < 18446744073709551616)) (h : Q (.int (i * j)) S) : Pst (oMul (.int i) (.int j) S) Q E := by
  rw [o_mul, Pst_ite]
  exact ⟨by omega, h⟩
theorem o1_div (c : 0 < j ∧ j < 1073741824) (h : Q (.int (i / j)) S) : Pst (oDiv (.int i) (.int j) S) Q E := by
  rw [o_div, Pst_ite]
  exact ⟨by omega, by rw [Int.fdiv_eq_ediv_of_nonneg _ (by omega)]; exact h⟩
theorem o1_mod (c : 0 < j) (h : Q (.int (i % j)) S) : Pst (oMod (.int i) (.int j) S) Q E := by
  rw [o_mod, Pst_ite]
  exact ⟨by omega, by rw [Int.fmod_eq_emod_of_nonneg _ (by omega)]; exact h⟩
theorem o1_lt (h : Q (.bl (decide (i < j))) S) : Pst (oLtA (.int i) (.int j) S) Q E := h
theorem o1_le (h : Q (.bl (decide (i ≤ j))) S) : Pst (oLe (.int i) (.int j) S) Q E := h
theorem o1_gt (h : Q (.bl (decide (j < i))) S) : Pst (oGt (.int i) (.int j) S) Q E := h
theorem o1_ge (h : Q (.bl (decide (j ≤ i))) S) : Pst (oGe (.int i) (.int j) S) Q E := h
theorem o1_neg (h : Q (.int (-i)) S) : Pst (oNeg (.int i) S) Q E := h
theorem o1_eq (h : Q (.bl (i == j)) S) : Pst (oEq (.int i) (.int j) S) Q E := by rw [o_eq]; exact h
theorem o1_ne (h : Q (.bl (!(i == j))) S) : Pst (oNe (.int i) (.int j) S) Q E := by rw [o_ne]; exact h
def D.isN : D → Bool
  | .non => true
  | _ => false
theorem o1_eqA (h : Q (.bl (i == j)) S) : Pst (oEqA (.int i) (.int j) S) Q E := by unfold oEqA oEqS; rw [o_eq]; exact h
theorem o1_neA (h : Q (.bl (!(i == j))) S) : Pst (oNeA (.int i) (.int j) S) Q E := by unfold oNeA oNeS; rw [o_ne]; exact h
theorem o1_eqS {a b : Str} (h : Q (.bl (a == b)) S) : Pst (oEqA (.str a) (.str b) S) Q E := h
theorem o1_isN {x : D} (h : Q (.bl x.isN) S) : Pst (oIsN x .non S) Q E := by cases x <;> exact h
theorem o1_notN {x : D} (h : Q (.bl (!x.isN)) S) : Pst (oNotN x .non S) Q E := by cases x <;> exact h
theorem o1_addT {xs ys : List D} (h : xs.length + ys.length ≤ lim ∧ Q (.tup (xs ++ ys)) S) : Pst (oAddA (.tup xs) (.tup ys) S) Q E := by
  rw [o_addT, Pst_ite]
  exact h
theorem o1_addL {xs ys : List D} (h : xs.length + ys.length ≤ lim ∧ Q (.lst (xs ++ ys)) S) : Pst (oAddA (.lst xs) (.lst ys) S) Q E := by
  rw [o_addL, Pst_ite]
  exact h
theorem o1_ix {x : D} (h : ∃ ds d, asS x S = some ds ∧ atI ds i = some d ∧ Q d S) : Pst (oIx x (.int i) S) Q E := by
  obtain ⟨ds, d, e, e2, h⟩ := h
  unfold oIx
  cases x <;> first | (cases e; done) | skip
  all_goals simp only [e, e2]
  all_goals exact h
theorem b1_len {x : D} (h : ∃ ds, asS x S = some ds ∧ Q (.int ds.length) S) : Pst (bLen [x] S) Q E := by
  obtain ⟨ds, e, h⟩ := h
  unfold bLen
  cases x <;> first | (cases e; done) | skip
  all_goals simp only [e]
  all_goals exact h
theorem o1_cat {x y : D} (h : ∃ xs ys, asM x S = some xs ∧ asM y S = some ys ∧ xs.length + ys.length ≤ lim ∧ Q (.lst (xs ++ ys)) S) : Pst (oCat x y S) Q E := by
  obtain ⟨xs, ys, e1, e2, c, h⟩ := h
  simp only [oCat, e1, e2, c, if_true]; exact h
theorem b1_abs (h : Q (.int (if i < 0 then -i else i)) S) : Pst (bAbs [.int i] S) Q E := h
theorem b1_int (h : Q (.int i) S) : Pst (bInt [.int i] S) Q E := h
theorem b1_min2 (h : Q (.int (min i j)) S) : Pst (bMin2 [.int i, .int j] S) Q E := by
  rw [b_min2]
  have e : (if j < i then j else i) = min i j := by split <;> omega
  rw [e]; exact h
theorem b1_max2 (h : Q (.int (max i j)) S) : Pst (bMax2 [.int i, .int j] S) Q E := by
  rw [b_max2]
  have e : (if i < j then j else i) = max i j := by split <;> omega
  rw [e]; exact h
theorem b1_divmod (c : 0 < j ∧ j < 1073741824) (h : Q (.tup [.int (i / j), .int (i % j)]) S) : Pst (bDivmod [.int i, .int j] S) Q E := by
  rw [b_divmod, Pst_ite]
  exact ⟨c, h⟩
theorem b1_tuple {x : D} (h : ∃ ds, asS x S = some ds ∧ Q (.tup ds) S) : Pst (bTuple [x] S) Q E := by
  obtain ⟨ds, e, h⟩ := h
  simp only [bTuple, e]; exact h
theorem b1_list {x : D} (h : ∃ ds, asS x S = some ds ∧ Q (.lst ds) S) : Pst (bList [x] S) Q E := by
  obtain ⟨ds, e, h⟩ := h
  simp only [bList, e]; exact h
theorem b1_sorted {ns : List Int} (h : Q (.lst ((sortI ns).map D.int)) S) : Pst (bSorted [.lst (ns.map D.int)] S) Q E := by rw [b_sorted]; exact h
theorem b1_max1 {ns : List Int} {m : Int} (e : ns.max? = some m) (h : Q (.int m) S) : Pst (bMax [.lst (ns.map D.int)] S) Q E := by
  have e2 : bMax [.lst (ns.map D.int)] S = some (.ok (.int m), S) := by simp [bMax, bL1, asL, intsOf_map, e]
  rw [e2]; exact h
theorem b1_sum {ns : List Int} (h : Q (.int ns.sum) S) : Pst (bSum [.lst (ns.map D.int)] S) Q E := by rw [b_sum]; exact h
theorem m1_append {n : Nat} {x : D} (h : ∃ xs, S[n]? = some xs ∧ (x.pure = true ∧ xs.length < lim) ∧ ((S.set n (xs ++ [x]))[n]? = some (xs ++ [x]) → Q .non (S.set n (xs ++ [x])))) : Pst (mAppend (.loc n) [x] S) Q E := by
  obtain ⟨xs, e, c, h⟩ := h
  rw [m_append]
  simp only [e, c, and_self, if_true]; exact h (set_get _ e)
end
section
variable {Q : D → Store → Prop} {E : XV → Store → Prop} {S : Store} {ρ : PF.Env}
theorem x_bl {fr : Bool} {n : Nat} {b : Bool} (h : Q (.bl b) (S.take n)) : Pst (exitF fr n (some (.ok (.ret (.bl b)), S))) Q E := h
theorem x_int {fr : Bool} {n : Nat} {b : Int} (h : Q (.int b) (S.take n)) : Pst (exitF fr n (some (.ok (.ret (.int b)), S))) Q E := h
theorem x_str {fr : Bool} {n : Nat} {b : Str} (h : Q (.str b) (S.take n)) : Pst (exitF fr n (some (.ok (.ret (.str b)), S))) Q E := h
theorem x_non {fr : Bool} {n : Nat} (h : Q .non (S.take n)) : Pst (exitF fr n (some (.ok (.ret .non), S))) Q E := h
theorem x_nx {n : Nat} (h : Q .non (S.take n)) : Pst (exitF false n (some (.ok (.nx ρ), S))) Q E := h
theorem x_tup {fr : Bool} {n : Nat} {ds : List D} (h : D.pures ds = true ∧ Q (.tup ds) (S.take n)) : Pst (exitF fr n (some (.ok (.ret (.tup ds)), S))) Q E := by
  rw [exit_tup, Pst_ite]; exact h
theorem x_lst {fr : Bool} {n : Nat} {ds : List D} (h : D.pures ds = true ∧ Q (.lst ds) (S.take n)) : Pst (exitF fr n (some (.ok (.ret (.lst ds)), S))) Q E := by
  rw [exit_lst, Pst_ite]; exact h
theorem sl_tup {xs : List D} {l r : Option Int} (h : Q (.tup (cutL xs l r)) S) : Pst (slA (.tup xs) l r S) Q E := h
theorem sl_lst {xs : List D} {l r : Option Int} (h : Q (.lst (cutL xs l r)) S) : Pst (slA (.lst xs) l r S) Q E := h
theorem sl_fz {xs : List D} {l r : Option Int} (h : Q (.lst (cutL xs l r)) S) : Pst (slA (.fz xs) l r S) Q E := h
theorem sL_lst {xs : List D} {l r : Option Int} (h : Q (.lst (cutL xs l r)) S) : Pst (slL (.lst xs) l r S) Q E := h
theorem sL_fz {xs : List D} {l r : Option Int} (h : Q (.lst (cutL xs l r)) S) : Pst (slL (.fz xs) l r S) Q E := h

theorem o_pow10_1 (h : Q (.int 10) S) : Pst (oPow (.int 10) (.int 1) S) Q E := by rw [o_pow, Pst_ite]; exact ⟨by decide, h⟩
theorem o_pow10_2 (h : Q (.int 100) S) : Pst (oPow (.int 10) (.int 2) S) Q E := by rw [o_pow, Pst_ite]; exact ⟨by decide, h⟩
theorem o_pow10_3 (h : Q (.int 1000) S) : Pst (oPow (.int 10) (.int 3) S) Q E := by rw [o_pow, Pst_ite]; exact ⟨by decide, h⟩
theorem o_pow10_4 (h : Q (.int 10000) S) : Pst (oPow (.int 10) (.int 4) S) Q E := by rw [o_pow, Pst_ite]; exact ⟨by decide, h⟩
theorem o_pow10_5 (h : Q (.int 100000) S) : Pst (oPow (.int 10) (.int 5) S) Q E := by rw [o_pow, Pst_ite]; exact ⟨by decide, h⟩
theorem o_pow10_6 (h : Q (.int 1000000) S) : Pst (oPow (.int 10) (.int 6) S) Q E := by rw [o_pow, Pst_ite]; exact ⟨by decide, h⟩
theorem o_pow10_7 (h : Q (.int 10000000) S) : Pst (oPow (.int 10) (.int 7) S) Q E := by rw [o_pow, Pst_ite]; exact ⟨by decide, h⟩
theorem o_pow10_8 (h : Q (.int 100000000) S) : Pst (oPow (.int 10) (.int 8) S) Q E := by rw [o_pow, Pst_ite]; exact ⟨by decide, h⟩
theorem o_pow10_9 (h : Q (.int 1000000000) S) : Pst (oPow (.int 10) (.int 9) S) Q E := by rw [o_pow, Pst_ite]; exact ⟨by decide, h⟩
theorem o_pow10_10 (h : Q (.int 10000000000) S) : Pst (oPow (.int 10) (.int 10) S) Q E := by rw [o_pow, Pst_ite]; exact ⟨by decide, h⟩
theorem o_pow10_11 (h : Q (.int 100000000000) S) : Pst (oPow (.int 10) (.int 11) S) Q E := by rw [o_pow, Pst_ite]; exact ⟨by decide, h⟩
theorem o_pow10_12 (h : Q (.int 1000000000000) S) : Pst (oPow (.int 10) (.int 12) S) Q E := by rw [o_pow, Pst_ite]; exact ⟨by decide, h⟩
theorem o_pow10_13 (h : Q (.int 10000000000000) S) : Pst (oPow (.int 10) (.int 13) S) Q E := by rw [o_pow, Pst_ite]; exact ⟨by decide, h⟩
theorem o_pow10_14 (h : Q (.int 100000000000000) S) : Pst (oPow (.int 10) (.int 14) S) Q E := by rw [o_pow, Pst_ite]; exact ⟨by decide, h⟩
theorem o_pow10_15 (h : Q (.int 1000000000000000) S) : Pst (oPow (.int 10) (.int 15) S) Q E := by rw [o_pow, Pst_ite]; exact ⟨by decide, h⟩
theorem o_pow10_16 (h : Q (.int 10000000000000000) S) : Pst (oPow (.int 10) (.int 16) S) Q E := by rw [o_pow, Pst_ite]; exact ⟨by decide, h⟩
theorem o_pow10_17 (h : Q (.int 100000000000000000) S) : Pst (oPow (.int 10) (.int 17) S) Q E := by rw [o_pow, Pst_ite]; exact ⟨by decide, h⟩
theorem o_pow10_18 (h : Q (.int 1000000000000000000) S) : Pst (oPow (.int 10) (.int 18) S) Q E := by rw [o_pow, Pst_ite]; exact ⟨by decide, h⟩
theorem o_pow10_20 (h : Q (.int 100000000000000000000) S) : Pst (oPow (.int 10) (.int 20) S) Q E := by rw [o_pow, Pst_ite]; exact ⟨by decide, h⟩
theorem o_pow10_30 (h : Q (.int 1000000000000000000000000000000) S) : Pst (oPow (.int 10) (.int 30) S) Q E := by rw [o_pow, Pst_ite]; exact ⟨by decide, h⟩
theorem v0  {d : D} (h : Q d S) : Pst (cVar 0 (some d :: ρ) S) Q E := h
theorem v1 {x0 : Option D} {d : D} (h : Q d S) : Pst (cVar 1 (x0 :: some d :: ρ) S) Q E := h
theorem v2 {x0 : Option D} {x1 : Option D} {d : D} (h : Q d S) : Pst (cVar 2 (x0 :: x1 :: some d :: ρ) S) Q E := h
theorem v3 {x0 : Option D} {x1 : Option D} {x2 : Option D} {d : D} (h : Q d S) : Pst (cVar 3 (x0 :: x1 :: x2 :: some d :: ρ) S) Q E := h
theorem v4 {x0 : Option D} {x1 : Option D} {x2 : Option D} {x3 : Option D} {d : D} (h : Q d S) : Pst (cVar 4 (x0 :: x1 :: x2 :: x3 :: some d :: ρ) S) Q E := h
theorem v5 {x0 : Option D} {x1 : Option D} {x2 : Option D} {x3 : Option D} {x4 : Option D} {d : D} (h : Q d S) : Pst (cVar 5 (x0 :: x1 :: x2 :: x3 :: x4 :: some d :: ρ) S) Q E := h
theorem v6 {x0 : Option D} {x1 : Option D} {x2 : Option D} {x3 : Option D} {x4 : Option D} {x5 : Option D} {d : D} (h : Q d S) : Pst (cVar 6 (x0 :: x1 :: x2 :: x3 :: x4 :: x5 :: some d :: ρ) S) Q E := h
theorem v7 {x0 : Option D} {x1 : Option D} {x2 : Option D} {x3 : Option D} {x4 : Option D} {x5 : Option D} {x6 : Option D} {d : D} (h : Q d S) : Pst (cVar 7 (x0 :: x1 :: x2 :: x3 :: x4 :: x5 :: x6 :: some d :: ρ) S) Q E := h
theorem v8 {x0 : Option D} {x1 : Option D} {x2 : Option D} {x3 : Option D} {x4 : Option D} {x5 : Option D} {x6 : Option D} {x7 : Option D} {d : D} (h : Q d S) : Pst (cVar 8 (x0 :: x1 :: x2 :: x3 :: x4 :: x5 :: x6 :: x7 :: some d :: ρ) S) Q E := h
theorem v9 {x0 : Option D} {x1 : Option D} {x2 : Option D} {x3 : Option D} {x4 : Option D} {x5 : Option D} {x6 : Option D} {x7 : Option D} {x8 : Option D} {d : D} (h : Q d S) : Pst (cVar 9 (x0 :: x1 :: x2 :: x3 :: x4 :: x5 :: x6 :: x7 :: x8 :: some d :: ρ) S) Q E := h
theorem v10 {x0 : Option D} {x1 : Option D} {x2 : Option D} {x3 : Option D} {x4 : Option D} {x5 : Option D} {x6 : Option D} {x7 : Option D} {x8 : Option D} {x9 : Option D} {d : D} (h : Q d S) : Pst (cVar 10 (x0 :: x1 :: x2 :: x3 :: x4 :: x5 :: x6 :: x7 :: x8 :: x9 :: some d :: ρ) S) Q E := h
theorem v11 {x0 : Option D} {x1 : Option D} {x2 : Option D} {x3 : Option D} {x4 : Option D} {x5 : Option D} {x6 : Option D} {x7 : Option D} {x8 : Option D} {x9 : Option D} {x10 : Option D} {d : D} (h : Q d S) : Pst (cVar 11 (x0 :: x1 :: x2 :: x3 :: x4 :: x5 :: x6 :: x7 :: x8 :: x9 :: x10 :: some d :: ρ) S) Q E := h
theorem v12 {x0 : Option D} {x1 : Option D} {x2 : Option D} {x3 : Option D} {x4 : Option D} {x5 : Option D} {x6 : Option D} {x7 : Option D} {x8 : Option D} {x9 : Option D} {x10 : Option D} {x11 : Option D} {d : D} (h : Q d S) : Pst (cVar 12 (x0 :: x1 :: x2 :: x3 :: x4 :: x5 :: x6 :: x7 :: x8 :: x9 :: x10 :: x11 :: some d :: ρ) S) Q E := h
theorem v13 {x0 : Option D} {x1 : Option D} {x2 : Option D} {x3 : Option D} {x4 : Option D} {x5 : Option D} {x6 : Option D} {x7 : Option D} {x8 : Option D} {x9 : Option D} {x10 : Option D} {x11 : Option D} {x12 : Option D} {d : D} (h : Q d S) : Pst (cVar 13 (x0 :: x1 :: x2 :: x3 :: x4 :: x5 :: x6 :: x7 :: x8 :: x9 :: x10 :: x11 :: x12 :: some d :: ρ) S) Q E := h
theorem tn0 {Q : PF.Env → Store → Prop} {x0 : Option D} {d : D} (h : Q (some d :: ρ) S) : Pst (tName 0 d (x0 :: ρ) S) Q E := h
theorem ss0 {Q : Fl → Store → Prop} {x0 : Option D} {c : EX} (h : Pst (c (x0 :: ρ) S) (fun d S => Q (.nx (some d :: ρ)) S) (fun x S => Q (.exc x (x0 :: ρ)) S)) : Pst (sSet 0 c (x0 :: ρ) S) Q E := s_set h
theorem tn1 {Q : PF.Env → Store → Prop} {x0 : Option D} {x1 : Option D} {d : D} (h : Q (x0 :: some d :: ρ) S) : Pst (tName 1 d (x0 :: x1 :: ρ) S) Q E := h
theorem ss1 {Q : Fl → Store → Prop} {x0 : Option D} {x1 : Option D} {c : EX} (h : Pst (c (x0 :: x1 :: ρ) S) (fun d S => Q (.nx (x0 :: some d :: ρ)) S) (fun x S => Q (.exc x (x0 :: x1 :: ρ)) S)) : Pst (sSet 1 c (x0 :: x1 :: ρ) S) Q E := s_set h
theorem tn2 {Q : PF.Env → Store → Prop} {x0 : Option D} {x1 : Option D} {x2 : Option D} {d : D} (h : Q (x0 :: x1 :: some d :: ρ) S) : Pst (tName 2 d (x0 :: x1 :: x2 :: ρ) S) Q E := h
theorem ss2 {Q : Fl → Store → Prop} {x0 : Option D} {x1 : Option D} {x2 : Option D} {c : EX} (h : Pst (c (x0 :: x1 :: x2 :: ρ) S) (fun d S => Q (.nx (x0 :: x1 :: some d :: ρ)) S) (fun x S => Q (.exc x (x0 :: x1 :: x2 :: ρ)) S)) : Pst (sSet 2 c (x0 :: x1 :: x2 :: ρ) S) Q E := s_set h
theorem tn3 {Q : PF.Env → Store → Prop} {x0 : Option D} {x1 : Option D} {x2 : Option D} {x3 : Option D} {d : D} (h : Q (x0 :: x1 :: x2 :: some d :: ρ) S) : Pst (tName 3 d (x0 :: x1 :: x2 :: x3 :: ρ) S) Q E := h
theorem ss3 {Q : Fl → Store → Prop} {x0 : Option D} {x1 : Option D} {x2 : Option D} {x3 : Option D} {c : EX} (h : Pst (c (x0 :: x1 :: x2 :: x3 :: ρ) S) (fun d S => Q (.nx (x0 :: x1 :: x2 :: some d :: ρ)) S) (fun x S => Q (.exc x (x0 :: x1 :: x2 :: x3 :: ρ)) S)) : Pst (sSet 3 c (x0 :: x1 :: x2 :: x3 :: ρ) S) Q E := s_set h
theorem tn4 {Q : PF.Env → Store → Prop} {x0 : Option D} {x1 : Option D} {x2 : Option D} {x3 : Option D} {x4 : Option D} {d : D} (h : Q (x0 :: x1 :: x2 :: x3 :: some d :: ρ) S) : Pst (tName 4 d (x0 :: x1 :: x2 :: x3 :: x4 :: ρ) S) Q E := h
theorem ss4 {Q : Fl → Store → Prop} {x0 : Option D} {x1 : Option D} {x2 : Option D} {x3 : Option D} {x4 : Option D} {c : EX} (h : Pst (c (x0 :: x1 :: x2 :: x3 :: x4 :: ρ) S) (fun d S => Q (.nx (x0 :: x1 :: x2 :: x3 :: some d :: ρ)) S) (fun x S => Q (.exc x (x0 :: x1 :: x2 :: x3 :: x4 :: ρ)) S)) : Pst (sSet 4 c (x0 :: x1 :: x2 :: x3 :: x4 :: ρ) S) Q E := s_set h
theorem tn5 {Q : PF.Env → Store → Prop} {x0 : Option D} {x1 : Option D} {x2 : Option D} {x3 : Option D} {x4 : Option D} {x5 : Option D} {d : D} (h : Q (x0 :: x1 :: x2 :: x3 :: x4 :: some d :: ρ) S) : Pst (tName 5 d (x0 :: x1 :: x2 :: x3 :: x4 :: x5 :: ρ) S) Q E := h
theorem ss5 {Q : Fl → Store → Prop} {x0 : Option D} {x1 : Option D} {x2 : Option D} {x3 : Option D} {x4 : Option D} {x5 : Option D} {c : EX} (h : Pst (c (x0 :: x1 :: x2 :: x3 :: x4 :: x5 :: ρ) S) (fun d S => Q (.nx (x0 :: x1 :: x2 :: x3 :: x4 :: some d :: ρ)) S) (fun x S => Q (.exc x (x0 :: x1 :: x2 :: x3 :: x4 :: x5 :: ρ)) S)) : Pst (sSet 5 c (x0 :: x1 :: x2 :: x3 :: x4 :: x5 :: ρ) S) Q E := s_set h
theorem tn6 {Q : PF.Env → Store → Prop} {x0 : Option D} {x1 : Option D} {x2 : Option D} {x3 : Option D} {x4 : Option D} {x5 : Option D} {x6 : Option D} {d : D} (h : Q (x0 :: x1 :: x2 :: x3 :: x4 :: x5 :: some d :: ρ) S) : Pst (tName 6 d (x0 :: x1 :: x2 :: x3 :: x4 :: x5 :: x6 :: ρ) S) Q E := h
theorem ss6 {Q : Fl → Store → Prop} {x0 : Option D} {x1 : Option D} {x2 : Option D} {x3 : Option D} {x4 : Option D} {x5 : Option D} {x6 : Option D} {c : EX} (h : Pst (c (x0 :: x1 :: x2 :: x3 :: x4 :: x5 :: x6 :: ρ) S) (fun d S => Q (.nx (x0 :: x1 :: x2 :: x3 :: x4 :: x5 :: some d :: ρ)) S) (fun x S => Q (.exc x (x0 :: x1 :: x2 :: x3 :: x4 :: x5 :: x6 :: ρ)) S)) : Pst (sSet 6 c (x0 :: x1 :: x2 :: x3 :: x4 :: x5 :: x6 :: ρ) S) Q E := s_set h
theorem tn7 {Q : PF.Env → Store → Prop} {x0 : Option D} {x1 : Option D} {x2 : Option D} {x3 : Option D} {x4 : Option D} {x5 : Option D} {x6 : Option D} {x7 : Option D} {d : D} (h : Q (x0 :: x1 :: x2 :: x3 :: x4 :: x5 :: x6 :: some d :: ρ) S) : Pst (tName 7 d (x0 :: x1 :: x2 :: x3 :: x4 :: x5 :: x6 :: x7 :: ρ) S) Q E := h
theorem ss7 {Q : Fl → Store → Prop} {x0 : Option D} {x1 : Option D} {x2 : Option D} {x3 : Option D} {x4 : Option D} {x5 : Option D} {x6 : Option D} {x7 : Option D} {c : EX} (h : Pst (c (x0 :: x1 :: x2 :: x3 :: x4 :: x5 :: x6 :: x7 :: ρ) S) (fun d S => Q (.nx (x0 :: x1 :: x2 :: x3 :: x4 :: x5 :: x6 :: some d :: ρ)) S) (fun x S => Q (.exc x (x0 :: x1 :: x2 :: x3 :: x4 :: x5 :: x6 :: x7 :: ρ)) S)) : Pst (sSet 7 c (x0 :: x1 :: x2 :: x3 :: x4 :: x5 :: x6 :: x7 :: ρ) S) Q E := s_set h
theorem tn8 {Q : PF.Env → Store → Prop} {x0 : Option D} {x1 : Option D} {x2 : Option D} {x3 : Option D} {x4 : Option D} {x5 : Option D} {x6 : Option D} {x7 : Option D} {x8 : Option D} {d : D} (h : Q (x0 :: x1 :: x2 :: x3 :: x4 :: x5 :: x6 :: x7 :: some d :: ρ) S) : Pst (tName 8 d (x0 :: x1 :: x2 :: x3 :: x4 :: x5 :: x6 :: x7 :: x8 :: ρ) S) Q E := h
theorem ss8 {Q : Fl → Store → Prop} {x0 : Option D} {x1 : Option D} {x2 : Option D} {x3 : Option D} {x4 : Option D} {x5 : Option D} {x6 : Option D} {x7 : Option D} {x8 : Option D} {c : EX} (h : Pst (c (x0 :: x1 :: x2 :: x3 :: x4 :: x5 :: x6 :: x7 :: x8 :: ρ) S) (fun d S => Q (.nx (x0 :: x1 :: x2 :: x3 :: x4 :: x5 :: x6 :: x7 :: some d :: ρ)) S) (fun x S => Q (.exc x (x0 :: x1 :: x2 :: x3 :: x4 :: x5 :: x6 :: x7 :: x8 :: ρ)) S)) : Pst (sSet 8 c (x0 :: x1 :: x2 :: x3 :: x4 :: x5 :: x6 :: x7 :: x8 :: ρ) S) Q E := s_set h
theorem tn9 {Q : PF.Env → Store → Prop} {x0 : Option D} {x1 : Option D} {x2 : Option D} {x3 : Option D} {x4 : Option D} {x5 : Option D} {x6 : Option D} {x7 : Option D} {x8 : Option D} {x9 : Option D} {d : D} (h : Q (x0 :: x1 :: x2 :: x3 :: x4 :: x5 :: x6 :: x7 :: x8 :: some d :: ρ) S) : Pst (tName 9 d (x0 :: x1 :: x2 :: x3 :: x4 :: x5 :: x6 :: x7 :: x8 :: x9 :: ρ) S) Q E := h
theorem ss9 {Q : Fl → Store → Prop} {x0 : Option D} {x1 : Option D} {x2 : Option D} {x3 : Option D} {x4 : Option D} {x5 : Option D} {x6 : Option D} {x7 : Option D} {x8 : Option D} {x9 : Option D} {c : EX} (h : Pst (c (x0 :: x1 :: x2 :: x3 :: x4 :: x5 :: x6 :: x7 :: x8 :: x9 :: ρ) S) (fun d S => Q (.nx (x0 :: x1 :: x2 :: x3 :: x4 :: x5 :: x6 :: x7 :: x8 :: some d :: ρ)) S) (fun x S => Q (.exc x (x0 :: x1 :: x2 :: x3 :: x4 :: x5 :: x6 :: x7 :: x8 :: x9 :: ρ)) S)) : Pst (sSet 9 c (x0 :: x1 :: x2 :: x3 :: x4 :: x5 :: x6 :: x7 :: x8 :: x9 :: ρ) S) Q E := s_set h
theorem tn10 {Q : PF.Env → Store → Prop} {x0 : Option D} {x1 : Option D} {x2 : Option D} {x3 : Option D} {x4 : Option D} {x5 : Option D} {x6 : Option D} {x7 : Option D} {x8 : Option D} {x9 : Option D} {x10 : Option D} {d : D} (h : Q (x0 :: x1 :: x2 :: x3 :: x4 :: x5 :: x6 :: x7 :: x8 :: x9 :: some d :: ρ) S) : Pst (tName 10 d (x0 :: x1 :: x2 :: x3 :: x4 :: x5 :: x6 :: x7 :: x8 :: x9 :: x10 :: ρ) S) Q E := h
theorem ss10 {Q : Fl → Store → Prop} {x0 : Option D} {x1 : Option D} {x2 : Option D} {x3 : Option D} {x4 : Option D} {x5 : Option D} {x6 : Option D} {x7 : Option D} {x8 : Option D} {x9 : Option D} {x10 : Option D} {c : EX} (h : Pst (c (x0 :: x1 :: x2 :: x3 :: x4 :: x5 :: x6 :: x7 :: x8 :: x9 :: x10 :: ρ) S) (fun d S => Q (.nx (x0 :: x1 :: x2 :: x3 :: x4 :: x5 :: x6 :: x7 :: x8 :: x9 :: some d :: ρ)) S) (fun x S => Q (.exc x (x0 :: x1 :: x2 :: x3 :: x4 :: x5 :: x6 :: x7 :: x8 :: x9 :: x10 :: ρ)) S)) : Pst (sSet 10 c (x0 :: x1 :: x2 :: x3 :: x4 :: x5 :: x6 :: x7 :: x8 :: x9 :: x10 :: ρ) S) Q E := s_set h
theorem tn11 {Q : PF.Env → Store → Prop} {x0 : Option D} {x1 : Option D} {x2 : Option D} {x3 : Option D} {x4 : Option D} {x5 : Option D} {x6 : Option D} {x7 : Option D} {x8 : Option D} {x9 : Option D} {x10 : Option D} {x11 : Option D} {d : D} (h : Q (x0 :: x1 :: x2 :: x3 :: x4 :: x5 :: x6 :: x7 :: x8 :: x9 :: x10 :: some d :: ρ) S) : Pst (tName 11 d (x0 :: x1 :: x2 :: x3 :: x4 :: x5 :: x6 :: x7 :: x8 :: x9 :: x10 :: x11 :: ρ) S) Q E := h
theorem ss11 {Q : Fl → Store → Prop} {x0 : Option D} {x1 : Option D} {x2 : Option D} {x3 : Option D} {x4 : Option D} {x5 : Option D} {x6 : Option D} {x7 : Option D} {x8 : Option D} {x9 : Option D} {x10 : Option D} {x11 : Option D} {c : EX} (h : Pst (c (x0 :: x1 :: x2 :: x3 :: x4 :: x5 :: x6 :: x7 :: x8 :: x9 :: x10 :: x11 :: ρ) S) (fun d S => Q (.nx (x0 :: x1 :: x2 :: x3 :: x4 :: x5 :: x6 :: x7 :: x8 :: x9 :: x10 :: some d :: ρ)) S) (fun x S => Q (.exc x (x0 :: x1 :: x2 :: x3 :: x4 :: x5 :: x6 :: x7 :: x8 :: x9 :: x10 :: x11 :: ρ)) S)) : Pst (sSet 11 c (x0 :: x1 :: x2 :: x3 :: x4 :: x5 :: x6 :: x7 :: x8 :: x9 :: x10 :: x11 :: ρ) S) Q E := s_set h
theorem tn12 {Q : PF.Env → Store → Prop} {x0 : Option D} {x1 : Option D} {x2 : Option D} {x3 : Option D} {x4 : Option D} {x5 : Option D} {x6 : Option D} {x7 : Option D} {x8 : Option D} {x9 : Option D} {x10 : Option D} {x11 : Option D} {x12 : Option D} {d : D} (h : Q (x0 :: x1 :: x2 :: x3 :: x4 :: x5 :: x6 :: x7 :: x8 :: x9 :: x10 :: x11 :: some d :: ρ) S) : Pst (tName 12 d (x0 :: x1 :: x2 :: x3 :: x4 :: x5 :: x6 :: x7 :: x8 :: x9 :: x10 :: x11 :: x12 :: ρ) S) Q E := h
theorem ss12 {Q : Fl → Store → Prop} {x0 : Option D} {x1 : Option D} {x2 : Option D} {x3 : Option D} {x4 : Option D} {x5 : Option D} {x6 : Option D} {x7 : Option D} {x8 : Option D} {x9 : Option D} {x10 : Option D} {x11 : Option D} {x12 : Option D} {c : EX} (h : Pst (c (x0 :: x1 :: x2 :: x3 :: x4 :: x5 :: x6 :: x7 :: x8 :: x9 :: x10 :: x11 :: x12 :: ρ) S) (fun d S => Q (.nx (x0 :: x1 :: x2 :: x3 :: x4 :: x5 :: x6 :: x7 :: x8 :: x9 :: x10 :: x11 :: some d :: ρ)) S) (fun x S => Q (.exc x (x0 :: x1 :: x2 :: x3 :: x4 :: x5 :: x6 :: x7 :: x8 :: x9 :: x10 :: x11 :: x12 :: ρ)) S)) : Pst (sSet 12 c (x0 :: x1 :: x2 :: x3 :: x4 :: x5 :: x6 :: x7 :: x8 :: x9 :: x10 :: x11 :: x12 :: ρ) S) Q E := s_set h
theorem tn13 {Q : PF.Env → Store → Prop} {x0 : Option D} {x1 : Option D} {x2 : Option D} {x3 : Option D} {x4 : Option D} {x5 : Option D} {x6 : Option D} {x7 : Option D} {x8 : Option D} {x9 : Option D} {x10 : Option D} {x11 : Option D} {x12 : Option D} {x13 : Option D} {d : D} (h : Q (x0 :: x1 :: x2 :: x3 :: x4 :: x5 :: x6 :: x7 :: x8 :: x9 :: x10 :: x11 :: x12 :: some d :: ρ) S) : Pst (tName 13 d (x0 :: x1 :: x2 :: x3 :: x4 :: x5 :: x6 :: x7 :: x8 :: x9 :: x10 :: x11 :: x12 :: x13 :: ρ) S) Q E := h
theorem ss13 {Q : Fl → Store → Prop} {x0 : Option D} {x1 : Option D} {x2 : Option D} {x3 : Option D} {x4 : Option D} {x5 : Option D} {x6 : Option D} {x7 : Option D} {x8 : Option D} {x9 : Option D} {x10 : Option D} {x11 : Option D} {x12 : Option D} {x13 : Option D} {c : EX} (h : Pst (c (x0 :: x1 :: x2 :: x3 :: x4 :: x5 :: x6 :: x7 :: x8 :: x9 :: x10 :: x11 :: x12 :: x13 :: ρ) S) (fun d S => Q (.nx (x0 :: x1 :: x2 :: x3 :: x4 :: x5 :: x6 :: x7 :: x8 :: x9 :: x10 :: x11 :: x12 :: some d :: ρ)) S) (fun x S => Q (.exc x (x0 :: x1 :: x2 :: x3 :: x4 :: x5 :: x6 :: x7 :: x8 :: x9 :: x10 :: x11 :: x12 :: x13 :: ρ)) S)) : Pst (sSet 13 c (x0 :: x1 :: x2 :: x3 :: x4 :: x5 :: x6 :: x7 :: x8 :: x9 :: x10 :: x11 :: x12 :: x13 :: ρ) S) Q E := s_set h
end
theorem pst_id {α : Type} {r : Out α} {Q : α → Store → Prop} {E : XV → Store → Prop} (h : Pst r Q E) : Pst r Q E := h
theorem cut_from {α : Type} (xs : List α) {k : Int} (h : 0 ≤ k) : cutL xs (some k) none = xs.drop k.toNat := by
  obtain ⟨m, rfl⟩ := Int.eq_ofNat_of_zero_le h
  unfold cutL
  rw [HT.sIx_nat, HT.sIx_none, Int.toNat_natCast]
  rcases Nat.le_total m xs.length with h1 | h1
  · rw [Nat.min_eq_left h1, List.take_of_length_le (by simp)]
  · rw [Nat.min_eq_right h1, List.drop_of_length_le h1, List.drop_of_length_le (Nat.le_refl _)]
    simp
theorem cut_mem {α : Type} {xs : List α} {a b : Option Int} {x : α} (h : x ∈ cutL xs a b) : x ∈ xs := List.mem_of_mem_drop (List.mem_of_mem_take h)
theorem cut_len {α : Type} (xs : List α) (a b : Option Int) : (cutL xs a b).length ≤ xs.length := by
  unfold cutL; simp; omega
theorem cut_pure {xs : List D} {a b : Option Int} (h : D.pures xs = true) : D.pures (cutL xs a b) = true := D.pures_iff.mpr fun d hd => D.pures_iff.mp h d (cut_mem hd)
theorem cut_to {α : Type} (xs : List α) {k : Int} (h : 0 ≤ k) : cutL xs none (some k) = xs.take k.toNat := by
  obtain ⟨m, rfl⟩ := Int.eq_ofNat_of_zero_le h
  unfold cutL
  rw [HT.sIx_nat, HT.sIx_none, Int.toNat_natCast]
  rcases Nat.le_total m xs.length with h1 | h1
  · rw [Nat.min_eq_left h1]; simp
  · rw [Nat.min_eq_right h1, List.take_of_length_le h1]; simp
theorem atI_end {α : Type} (xs : List α) : atI xs (-1) = xs.getLast? := by
  unfold atI ixN
  rw [if_neg (by decide)]
  rcases xs with _ | ⟨x, xs⟩
  · rfl
  · rw [if_pos (by simp only [List.length_cons]; omega), List.getLast?_eq_getElem?]
    simp only [Option.bind_some, List.length_cons]
    congr 1
    omega
theorem atI_nat {α : Type} (xs : List α) {i : Int} (h : 0 ≤ i) : atI xs i = xs[i.toNat]? := by
  unfold atI ixN
  rw [if_pos h]
  by_cases h1 : i < xs.length
  · rw [if_pos h1]; rfl
  · rw [if_neg h1, List.getElem?_eq_none (by omega)]; rfl
theorem atI_zero {α : Type} {x : α} {xs : List α} : atI (x :: xs) 0 = some x := by rw [atI_nat _ (by decide)]; rfl
theorem call_go {fr : Bool} {n : Nat} {b : SX} {ds : List D} {S : Store} {Q : D → Store → Prop} {E : XV → Store → Prop} {ρ : PF.Env} (e : startE n ds = ρ) (h : Pst (b ρ S) (fun fl S1 => Pst (exitF fr S.length (some (.ok fl, S1))) Q E) NoE) : Pst (callF fr n b ds S) Q E := by
  rw [call_pst, e]; exact h
theorem call_eq {fr : Bool} {n : Nat} {b : SX} {ds : List D} {S : Store} {d : D} {ρ : PF.Env} (e : startE n ds = ρ) (h : Pst (b ρ S) (fun fl S1 => Pst (exitF fr S.length (some (.ok fl, S1))) (fun x S' => x = d ∧ S' = S) NoE) NoE) : callF fr n b ds S = some (.ok d, S) :=
  Pst.eq.mp (call_go e h)
@[simp] theorem take_same {S : Store} : S.take S.length = S := List.take_of_length_le (Nat.le_refl _)
def D.isI : D → Bool
  | .int _ => true
  | _ => false
theorem zipD_ints (ns ms : List Int) : zipD (ns.map D.int) (ms.map D.int) = (ns.zip ms).map fun p => D.tup [.int p.1, .int p.2] := by
  induction ns generalizing ms with
  | nil => simp [zipD]
  | cons n ns ih => cases ms with
    | nil => simp [zipD]
    | cons m ms => simp [zipD, ih]
theorem filterMap_map {α β γ : Type} (f : α → β) (g : β → Option γ) (h : α → γ) (l : List α) (e : ∀ a ∈ l, g (f a) = some (h a)) : (l.map f).filterMap g = l.map h := by
  induction l with
  | nil => rfl
  | cons a l ih =>
    rw [List.map_cons, List.filterMap_cons, e a (List.mem_cons_self ..), ih fun b hb => e b (List.mem_cons_of_mem _ hb)]
    rfl
theorem blsOf_mapM {α : Type} {l : List α} {p : α → Bool} : blsOf (l.map fun a => D.bl (p a)) = some (l.map p) := by
  induction l with
  | nil => rfl
  | cons n ns ih => simp [blsOf, ih]
theorem b_allM {α : Type} {l : List α} {p : α → Bool} {S : Store} : bAll [.lst (l.map fun a => D.bl (p a))] S = some (.ok (.bl (l.all p)), S) := by
  simp [bAll, bL1, asL, blsOf_mapM, List.all_map]
theorem b_anyM {α : Type} {l : List α} {p : α → Bool} {S : Store} : bAny [.lst (l.map fun a => D.bl (p a))] S = some (.ok (.bl (l.any p)), S) := by
  simp [bAny, bL1, asL, blsOf_mapM, List.any_map]
theorem r_comp {src : IX} {js : List Nat} {tgt : TX} {test : BX} {elt : EX} {ρ : PF.Env} {S : Store} {Q : D → Store → Prop} {E : XV → Store → Prop}
    (h : Pst (src ρ S) (fun so S0 => Pst (cComp (fun _ _ => some (.ok so, S0)) js tgt test elt ρ S) Q E) E) : Pst (cComp src js tgt test elt ρ S) Q E := by
  unfold cComp at h ⊢
  match hs : src ρ S with
  | none => rw [hs] at h; exact h.elim
  | some (.error x, S1) => rw [hs] at h; exact h
  | some (.ok so, S1) => rw [hs] at h; exact h
/-- a list of a function's values over what is walked -/
theorem comp_map {src : IX} {js : List Nat} {tgt : TX} {elt : EX} {so : Src} {ρ : PF.Env} {S : Store} {α : Type} (l : List α) (f g : α → D)
    (hsrc : src ρ S = some (.ok so, S)) (hs : srcAt so S = some (l.map f)) (hs1 : ∀ acc, srcAt so (S ++ [acc]) = some (l.map f)) (hl : l.length ≤ lim)
    (hg : ∀ a ∈ l, ∀ acc, (g a).pure = true ∧ Pst (tgt (f a) (wipeE ρ js) (S ++ [acc])) (fun ρ1 S2 => Pst (elt ρ1 S2) (fun y S2 => y = g a ∧ S2 = S ++ [acc]) NoE) NoE) :
    cComp src js tgt bYes elt ρ S = some (.ok (.lst (l.map g)), S) := by
  refine Pst.eq.mp (comp_inv (so := so) (ds := l.map f) (fun i acc S1 => S1 = S ∧ acc = (l.take i).map g) hsrc ?_ hs (by rw [List.length_map]; exact hl) ⟨rfl, rfl⟩ ?_ ?_)
  · rintro i acc S1 ⟨rfl, rfl⟩
    exact ⟨rfl, hs1 _⟩
  · rintro i d acc S1 hd ⟨rfl, ha⟩
    rw [List.getElem?_map] at hd
    obtain ⟨a, ha', rfl⟩ := Option.map_eq_some_iff.mp hd
    have hm : a ∈ l := List.mem_of_getElem? ha'
    have ht : l.take (i + 1) = l.take i ++ [a] := by
      have h1 : i < l.length := by
        rcases Nat.lt_or_ge i l.length with h | h
        · exact h
        · rw [List.getElem?_eq_none h] at ha'; cases ha'
      rw [List.getElem?_eq_getElem h1] at ha'
      cases ha'
      exact List.take_succ_eq_append_getElem h1
    refine (hg a hm acc).2.mono (fun ρ1 S2 h => bool_yes ⟨fun _ => h.mono (fun y S2 h => ?_) fun _ _ h => h, fun hb => by cases hb⟩) fun _ _ h => h
    exact ⟨S1, h.2, by rw [h.1]; exact (hg a hm acc).1, rfl, by rw [ht, List.map_append, ← ha, h.1]; rfl⟩
  · rintro acc S1 ⟨rfl, rfl⟩
    rw [List.length_map, List.take_length]
    exact ⟨rfl, rfl⟩
theorem pures_mapI {ns : List Int} : D.pures (ns.map D.int) = true := by
  refine D.pures_iff.mpr fun d hd => ?_
  obtain ⟨i, _, rfl⟩ := List.mem_map.mp hd
  rfl

end PF
set_option Elab.async false
set_option linter.all false
set_option maxRecDepth 100000
set_option maxHeartbeats 4000000
/-! PFR: what repr asks of small data; numbers as data. -/
namespace PF
open PySem L2 Evl PySem.Spec PyProof.Rows
structure RP (k m : Nat) (d : D) : Prop where
  pure : d.pure = true
  show_ : d.py.showable = true
  leaf : PyData.leavesShort 13 d.py = true
  weight : d.py.weight ≤ m
  depth : d.py.depth ≤ k
theorem RP.mono {k m k' m' : Nat} {d : D} (h : RP k m d) (hk : k ≤ k') (hm : m ≤ m') : RP k' m' d := ⟨h.pure, h.show_, h.leaf, Nat.le_trans h.weight hm, Nat.le_trans h.depth hk⟩
theorem ro_int {i : Int} (h : -1000000000000 < i ∧ i < 1000000000000) : RP 0 41 (.int i) := by
  have h1 : i.natAbs < 10 ^ 12 := by
    have e : (10 : Nat) ^ 12 = 1000000000000 := by decide
    rw [e]; omega
  refine ⟨rfl, ?_, ?_, ?_, Nat.le_refl _⟩
  · show decide (i.natAbs.log2 < 1920) = true
    refine decide_eq_true ?_
    by_cases h0 : i.natAbs = 0
    · rw [h0]; decide
    · exact (Nat.log2_lt h0).mpr (Nat.lt_of_lt_of_le h1 (by decide +kernel))
  · show decide ((PyData.shown (.int i)).length ≤ 13) = true
    refine decide_eq_true ?_
    show (Str.ofString (toString i)).length ≤ 13
    rw [PySem.ofString_length]
    exact int_text_length_le10 (k := 12) (by decide) h1
  · show (if i == 0 then 0 else i.natAbs.log2 + 1) ≤ 41
    split
    · omega
    · rename_i hx
      have h0 : i.natAbs ≠ 0 := by simpa using hx
      have := (Nat.log2_lt h0 (k := 40)).mpr (Nat.lt_of_lt_of_le h1 (by decide +kernel))
      omega
theorem ro_non : RP 0 0 .non := ⟨rfl, rfl, rfl, Nat.le_refl _, Nat.le_refl _⟩
theorem ro_bl {b : Bool} : RP 0 0 (.bl b) := ⟨rfl, rfl, rfl, Nat.le_refl _, Nat.le_refl _⟩
theorem ros_pure {k m : Nat} {ds : List D} (h : ∀ d ∈ ds, RP k m d) : D.pures ds = true := D.pures_iff.mpr fun d hd => (h d hd).pure
theorem ros_show {k m : Nat} : ∀ {ds : List D}, (∀ d ∈ ds, RP k m d) → PyData.showableAll (D.pys ds) = true
  | [], _ => rfl
  | d :: ds, h => by
    simp only [D.pys, PyData.showableAll, (h d (List.mem_cons_self ..)).show_, ros_show fun x hx => h x (List.mem_cons_of_mem _ hx), Bool.and_self]
theorem ros_leaf {k m : Nat} : ∀ {ds : List D}, (∀ d ∈ ds, RP k m d) → PyData.leavesShortAll 13 (D.pys ds) = true
  | [], _ => rfl
  | d :: ds, h => by
    simp only [D.pys, PyData.leavesShortAll, (h d (List.mem_cons_self ..)).leaf, ros_leaf fun x hx => h x (List.mem_cons_of_mem _ hx), Bool.and_self]
theorem ros_weight {k m : Nat} : ∀ {ds : List D}, (∀ d ∈ ds, RP k m d) → PyData.weightAll (D.pys ds) ≤ (m + 1) * ds.length
  | [], _ => Nat.zero_le _
  | d :: ds, h => by
    have h1 := (h d (List.mem_cons_self ..)).weight
    have h2 := ros_weight fun x hx => h x (List.mem_cons_of_mem _ hx)
    simp only [D.pys, PyData.weightAll, List.length_cons, Nat.mul_add, Nat.mul_one]
    omega
theorem ros_depth {k m : Nat} : ∀ {ds : List D}, (∀ d ∈ ds, RP k m d) → PyData.depthAll (D.pys ds) ≤ k
  | [], _ => Nat.zero_le _
  | d :: ds, h => by
    have h1 := (h d (List.mem_cons_self ..)).depth
    have h2 := ros_depth fun x hx => h x (List.mem_cons_of_mem _ hx)
    simp only [D.pys, PyData.depthAll]
    omega
theorem ro_tup {k m : Nat} {ds : List D} (h : ∀ d ∈ ds, RP k m d) : RP (k + 1) ((m + 1) * ds.length) (.tup ds) := by
  refine ⟨by rw [D.pure]; exact ros_pure h, by rw [D.py, PyData.showable]; exact ros_show h, by rw [D.py, PyData.leavesShort]; exact ros_leaf h, by rw [D.py, PyData.weight]; exact ros_weight h, ?_⟩
  rw [D.py, PyData.depth]
  have := ros_depth h
  omega
theorem ro_lst {k m : Nat} {ds : List D} (h : ∀ d ∈ ds, RP k m d) : RP (k + 1) ((m + 1) * ds.length) (.lst ds) := by
  refine ⟨by rw [D.pure]; exact ros_pure h, by rw [D.py, PyData.showable]; exact ros_show h, by rw [D.py, PyData.leavesShort]; exact ros_leaf h, by rw [D.py, PyData.weight]; exact ros_weight h, ?_⟩
  rw [D.py, PyData.depth]
  have := ros_depth h
  omega
theorem ros_nil {k m : Nat} : ∀ d ∈ ([] : List D), RP k m d := fun _ h => by cases h
theorem ros_cons {k m : Nat} {d : D} {ds : List D} (h : RP k m d) (hs : ∀ x ∈ ds, RP k m x) : ∀ x ∈ d :: ds, RP k m x := fun x hx => by
  rcases List.mem_cons.mp hx with rfl | hx
  · exact h
  · exact hs x hx
theorem ro_ok {k m : Nat} {d : D} (h : RP k m d) (hk : k ≤ 60) (hm : m ≤ 700000) : reprOk d = true := by
  have h1 := PyData.shown_le 13 (by decide) d.py h.leaf
  have h2 := h.weight
  have h3 := h.depth
  have e : sizeLine = 16777216 := rfl
  unfold reprOk
  simp only [Bool.and_eq_true, decide_eq_true_eq]
  refine ⟨⟨⟨h.pure, h.show_⟩, by omega⟩, ?_⟩
  rw [e]; omega
theorem repr_eq {d : D} (h : reprOk d = true) {S : Store} : bRepr [d] S = some (.ok (.str d.py.shown), S) := by
  have e : told S d = d := by
    cases d <;> first | rfl | skip
    unfold reprOk at h
    simp [D.pure] at h
  unfold bRepr
  simp only [e, h, if_true]
/-! ### numbers -/
def nD (k : Nat) : D := .int (k : Int)
theorem ranged_nD (n : Nat) : ranged 0 n = (List.range n).map nD := by
  refine List.ext_getElem? fun i => ?_
  by_cases hi : i < n
  · rw [ranged_get _ _ _ hi, List.getElem?_map, List.getElem?_range hi, Int.zero_add]; rfl
  · rw [List.getElem?_eq_none (by rw [ranged_len]; omega), List.getElem?_eq_none (by simp; omega)]
abbrev tI (ns : List Int) : D := .tup (ns.map D.int)
theorem pures_nD {ks : List Nat} : D.pures (ks.map nD) = true := by
  refine D.pures_iff.mpr fun d hd => ?_
  obtain ⟨i, _, rfl⟩ := List.mem_map.mp hd
  rfl
/-- an item of a tuple of numbers -/
theorem ix_int {ns : List Int} {k : Int} {S : Store} {Q : D → Store → Prop} {E : XV → Store → Prop} {x : D} (hx : asS x S = some (ns.map D.int)) (h0 : 0 ≤ k ∧ k < ns.length) (h : Q (.int (ns.getD k.toNat 0)) S) : Pst (oIx x (.int k) S) Q E := by
  refine o1_ix ⟨_, _, hx, ?_, h⟩
  rw [atI_nat _ h0.1, List.getElem?_map]
  have : k.toNat < ns.length := by omega
  rw [List.getD_eq_getElem?_getD, List.getElem?_eq_getElem this]
  rfl
end PF
set_option Elab.async false
set_option linter.all false
set_option maxRecDepth 100000
set_option maxHeartbeats 4000000
/-! PFW: a well of draws in the store; sorted numbers; membership. -/
namespace PF
open PySem L2 Evl PySem.Spec PyProof.Rows
/-- a well stands at n -/
def Well (n : Nat) (S : Store) : Prop := ∃ g a b, S[n]? = some [.int g, .int a, .int b]
/-- nothing but the well has changed -/
def Fr (n : Nat) (S S' : Store) : Prop := Well n S' ∧ S'.length = S.length ∧ ∀ m, m ≠ n → S'[m]? = S[m]?
theorem Fr.refl {n : Nat} {S : Store} (h : Well n S) : Fr n S S := ⟨h, rfl, fun _ _ => rfl⟩
theorem Fr.trans {n : Nat} {S S' S'' : Store} (h : Fr n S S') (h' : Fr n S' S'') : Fr n S S'' := ⟨h'.1, h'.2.1.trans h.2.1, fun m hm => (h'.2.2 m hm).trans (h.2.2 m hm)⟩
theorem Well.put {n : Nat} {S : Store} {x : List D} {g a b : Int} (h : S[n]? = some x) : Fr n S (S.set n [.int g, .int a, .int b]) :=
  ⟨⟨g, a, b, set_get _ h⟩, by simp, fun m hm => by rw [List.getElem?_set_ne (fun e => hm e.symm)]⟩
theorem len_of {n : Nat} {S : Store} (h : Well n S) : n < S.length := by
  obtain ⟨g, a, b, h⟩ := h
  rcases Nat.lt_or_ge n S.length with h1 | h1
  · exact h1
  · rw [List.getElem?_eq_none h1] at h; cases h
theorem Fr.take {n : Nat} {S S' : Store} (h : Fr n S S') : S'.take S.length = S' := List.take_of_length_le (by rw [h.2.1]; exact Nat.le_refl _)
theorem atI_ok {α : Type} {xs : List α} {i : Int} (h : 0 ≤ i ∧ i < xs.length) : ∃ d, atI xs i = some d ∧ d ∈ xs ∧ xs[i.toNat]? = some d := by
  have h1 : i.toNat < xs.length := by omega
  refine ⟨xs[i.toNat], ?_, List.getElem_mem _, List.getElem?_eq_getElem h1⟩
  simp only [atI, ixN, if_pos h.1, if_pos h.2, Option.bind_some, List.getElem?_eq_getElem h1]
def Bnd (lo hi : Int) (ds : List D) : Prop := ∀ d ∈ ds, ∃ i, d = D.int i ∧ lo ≤ i ∧ i ≤ hi
theorem bnd_nil {lo hi : Int} : Bnd lo hi [] := fun _ h => by cases h
theorem bnd_cons {lo hi i : Int} {ds : List D} (h : lo ≤ i ∧ i ≤ hi) (hb : Bnd lo hi ds) : Bnd lo hi (.int i :: ds) := by
  intro d hd
  rcases List.mem_cons.mp hd with rfl | hd
  · exact ⟨i, rfl, h⟩
  · exact hb d hd
/-- more may have been laid behind -/
def FrX (n : Nat) (S S' : Store) : Prop := Well n S' ∧ S.length ≤ S'.length ∧ ∀ m, m < S.length → m ≠ n → S'[m]? = S[m]?
theorem Fr.x {n : Nat} {S S' : Store} (h : Fr n S S') : FrX n S S' := ⟨h.1, by rw [h.2.1]; exact Nat.le_refl _, fun m _ hn => h.2.2 m hn⟩
theorem FrX.trans {n : Nat} {S S' S'' : Store} (h : FrX n S S') (h' : FrX n S' S'') : FrX n S S'' := ⟨h'.1, Nat.le_trans h.2.1 h'.2.1, fun m hm hn => (h'.2.2 m (Nat.lt_of_lt_of_le hm h.2.1) hn).trans (h.2.2 m hm hn)⟩
theorem FrX.cut {n : Nat} {S S' : Store} (h : FrX n S S') (hn : n < S.length) : Fr n S (S'.take S.length) := by
  obtain ⟨⟨g, a, b, hw⟩, hl, hm⟩ := h
  refine ⟨⟨g, a, b, by rw [List.getElem?_take_of_lt hn]; exact hw⟩, by simp; omega, fun m hne => ?_⟩
  by_cases h1 : m < S.length
  · rw [List.getElem?_take_of_lt h1]; exact hm m h1 hne
  · rw [List.getElem?_eq_none (by simp; omega), List.getElem?_eq_none (by omega)]
theorem Well.more {n : Nat} {S : Store} (h : Well n S) (x : List D) : Well n (S ++ [x]) := by
  have := len_of h
  obtain ⟨g, a, b, h⟩ := h
  exact ⟨g, a, b, by rw [List.getElem?_append_left this]; exact h⟩
theorem FrX.lay {n : Nat} {S : Store} (h : Well n S) (x : List D) : FrX n S (S ++ [x]) := ⟨h.more x, by simp, fun m hm _ => List.getElem?_append_left hm⟩
theorem Well.other {n m : Nat} {S : Store} (h : Well n S) (hm : m ≠ n) (x : List D) : Well n (S.set m x) := by
  obtain ⟨g, a, b, h⟩ := h
  exact ⟨g, a, b, by rw [List.getElem?_set_ne hm]; exact h⟩
theorem Fr.back {n : Nat} {S S2 : Store} {x : List D} (hw : Well n S) (h : Fr n (S ++ [x]) S2) : ∃ S3, S2 = S3 ++ [x] ∧ Fr n S S3 := by
  have hn := len_of hw
  have hl : S2.length = S.length + 1 := by rw [h.2.1]; simp
  have e : S2[S.length]? = some x := by rw [h.2.2 _ (by omega)]; simp
  refine ⟨S2.take S.length, ?_, ?_⟩
  · have h2 : S.length < S2.length := by omega
    rw [List.getElem?_eq_getElem h2] at e
    cases e
    have := List.take_succ_eq_append_getElem h2
    rw [← this, List.take_of_length_le (by omega)]
  · obtain ⟨g, a, b, hg⟩ := h.1
    refine ⟨⟨g, a, b, by rw [List.getElem?_take_of_lt hn]; exact hg⟩, by simp; omega, fun m hm => ?_⟩
    by_cases h1 : m < S.length
    · rw [List.getElem?_take_of_lt h1, h.2.2 m hm, List.getElem?_append_left h1]
    · rw [List.getElem?_eq_none (by simp; omega), List.getElem?_eq_none (by omega)]
theorem insI_mem (x : Int) : ∀ (l : List Int) (y : Int), y ∈ insI x l ↔ y = x ∨ y ∈ l
  | [], y => by simp [insI]
  | a :: l, y => by
    unfold insI
    split
    · simp
    · simp only [List.mem_cons, insI_mem x l y]
      constructor
      · rintro (h | h | h) <;> simp [h]
      · rintro (h | h | h) <;> simp [h]
theorem insI_len (x : Int) : ∀ l : List Int, (insI x l).length = l.length + 1
  | [] => rfl
  | a :: l => by
    unfold insI
    split
    · simp
    · simp [insI_len x l]
theorem insI_pw (x : Int) : ∀ l : List Int, l.Pairwise (· ≤ ·) → (insI x l).Pairwise (· ≤ ·)
  | [], _ => by simp [insI]
  | a :: l, h => by
    unfold insI
    have h1 := List.pairwise_cons.mp h
    split
    · rename_i hx
      refine List.pairwise_cons.mpr ⟨fun y hy => ?_, h⟩
      rcases List.mem_cons.mp hy with rfl | hy
      · exact hx
      · exact Int.le_trans hx (h1.1 y hy)
    · rename_i hx
      refine List.pairwise_cons.mpr ⟨fun y hy => ?_, insI_pw x l h1.2⟩
      rcases (insI_mem x l y).mp hy with rfl | hy
      · omega
      · exact h1.1 y hy
theorem sortI_len : ∀ l : List Int, (sortI l).length = l.length
  | [] => rfl
  | a :: l => by simp [sortI, insI_len, sortI_len l]
theorem sortI_mem : ∀ (l : List Int) (y : Int), y ∈ sortI l ↔ y ∈ l
  | [], y => by simp [sortI]
  | a :: l, y => by simp [sortI, insI_mem, sortI_mem l y]
theorem sortI_pw : ∀ l : List Int, (sortI l).Pairwise (· ≤ ·)
  | [] => by simp [sortI]
  | a :: l => insI_pw a _ (sortI_pw l)
theorem Fr.at {n m : Nat} {S S' : Store} {x : List D} (h : Fr n S S') (hm : m ≠ n) (e : S[m]? = some x) : S'[m]? = some x := (h.2.2 m hm).trans e
theorem Fr.putX {n m : Nat} {S S' : Store} (h : FrX n S S') (hm : S.length ≤ m) (hn : n < S.length) (x : List D) : FrX n S (S'.set m x) :=
  ⟨h.1.other (by omega) x, by rw [List.length_set]; exact h.2.1, fun k hk hkn => by rw [List.getElem?_set_ne (by omega)]; exact h.2.2 k hk hkn⟩
theorem any_ints (ns : List Int) (v : Int) : ((ns.map D.int).any fun e => D.eqv e (.int v)) = decide (v ∈ ns) := by
  induction ns with
  | nil => simp
  | cons n ns ih =>
    rw [List.map_cons, List.any_cons, ih]
    by_cases h : v = n
    · subst h; simp [D.eqv]
    · have h2 : (n == v) = false := by simpa using fun e => h e.symm
      simp [D.eqv, h, h2]
theorem flat_ints (ns : List Int) : (ns.map D.int).all flatD = true := by
  rw [List.all_eq_true]
  intro d hd
  obtain ⟨i, _, rfl⟩ := List.mem_map.mp hd
  rfl
theorem in_ints {neg : Bool} {ns : List Int} {v : Int} {x : D} {S : Store} (hx : asS x S = some (ns.map D.int)) : oInA neg (.int v) x S = some (.ok (.bl (if neg then !decide (v ∈ ns) else decide (v ∈ ns))), S) := by
  have e : oIn neg (.int v) x S = some (.ok (.bl (if neg then !decide (v ∈ ns) else decide (v ∈ ns))), S) := by
    unfold oIn
    rw [hx]
    dsimp only
    rw [if_pos ⟨rfl, flat_ints ns⟩, any_ints]
  cases x <;> first | exact e | (cases hx)
theorem nat_ints (l : List Nat) : l.map nD = (l.map Int.ofNat).map D.int := by rw [List.map_map]; rfl
theorem in_nats {neg : Bool} {l : List Nat} {v : Nat} {x : D} {S : Store} (hx : asS x S = some (l.map nD)) : oInA neg (nD v) x S = some (.ok (.bl (if neg then !decide (v ∈ l) else decide (v ∈ l))), S) := by
  rw [nat_ints] at hx
  have h := in_ints (neg := neg) (v := (v : Int)) hx
  have e : ((v : Int) ∈ l.map Int.ofNat) ↔ v ∈ l := by
    constructor
    · intro h
      obtain ⟨k, hk, e⟩ := List.mem_map.mp h
      have e : k = v := Int.ofNat.inj e
      rw [← e]; exact hk
    · exact fun h => List.mem_map.mpr ⟨v, h, rfl⟩
  have e2 : decide ((v : Int) ∈ l.map Int.ofNat) = decide (v ∈ l) := by simp only [e]
  rw [e2] at h
  exact h
/-- numbers within bounds -/
def InB (lo hi : Int) (ns : List Int) : Prop := ∀ v ∈ ns, lo ≤ v ∧ v ≤ hi
theorem InB.bnd {lo hi : Int} {ns : List Int} (h : InB lo hi ns) : Bnd lo hi (ns.map D.int) := fun d hd => by
  obtain ⟨i, hi, rfl⟩ := List.mem_map.mp hd
  exact ⟨i, rfl, h i hi⟩
theorem InB.set {lo hi : Int} {ns : List Int} (h : InB lo hi ns) {v : Int} (hv : lo ≤ v ∧ v ≤ hi) (k : Nat) : InB lo hi (ns.set k v) := fun x hx => by
  rcases List.mem_or_eq_of_mem_set hx with hx | rfl
  · exact h x hx
  · exact hv
theorem put_ints {S : Store} {m : Nat} {k v : Int} {ns : List Int} {Q : Store → Prop} (e : S[m]? = some (ns.map D.int)) (hk : 0 ≤ k ∧ k < ns.length)
    (h : ∀ S', S' = S.set m ((ns.set k.toNat v).map D.int) → S'[m]? = some ((ns.set k.toNat v).map D.int) → Q S') : Put S m k (.int v) Q := by
  refine ⟨_, k.toNat, e, ?_, rfl, ?_⟩
  · unfold ixN
    rw [if_pos hk.1, List.length_map, if_pos hk.2]
  · have e2 : (ns.map D.int).set k.toNat (.int v) = (ns.set k.toNat v).map D.int := by rw [List.map_set]
    rw [e2]
    exact h _ rfl (set_get _ e)
theorem b_sortedL {S : Store} {x : D} {ns : List Int} (hx : asL x S = some (ns.map D.int)) : bSortedA [x] S = some (.ok (.lst ((sortI ns).map D.int)), S) := by
  have e : bSorted [x] S = some (.ok (.lst ((sortI ns).map D.int)), S) := by simp only [bSorted, bL1, hx, intsOf_map]
  have e2 : bSortedTI [x] S = none := by cases x <;> first | rfl | (cases hx)
  unfold bSortedA
  rw [e2]
  exact e
theorem b_sortedT {S : Store} {ns : List Int} : bSortedA [tI ns] S = some (.ok (.lst ((sortI ns).map D.int)), S) := by
  have e2 : bSortedTI [tI ns] S = some (.ok (.lst ((sortI ns).map D.int)), S) := by
    unfold bSortedTI tI
    simp only [intsOf_map]
  unfold bSortedA
  rw [e2]
theorem getD_in {lo hi : Int} {ns : List Int} (h : InB lo hi ns) {k : Int} (hk : 0 ≤ k ∧ k < ns.length) : lo ≤ ns.getD k.toNat 0 ∧ ns.getD k.toNat 0 ≤ hi := by
  have h1 : k.toNat < ns.length := by omega
  rw [List.getD_eq_getElem?_getD, List.getElem?_eq_getElem h1]
  exact h _ (List.getElem_mem h1)
theorem getN_in {lo hi : Int} {ns : List Int} (h : InB lo hi ns) {k : Nat} (hk : k < ns.length) : lo ≤ ns.getD k 0 ∧ ns.getD k 0 ≤ hi := by
  rw [List.getD_eq_getElem?_getD, List.getElem?_eq_getElem hk]
  exact h _ (List.getElem_mem hk)
theorem InB.sort {lo hi : Int} {ns : List Int} (h : InB lo hi ns) : InB lo hi (sortI ns).reverse := fun x hx => h x ((sortI_mem ns x).mp (List.mem_reverse.mp hx))
theorem InB.add {lo hi : Int} {ns : List Int} (h : InB lo hi ns) {v : Int} (hv : lo ≤ v ∧ v ≤ hi) : InB lo hi (ns ++ [v]) := fun x hx => by
  rcases List.mem_append.mp hx with hx | hx
  · exact h x hx
  · rw [List.mem_singleton] at hx; subst hx; exact hv
theorem InB.nil {lo hi : Int} : InB lo hi [] := fun _ h => by cases h
theorem ranged_at {lo : Int} {n i : Nat} {d : D} (h : (ranged lo n)[i]? = some d) : i < n ∧ d = .int (lo + i) := by
  rcases Nat.lt_or_ge i n with h1 | h1
  · rw [ranged_get _ _ _ h1] at h
    exact ⟨h1, (Option.some.inj h).symm⟩
  · rw [List.getElem?_eq_none (by rw [ranged_len]; exact h1)] at h; cases h
theorem ne_same {a : Str} {S : Store} : oNeA (.str a) (.str a) S = some (.ok (.bl false), S) := by
  have e : oNeS (.str a) (.str a) S = some (.ok (.bl (!(a == a))), S) := rfl
  unfold oNeA
  rw [e, beq_self_eq_true]
  rfl
theorem eq_same {a : Str} {S : Store} : oEqA (.str a) (.str a) S = some (.ok (.bl true), S) := by
  have e : oEqS (.str a) (.str a) S = some (.ok (.bl (a == a)), S) := rfl
  unfold oEqA
  rw [e, beq_self_eq_true]
theorem ix_last {ns : List Int} {S : Store} {Q : D → Store → Prop} {E : XV → Store → Prop} (h0 : 1 ≤ ns.length) (h : Q (.int (ns.getD (ns.length - 1) 0)) S) : Pst (oIx (tI ns) (.int (-1)) S) Q E := by
  refine o1_ix ⟨_, _, rfl, ?_, h⟩
  rw [atI_end, List.getLast?_map, List.getLast?_eq_getElem?, List.getD_eq_getElem?_getD, List.getElem?_eq_getElem (by omega)]
  rfl
end PF
set_option Elab.async false
set_option linter.all false
set_option maxRecDepth 100000
set_option maxHeartbeats 4000000
/-! PFC: comprehensions by a list of Lean's. -/
namespace PF
open PySem L2 Evl
theorem comp_filter {js : List Nat} {tgt : TX} {test : BX} {elt : EX} {so : Src} {ρ : PF.Env} {S : Store} {Q : D → Store → Prop} {E : XV → Store → Prop} {α : Type} (l : List α) (f g : α → D) (p : α → Bool)
    (hs : srcAt so S = some (l.map f)) (hs1 : ∀ acc, srcAt so (S ++ [acc]) = some (l.map f)) (hl : l.length ≤ lim)
    (hg : ∀ a ∈ l, ∀ acc, Pst (tgt (f a) (wipeE ρ js) (S ++ [acc])) (fun ρ1 S2 => Pst (test ρ1 S2) (fun b S2 => S2 = S ++ [acc] ∧ b = p a ∧ (b = true → Pst (elt ρ1 S2) (fun y S2 => y = g a ∧ S2 = S ++ [acc] ∧ (g a).pure = true) NoE)) NoE) NoE)
    (k : Q (.lst ((l.filter p).map g)) S) : Pst (cComp (fun _ _ => some (.ok so, S)) js tgt test elt ρ S) Q E := by
  refine comp_inv (so := so) (ds := l.map f) (fun i acc S1 => S1 = S ∧ acc = ((l.take i).filter p).map g) rfl ?_ hs (by rw [List.length_map]; exact hl) ⟨rfl, rfl⟩ ?_ ?_
  · rintro i acc S1 ⟨rfl, rfl⟩
    exact ⟨rfl, hs1 _⟩
  · rintro i d acc S1 hd ⟨rfl, ha⟩
    rw [List.getElem?_map] at hd
    obtain ⟨a, ha', rfl⟩ := Option.map_eq_some_iff.mp hd
    have hm : a ∈ l := List.mem_of_getElem? ha'
    have ht : l.take (i + 1) = l.take i ++ [a] := by
      have h1 : i < l.length := by
        rcases Nat.lt_or_ge i l.length with h | h
        · exact h
        · rw [List.getElem?_eq_none h] at ha'; cases ha'
      rw [List.getElem?_eq_getElem h1] at ha'
      cases ha'
      exact List.take_succ_eq_append_getElem h1
    refine (hg a hm acc).mono (fun ρ1 S2 h => h.mono (fun b S2 h => ?_) fun _ _ h => h) fun _ _ h => h
    obtain ⟨e, eb, h⟩ := h
    refine ⟨fun hb => (h hb).mono (fun y S3 h => ?_) fun _ _ h => h, fun hb => ?_⟩
    · refine ⟨S1, h.2.1, by rw [h.1]; exact h.2.2, rfl, ?_⟩
      rw [ht, List.filter_append, List.filter_cons_of_pos (by rw [← eb, hb]), List.filter_nil, List.map_append, ← ha, h.1]; rfl
    · refine ⟨S1, e, rfl, ?_⟩
      rw [ht, List.filter_append, List.filter_cons_of_neg (by rw [← eb, hb]; decide), List.filter_nil, List.append_nil]
      exact ha
  · rintro acc S1 ⟨rfl, rfl⟩
    rw [List.length_map, List.take_length]
    exact k
end PF
set_option Elab.async false
set_option linter.all false
set_option maxRecDepth 100000
set_option maxHeartbeats 4000000
namespace LW
open PySem L2 Evl PySem.Spec PyProof.Rows PF
local macro_rules | `(tactic| trivial) => `(tactic| first
  | (with_reducible first | refine v0 ?_ | refine v1 ?_ | refine v2 ?_ | refine v3 ?_ | refine v4 ?_ | refine v5 ?_ | refine v6 ?_ | refine v7 ?_ | refine v8 ?_ | refine v9 ?_ | refine v10 ?_ | refine v11 ?_ | refine v12 ?_ | refine v13 ?_ | refine tn0 ?_ | refine tn1 ?_ | refine tn2 ?_ | refine tn3 ?_ | refine tn4 ?_ | refine tn5 ?_ | refine tn6 ?_ | refine tn7 ?_ | refine tn8 ?_ | refine tn9 ?_ | refine tn10 ?_ | refine tn11 ?_ | refine tn12 ?_ | refine tn13 ?_ | refine ss0 ?_ | refine ss1 ?_ | refine ss2 ?_ | refine ss3 ?_ | refine ss4 ?_ | refine ss5 ?_ | refine ss6 ?_ | refine ss7 ?_ | refine ss8 ?_ | refine ss9 ?_ | refine ss10 ?_ | refine ss11 ?_ | refine ss12 ?_ | refine ss13 ?_)
  | (with_reducible first | refine r_k ?_ | refine r_bin ?_ | refine r_cons ?_ | refine r_nil ?_ | refine r_call ?_ | refine r_blt ?_ | refine r_un ?_ | refine r_ok ?_ | refine s_seq ?_ | refine s_ret ?_ | refine s_if ?_ | refine s_expr ?_ | refine s_asg ?_ | refine s_par ?_ | refine s_nil ?_ | refine s_brk ?_ | refine s_ct ?_ | refine s_for ?_ | refine bool_t ?_ | refine bool_and ?_ | refine bool_or ?_ | refine bool_not ?_ | refine bool_yes ?_ | refine r_and ?_ | refine r_or ?_ | refine r_not ?_ | refine r_ife ?_ | refine r_chain ?_ | refine r_isi ?_ | refine r_lam ?_ | refine r_back ?_ | refine r_listR1 ?_ | refine r_callK ?_ | refine r_mt ?_ | refine r_alloc ?_ | refine r_sliceA ?_ | refine r_sliceL ?_ | refine r_no ?_ | refine r_part ?_ | refine r_scope ?_ | refine t_nil ?_ | refine t_cons ?_ | refine q_seq ?_ | refine q_range ?_ | refine q_range2 ?_ | refine q_rangeD ?_ | refine q_enumA ?_ | refine nx_nx ?_ | refine nx_ret ?_ | refine nx_exc ?_ | refine nx_brk ?_ | refine nx_ct ?_ | refine bl_bl ?_ | refine cs_not ?_ | refine cs_t ?_ | refine cs_f ?_ | refine r_bind ?_ | refine r_nox ?_ | refine t_sub ?_ | refine s_retL ?_ | refine o1_sub ?_ | refine o1_add ?_ | refine o1_lt ?_ | refine o1_le ?_ | refine o1_gt ?_ | refine o1_ge ?_ | refine o1_neg ?_ | refine o1_eq ?_ | refine o1_ne ?_ | refine b1_abs ?_ | refine b1_int ?_ | refine b1_min2 ?_ | refine b1_max2 ?_ | refine o1_eqA ?_ | refine o1_neA ?_ | refine o1_eqS ?_ | refine o1_isN ?_ | refine o1_notN ?_ | refine x_bl ?_ | refine x_int ?_ | refine x_str ?_ | refine x_non ?_ | refine x_nx ?_ | refine x_tup ?_ | refine x_lst ?_ | refine sl_tup ?_ | refine sl_lst ?_ | refine sl_fz ?_ | refine sL_lst ?_ | refine sL_fz ?_)
  | (with_reducible first | refine r_tup ?_ | refine r_lst ?_ | refine o1_addT ?_ | refine o1_addL ?_ | refine b1_len ?_ | refine b1_tuple ?_ | refine b1_list ?_ | refine o1_cat ?_ | refine m1_append ?_ | refine o_pow10_1 ?_ | refine o_pow10_2 ?_ | refine o_pow10_3 ?_ | refine o_pow10_4 ?_ | refine o_pow10_5 ?_ | refine o_pow10_6 ?_ | refine o_pow10_7 ?_ | refine o_pow10_8 ?_ | refine o_pow10_9 ?_ | refine o_pow10_10 ?_ | refine o_pow10_11 ?_ | refine o_pow10_12 ?_ | refine o_pow10_13 ?_ | refine o_pow10_14 ?_ | refine o_pow10_15 ?_ | refine o_pow10_16 ?_ | refine o_pow10_17 ?_ | refine o_pow10_18 ?_ | refine o_pow10_20 ?_ | refine o_pow10_30 ?_)
  | ((with_reducible refine o1_ix ?_); refine ⟨_, _, by first | rfl | assumption, by first | rfl | exact atI_zero, ?_⟩)
  | ((with_reducible refine o1_mul ?_ ?_); first | omega | decide | fail)
  | ((with_reducible refine o1_div ?_ ?_); first | omega | decide | fail)
  | ((with_reducible refine o1_mod ?_ ?_); first | omega | decide | fail)
  | ((with_reducible refine b1_divmod ?_ ?_); first | omega | decide | fail)
  | ((with_reducible refine t_tup ?_ ?_); rfl)
  | ((with_reducible refine r_callV ?_ ?_); rfl)
  | (with_reducible refine cs_dec (fun _ => ?_) (fun _ => ?_))
  | (with_reducible refine cs_beq (fun _ => ?_) (fun _ => ?_))
  | ((with_reducible refine cs_te ?_ ?_); rfl)
  | ((with_reducible refine cs_fe ?_ ?_); rfl)
  | ((with_reducible refine put0 (by assumption) ?_ fun _ => ?_); first | rfl | fail)
  | ((with_reducible refine put1 (by assumption) ?_ fun _ => ?_); first | rfl | fail)
  | ((with_reducible refine put2 (by assumption) ?_ fun _ => ?_); first | rfl | fail)
  | ((fail_if_success (with_reducible refine pst_id ?_)); first
    | exact take_same
    | (with_reducible refine fun (_ : Nat) (_ : Store) (_ : _ = _) (_ : _ = _) (_ : _ = _) => ?_)
    | ((fail_if_success (with_reducible refine And.intro ?_ ?_)); refine ⟨_, by first | rfl | assumption, ?_⟩)
    | ((fail_if_success (with_reducible refine And.intro ?_ ?_)); refine ⟨_, _, rfl, ?_⟩)
    | ((fail_if_success (with_reducible refine And.intro ?_ ?_)); refine ⟨_, _, by first | rfl | assumption, rfl, ?_⟩)
    | ((with_reducible refine And.intro ?_ ?_); first | exact rfl | omega | (simp only [List.length_map]; omega) | exact ⟨rfl, rfl⟩ | exact Nat.le_of_ble_eq_true rfl | fail)))
local macro_rules | `(tactic| done) => `(tactic| first
  | (with_reducible first | refine v0 ?_ | refine v1 ?_ | refine v2 ?_ | refine v3 ?_ | refine v4 ?_ | refine v5 ?_ | refine v6 ?_ | refine v7 ?_ | refine v8 ?_ | refine v9 ?_ | refine v10 ?_ | refine v11 ?_ | refine v12 ?_ | refine v13 ?_ | refine tn0 ?_ | refine tn1 ?_ | refine tn2 ?_ | refine tn3 ?_ | refine tn4 ?_ | refine tn5 ?_ | refine tn6 ?_ | refine tn7 ?_ | refine tn8 ?_ | refine tn9 ?_ | refine tn10 ?_ | refine tn11 ?_ | refine tn12 ?_ | refine tn13 ?_ | refine ss0 ?_ | refine ss1 ?_ | refine ss2 ?_ | refine ss3 ?_ | refine ss4 ?_ | refine ss5 ?_ | refine ss6 ?_ | refine ss7 ?_ | refine ss8 ?_ | refine ss9 ?_ | refine ss10 ?_ | refine ss11 ?_ | refine ss12 ?_ | refine ss13 ?_)
  | (with_reducible first | refine r_k ?_ | refine r_bin ?_ | refine r_cons ?_ | refine r_nil ?_ | refine r_call ?_ | refine r_blt ?_ | refine r_un ?_ | refine r_ok ?_ | refine s_seq ?_ | refine s_ret ?_ | refine s_if ?_ | refine s_expr ?_ | refine s_asg ?_ | refine s_par ?_ | refine s_nil ?_ | refine s_brk ?_ | refine s_ct ?_ | refine s_for ?_ | refine bool_t ?_ | refine bool_and ?_ | refine bool_or ?_ | refine bool_not ?_ | refine bool_yes ?_ | refine r_and ?_ | refine r_or ?_ | refine r_not ?_ | refine r_ife ?_ | refine r_chain ?_ | refine r_isi ?_ | refine r_lam ?_ | refine r_back ?_ | refine r_listR1 ?_ | refine r_callK ?_ | refine r_mt ?_ | refine r_alloc ?_ | refine r_sliceA ?_ | refine r_sliceL ?_ | refine r_no ?_ | refine r_part ?_ | refine r_scope ?_ | refine t_nil ?_ | refine t_cons ?_ | refine q_seq ?_ | refine q_range ?_ | refine q_range2 ?_ | refine q_rangeD ?_ | refine q_enumA ?_ | refine nx_nx ?_ | refine nx_ret ?_ | refine nx_exc ?_ | refine nx_brk ?_ | refine nx_ct ?_ | refine bl_bl ?_ | refine cs_not ?_ | refine cs_t ?_ | refine cs_f ?_ | refine r_bind ?_ | refine r_nox ?_ | refine t_sub ?_ | refine s_retL ?_ | refine o1_sub ?_ | refine o1_add ?_ | refine o1_lt ?_ | refine o1_le ?_ | refine o1_gt ?_ | refine o1_ge ?_ | refine o1_neg ?_ | refine o1_eq ?_ | refine o1_ne ?_ | refine b1_abs ?_ | refine b1_int ?_ | refine b1_min2 ?_ | refine b1_max2 ?_ | refine o1_eqA ?_ | refine o1_neA ?_ | refine o1_eqS ?_ | refine o1_isN ?_ | refine o1_notN ?_ | refine x_bl ?_ | refine x_int ?_ | refine x_str ?_ | refine x_non ?_ | refine x_nx ?_ | refine x_tup ?_ | refine x_lst ?_ | refine sl_tup ?_ | refine sl_lst ?_ | refine sl_fz ?_ | refine sL_lst ?_ | refine sL_fz ?_)
  | (with_reducible first | refine r_tup ?_ | refine r_lst ?_ | refine o1_addT ?_ | refine o1_addL ?_ | refine b1_len ?_ | refine b1_tuple ?_ | refine b1_list ?_ | refine o1_cat ?_ | refine m1_append ?_ | refine o_pow10_1 ?_ | refine o_pow10_2 ?_ | refine o_pow10_3 ?_ | refine o_pow10_4 ?_ | refine o_pow10_5 ?_ | refine o_pow10_6 ?_ | refine o_pow10_7 ?_ | refine o_pow10_8 ?_ | refine o_pow10_9 ?_ | refine o_pow10_10 ?_ | refine o_pow10_11 ?_ | refine o_pow10_12 ?_ | refine o_pow10_13 ?_ | refine o_pow10_14 ?_ | refine o_pow10_15 ?_ | refine o_pow10_16 ?_ | refine o_pow10_17 ?_ | refine o_pow10_18 ?_ | refine o_pow10_20 ?_ | refine o_pow10_30 ?_)
  | ((with_reducible refine o1_ix ?_); refine ⟨_, _, by first | rfl | assumption, by first | rfl | exact atI_zero, ?_⟩)
  | ((with_reducible refine o1_mul ?_ ?_); first | omega | decide | fail)
  | ((with_reducible refine o1_div ?_ ?_); first | omega | decide | fail)
  | ((with_reducible refine o1_mod ?_ ?_); first | omega | decide | fail)
  | ((with_reducible refine b1_divmod ?_ ?_); first | omega | decide | fail)
  | ((with_reducible refine t_tup ?_ ?_); rfl)
  | ((with_reducible refine r_callV ?_ ?_); rfl)
  | (with_reducible refine cs_dec (fun _ => ?_) (fun _ => ?_))
  | (with_reducible refine cs_beq (fun _ => ?_) (fun _ => ?_))
  | ((with_reducible refine cs_te ?_ ?_); rfl)
  | ((with_reducible refine cs_fe ?_ ?_); rfl)
  | ((with_reducible refine put0 (by assumption) ?_ fun _ => ?_); first | rfl | fail)
  | ((with_reducible refine put1 (by assumption) ?_ fun _ => ?_); first | rfl | fail)
  | ((with_reducible refine put2 (by assumption) ?_ fun _ => ?_); first | rfl | fail)
  | ((fail_if_success (with_reducible refine pst_id ?_)); first
    | exact take_same
    | (with_reducible refine fun (_ : Nat) (_ : Store) (_ : _ = _) (_ : _ = _) (_ : _ = _) => ?_)
    | ((fail_if_success (with_reducible refine And.intro ?_ ?_)); refine ⟨_, by first | rfl | assumption, ?_⟩)
    | ((fail_if_success (with_reducible refine And.intro ?_ ?_)); refine ⟨_, _, rfl, ?_⟩)
    | ((fail_if_success (with_reducible refine And.intro ?_ ?_)); refine ⟨_, _, by first | rfl | assumption, rfl, ?_⟩)
    | ((with_reducible refine And.intro ?_ ?_); first | exact rfl | omega | (simp only [List.length_map]; omega) | exact ⟨rfl, rfl⟩ | exact Nat.le_of_ble_eq_true rfl | fail))
  | ((fail_if_success (with_reducible refine pst_id ?_)); first | (with_reducible rfl) | assumption | contradiction))
/-! the law's urn -/
theorem take_ok {n : Nat} {S : Store} (h : Well n S) {l : Int} (hl : 0 < l ∧ l < 1073741824) : Pst (F__law_take [.loc n, .int l] S) (fun d S' => ∃ r, d = .int r ∧ 0 ≤ r ∧ r < l ∧ Fr n S S') NoE := by
  obtain ⟨g, a, b, hS⟩ := h
  unfold F__law_take b__law_take
  refine call_go rfl ?_
  dsimp only [startE, List.map, List.replicate, List.length, List.cons_append, List.nil_append, Nat.reduceAdd, Nat.reduceSub]
  repeat' trivial
  all_goals refine ⟨?_, ?_, ?_⟩
  · exact Int.emod_nonneg _ (by omega)
  · exact Int.emod_lt_of_pos _ hl.1
  · rw [List.take_of_length_le (by simp)]
    exact Well.put hS
  · exact Int.emod_nonneg _ (by omega)
  · exact Int.emod_lt_of_pos _ hl.1
  · rw [List.take_of_length_le (by simp), List.set_set]
    exact Well.put hS
theorem take_go {n : Nat} {S : Store} {l : Int} {Q : D → Store → Prop} {E : XV → Store → Prop} (h : Well n S) (hl : 0 < l ∧ l < 1073741824) (k : ∀ r S', 0 ≤ r → r < l → Fr n S S' → Well n S' → Q (.int r) S') : Pst (F__law_take [.loc n, .int l] S) Q E := by
  refine Pst.imp (take_ok h hl) ?_
  rintro _ S1 ⟨r, rfl, r0, r1, hf⟩
  exact k r S1 r0 r1 hf hf.1
/-- one of a list or a tuple -/
theorem of_any {n : Nat} {S : Store} (h : Well n S) {x : D} {ds : List D} (hx : ∀ S, asS x S = some ds) (h0 : 0 < ds.length ∧ ds.length < 1000000) (hp : D.pures ds = true) : Pst (F__law_of [.loc n, x] S) (fun d S' => d ∈ ds ∧ d.pure = true ∧ Fr n S S') NoE := by
  unfold F__law_of b__law_of
  refine call_go rfl ?_
  dsimp only [startE, List.map, List.replicate, List.length, List.cons_append, List.nil_append, Nat.reduceAdd, Nat.reduceSub]
  repeat' trivial
  refine ⟨_, hx _, ?_⟩
  repeat' trivial
  refine Pst.imp (take_ok h (by omega)) ?_
  rintro _ S1 ⟨r, rfl, r0, r1, hf⟩
  obtain ⟨d, hd, hm, _⟩ := atI_ok (xs := ds) ⟨r0, r1⟩
  refine o1_ix ⟨_, _, hx _, hd, ?_⟩
  have hq := D.pures_iff.mp hp d hm
  rw [exit_pure hq, hf.take]
  exact ⟨hm, hq, hf⟩
theorem of_mem {n : Nat} {S : Store} {x : D} (ns : List Int) {Q : D → Store → Prop} {E : XV → Store → Prop} (h : Well n S) (hx : ∀ S, asS x S = some (ns.map D.int)) (h0 : 0 < ns.length ∧ ns.length < 1000000) (k : ∀ r S', r ∈ ns → Fr n S S' → Well n S' → Q (.int r) S') : Pst (F__law_of [.loc n, x] S) Q E := by
  refine Pst.imp (of_any h hx (by rw [List.length_map]; exact h0) pures_mapI) ?_
  rintro d S1 ⟨hd, _, hf⟩
  obtain ⟨r, hr, rfl⟩ := List.mem_map.mp hd
  exact k r S1 hr hf hf.1
theorem of_go (lo hi : Int) {n : Nat} {S : Store} {ds : List D} {Q : D → Store → Prop} {E : XV → Store → Prop} (h : Well n S) (h0 : 0 < ds.length ∧ ds.length < 1000000) (hb : Bnd lo hi ds) (k : ∀ r S', lo ≤ r → r ≤ hi → Fr n S S' → Well n S' → Q (.int r) S') : Pst (F__law_of [.loc n, .lst ds] S) Q E := by
  refine Pst.imp (of_any h (fun _ => rfl) h0 (D.pures_iff.mpr fun d hd => ?_)) ?_
  · obtain ⟨i, rfl, _⟩ := hb d hd
    rfl
  rintro d S1 ⟨hd, _, hf⟩
  obtain ⟨i, rfl, h1, h2⟩ := hb d hd
  exact k i S1 h1 h2 hf hf.1
theorem b_lenS {z : Str} (h : z.length ≤ 1000) {S : Store} : bLen [.str z] S = some (.ok (.int z.length), S) := if_pos (Nat.le_trans h (by decide))
theorem ix_str {z : Str} {k : Int} {S : Store} {Q : D → Store → Prop} {E : XV → Store → Prop} (hl : z.length ≤ 1000) (h0 : 0 ≤ k ∧ k < z.length) (h : ∀ c, c ∈ z.cps.toList → z.cps.toList[k.toNat]? = some c → Q (.str ⟨#[c]⟩) S) : Pst (oIx (.str z) (.int k) S) Q E := by
  have hk : k.toNat < z.cps.toList.length := by
    show k.toNat < z.cps.toList.length
    rw [Array.length_toList]
    have : z.length = z.cps.size := rfl
    omega
  have e : oIx (.str z) (.int k) S = some (.ok (.str ⟨#[z.cps.toList[k.toNat]]⟩), S) := by
    show (if z.length ≤ lim then (match atI z.cps.toList k with
      | some c => some (Except.ok (D.str ⟨#[c]⟩), S)
      | none => none) else none) = _
    rw [if_pos (Nat.le_trans hl (by decide)), atI_nat _ h0.1, List.getElem?_eq_getElem hk]
  rw [e]
  exact h _ (List.getElem_mem hk) (List.getElem?_eq_getElem hk)
/-- one letter of a text -/
theorem of_str {n : Nat} {S : Store} (h : Well n S) {z : Str} {Q : D → Store → Prop} {E : XV → Store → Prop} (h0 : 0 < z.length ∧ z.length ≤ 1000) (k : ∀ c S', c ∈ z.cps.toList → Fr n S S' → Well n S' → Q (.str ⟨#[c]⟩) S') : Pst (F__law_of [.loc n, .str z] S) Q E := by
  unfold F__law_of b__law_of
  refine call_go rfl ?_
  dsimp only [startE, List.map, List.replicate, List.length, List.cons_append, List.nil_append, Nat.reduceAdd, Nat.reduceSub]
  repeat' (first | (with_reducible refine r_eq (b_lenS h0.2) ?_) | trivial)
  refine Pst.imp (take_ok h (by omega)) ?_
  rintro _ S1 ⟨r, rfl, r0, r1, hf⟩
  refine ix_str h0.2 ⟨r0, r1⟩ fun c hc _ => ?_
  rw [exit_pure rfl, hf.take]
  exact k c S1 hc hf hf.1
theorem urn_ok {ns : List Int} (hl : ns.length ≤ 63) {k : Int} (h0 : 0 ≤ k) {S : Store} : Pst (F__law_urn [.fz (ns.map D.int), .int k] S) (fun d S' => (∃ g a b, d = .lst [.int g, .int a, .int b]) ∧ S' = S) NoE := by
  unfold F__law_urn b__law_urn
  refine call_go rfl ?_
  dsimp only [startE, List.map, List.replicate, List.length, List.cons_append, List.nil_append, Nat.reduceAdd, Nat.reduceSub]
  repeat' trivial
  generalize 621041 + 8111 * k = mixed
  refine for_of (fun i ρ S' => ∃ st x3, ρ = [some (.fz (ns.map D.int)), some (.int k), some (.int st), x3, none] ∧ S' = S) ⟨_, _, rfl, rfl⟩ (fun _ _ _ _ => rfl) ?_ ?_
  · rintro i d ρ S' hd ⟨st, x3, rfl, rfl⟩
    obtain ⟨v, _, rfl⟩ := List.mem_map.mp (cut_mem (List.mem_of_getElem? hd))
    repeat' trivial
  · rintro ρ S' ⟨st, x3, rfl, rfl⟩
    repeat' trivial
    · rename_i hlt
      rw [List.length_map] at hlt
      refine ix_int (ns := ns) rfl ⟨h0, hlt⟩ ?_
      generalize ns.getD k.toNat 0 = cell
      repeat' trivial
      all_goals exact ⟨⟨_, _, _, rfl⟩, take_same⟩
    · all_goals exact ⟨⟨_, _, _, rfl⟩, take_same⟩
end LW
set_option Elab.async false
set_option linter.all false
set_option maxRecDepth 100000
set_option maxHeartbeats 4000000
namespace LW
open PySem L2 Evl PySem.Spec PyProof.Rows PF
local macro_rules | `(tactic| trivial) => `(tactic| first
  | (with_reducible first | refine v0 ?_ | refine v1 ?_ | refine v2 ?_ | refine v3 ?_ | refine v4 ?_ | refine v5 ?_ | refine v6 ?_ | refine v7 ?_ | refine v8 ?_ | refine v9 ?_ | refine v10 ?_ | refine v11 ?_ | refine v12 ?_ | refine v13 ?_ | refine tn0 ?_ | refine tn1 ?_ | refine tn2 ?_ | refine tn3 ?_ | refine tn4 ?_ | refine tn5 ?_ | refine tn6 ?_ | refine tn7 ?_ | refine tn8 ?_ | refine tn9 ?_ | refine tn10 ?_ | refine tn11 ?_ | refine tn12 ?_ | refine tn13 ?_ | refine ss0 ?_ | refine ss1 ?_ | refine ss2 ?_ | refine ss3 ?_ | refine ss4 ?_ | refine ss5 ?_ | refine ss6 ?_ | refine ss7 ?_ | refine ss8 ?_ | refine ss9 ?_ | refine ss10 ?_ | refine ss11 ?_ | refine ss12 ?_ | refine ss13 ?_)
  | (with_reducible first | refine r_k ?_ | refine r_bin ?_ | refine r_cons ?_ | refine r_nil ?_ | refine r_call ?_ | refine r_blt ?_ | refine r_un ?_ | refine r_ok ?_ | refine s_seq ?_ | refine s_ret ?_ | refine s_if ?_ | refine s_expr ?_ | refine s_asg ?_ | refine s_par ?_ | refine s_nil ?_ | refine s_brk ?_ | refine s_ct ?_ | refine s_for ?_ | refine bool_t ?_ | refine bool_and ?_ | refine bool_or ?_ | refine bool_not ?_ | refine bool_yes ?_ | refine r_and ?_ | refine r_or ?_ | refine r_not ?_ | refine r_ife ?_ | refine r_chain ?_ | refine r_isi ?_ | refine r_lam ?_ | refine r_back ?_ | refine r_listR1 ?_ | refine r_callK ?_ | refine r_mt ?_ | refine r_alloc ?_ | refine r_sliceA ?_ | refine r_sliceL ?_ | refine r_no ?_ | refine r_part ?_ | refine r_scope ?_ | refine t_nil ?_ | refine t_cons ?_ | refine q_seq ?_ | refine q_range ?_ | refine q_range2 ?_ | refine q_rangeD ?_ | refine q_enumA ?_ | refine nx_nx ?_ | refine nx_ret ?_ | refine nx_exc ?_ | refine nx_brk ?_ | refine nx_ct ?_ | refine bl_bl ?_ | refine cs_not ?_ | refine cs_t ?_ | refine cs_f ?_ | refine r_bind ?_ | refine r_nox ?_ | refine t_sub ?_ | refine s_retL ?_ | refine o1_sub ?_ | refine o1_add ?_ | refine o1_lt ?_ | refine o1_le ?_ | refine o1_gt ?_ | refine o1_ge ?_ | refine o1_neg ?_ | refine o1_eq ?_ | refine o1_ne ?_ | refine b1_abs ?_ | refine b1_int ?_ | refine b1_min2 ?_ | refine b1_max2 ?_ | refine o1_eqA ?_ | refine o1_neA ?_ | refine o1_eqS ?_ | refine o1_isN ?_ | refine o1_notN ?_ | refine x_bl ?_ | refine x_int ?_ | refine x_str ?_ | refine x_non ?_ | refine x_nx ?_ | refine x_tup ?_ | refine x_lst ?_ | refine sl_tup ?_ | refine sl_lst ?_ | refine sl_fz ?_ | refine sL_lst ?_ | refine sL_fz ?_)
  | (with_reducible first | refine r_tup ?_ | refine r_lst ?_ | refine o1_addT ?_ | refine o1_addL ?_ | refine b1_len ?_ | refine b1_tuple ?_ | refine b1_list ?_ | refine o1_cat ?_ | refine m1_append ?_ | refine o_pow10_1 ?_ | refine o_pow10_2 ?_ | refine o_pow10_3 ?_ | refine o_pow10_4 ?_ | refine o_pow10_5 ?_ | refine o_pow10_6 ?_ | refine o_pow10_7 ?_ | refine o_pow10_8 ?_ | refine o_pow10_9 ?_ | refine o_pow10_10 ?_ | refine o_pow10_11 ?_ | refine o_pow10_12 ?_ | refine o_pow10_13 ?_ | refine o_pow10_14 ?_ | refine o_pow10_15 ?_ | refine o_pow10_16 ?_ | refine o_pow10_17 ?_ | refine o_pow10_18 ?_ | refine o_pow10_20 ?_ | refine o_pow10_30 ?_)
  | ((with_reducible refine o1_ix ?_); refine ⟨_, _, by first | rfl | assumption, by first | rfl | exact atI_zero, ?_⟩)
  | ((with_reducible refine o1_mul ?_ ?_); first | omega | decide | fail)
  | ((with_reducible refine o1_div ?_ ?_); first | omega | decide | fail)
  | ((with_reducible refine o1_mod ?_ ?_); first | omega | decide | fail)
  | ((with_reducible refine b1_divmod ?_ ?_); first | omega | decide | fail)
  | ((with_reducible refine t_tup ?_ ?_); rfl)
  | ((with_reducible refine r_callV ?_ ?_); rfl)
  | (with_reducible refine cs_dec (fun _ => ?_) (fun _ => ?_))
  | (with_reducible refine cs_beq (fun _ => ?_) (fun _ => ?_))
  | ((with_reducible refine cs_te ?_ ?_); rfl)
  | ((with_reducible refine cs_fe ?_ ?_); rfl)
  | ((with_reducible refine put0 (by assumption) ?_ fun _ => ?_); first | rfl | fail)
  | ((with_reducible refine put1 (by assumption) ?_ fun _ => ?_); first | rfl | fail)
  | ((with_reducible refine put2 (by assumption) ?_ fun _ => ?_); first | rfl | fail)
  | ((fail_if_success (with_reducible refine pst_id ?_)); first
    | exact take_same
    | (with_reducible refine fun (_ : Nat) (_ : Store) (_ : _ = _) (_ : _ = _) (_ : _ = _) => ?_)
    | ((fail_if_success (with_reducible refine And.intro ?_ ?_)); refine ⟨_, by first | rfl | assumption, ?_⟩)
    | ((fail_if_success (with_reducible refine And.intro ?_ ?_)); refine ⟨_, _, rfl, ?_⟩)
    | ((fail_if_success (with_reducible refine And.intro ?_ ?_)); refine ⟨_, _, by first | rfl | assumption, rfl, ?_⟩)
    | ((with_reducible refine And.intro ?_ ?_); first | exact rfl | omega | (simp only [List.length_map]; omega) | exact ⟨rfl, rfl⟩ | exact Nat.le_of_ble_eq_true rfl | fail))
  | ((with_reducible refine take_go (by assumption) ?_ ?_); (first | omega | (simp only [List.length_map]; omega) | fail); intro _ _ _ _ _ _)
  | ((with_reducible refine of_go (0) (1) (by assumption) ?_ ?_ ?_); (exact ⟨Nat.zero_lt_succ _, Nat.le_of_ble_eq_true rfl⟩); (focus ((repeat (first | exact bnd_nil | refine bnd_cons (by omega) ?_)); (all_goals fail))); intro _ _ _ _ _ _)
  | ((with_reducible refine of_go (1) (4) (by assumption) ?_ ?_ ?_); (exact ⟨Nat.zero_lt_succ _, Nat.le_of_ble_eq_true rfl⟩); (focus ((repeat (first | exact bnd_nil | refine bnd_cons (by omega) ?_)); (all_goals fail))); intro _ _ _ _ _ _)
  | ((with_reducible refine of_go (0) (5) (by assumption) ?_ ?_ ?_); (exact ⟨Nat.zero_lt_succ _, Nat.le_of_ble_eq_true rfl⟩); (focus ((repeat (first | exact bnd_nil | refine bnd_cons (by omega) ?_)); (all_goals fail))); intro _ _ _ _ _ _)
  | ((with_reducible refine of_go (0) (6) (by assumption) ?_ ?_ ?_); (exact ⟨Nat.zero_lt_succ _, Nat.le_of_ble_eq_true rfl⟩); (focus ((repeat (first | exact bnd_nil | refine bnd_cons (by omega) ?_)); (all_goals fail))); intro _ _ _ _ _ _)
  | ((with_reducible refine of_go (0) (12) (by assumption) ?_ ?_ ?_); (exact ⟨Nat.zero_lt_succ _, Nat.le_of_ble_eq_true rfl⟩); (focus ((repeat (first | exact bnd_nil | refine bnd_cons (by omega) ?_)); (all_goals fail))); intro _ _ _ _ _ _)
  | ((with_reducible refine of_go (0) (17) (by assumption) ?_ ?_ ?_); (exact ⟨Nat.zero_lt_succ _, Nat.le_of_ble_eq_true rfl⟩); (focus ((repeat (first | exact bnd_nil | refine bnd_cons (by omega) ?_)); (all_goals fail))); intro _ _ _ _ _ _)
  | ((with_reducible refine of_go (60) (900) (by assumption) ?_ ?_ ?_); (exact ⟨Nat.zero_lt_succ _, Nat.le_of_ble_eq_true rfl⟩); (focus ((repeat (first | exact bnd_nil | refine bnd_cons (by omega) ?_)); (all_goals fail))); intro _ _ _ _ _ _)
  | ((with_reducible refine of_go (9) (1000000) (by assumption) ?_ ?_ ?_); (exact ⟨Nat.zero_lt_succ _, Nat.le_of_ble_eq_true rfl⟩); (focus ((repeat (first | exact bnd_nil | refine bnd_cons (by omega) ?_)); (all_goals fail))); intro _ _ _ _ _ _)
  | ((with_reducible refine of_go (1) (1000000) (by assumption) ?_ ?_ ?_); (exact ⟨Nat.zero_lt_succ _, Nat.le_of_ble_eq_true rfl⟩); (focus ((repeat (first | exact bnd_nil | refine bnd_cons (by omega) ?_)); (all_goals fail))); intro _ _ _ _ _ _)
  | ((with_reducible refine of_go (0) (12000000) (by assumption) ?_ ?_ ?_); (exact ⟨Nat.zero_lt_succ _, Nat.le_of_ble_eq_true rfl⟩); (focus ((repeat (first | exact bnd_nil | refine bnd_cons (by omega) ?_)); (all_goals fail))); intro _ _ _ _ _ _))
local macro_rules | `(tactic| done) => `(tactic| first
  | (with_reducible first | refine v0 ?_ | refine v1 ?_ | refine v2 ?_ | refine v3 ?_ | refine v4 ?_ | refine v5 ?_ | refine v6 ?_ | refine v7 ?_ | refine v8 ?_ | refine v9 ?_ | refine v10 ?_ | refine v11 ?_ | refine v12 ?_ | refine v13 ?_ | refine tn0 ?_ | refine tn1 ?_ | refine tn2 ?_ | refine tn3 ?_ | refine tn4 ?_ | refine tn5 ?_ | refine tn6 ?_ | refine tn7 ?_ | refine tn8 ?_ | refine tn9 ?_ | refine tn10 ?_ | refine tn11 ?_ | refine tn12 ?_ | refine tn13 ?_ | refine ss0 ?_ | refine ss1 ?_ | refine ss2 ?_ | refine ss3 ?_ | refine ss4 ?_ | refine ss5 ?_ | refine ss6 ?_ | refine ss7 ?_ | refine ss8 ?_ | refine ss9 ?_ | refine ss10 ?_ | refine ss11 ?_ | refine ss12 ?_ | refine ss13 ?_)
  | (with_reducible first | refine r_k ?_ | refine r_bin ?_ | refine r_cons ?_ | refine r_nil ?_ | refine r_call ?_ | refine r_blt ?_ | refine r_un ?_ | refine r_ok ?_ | refine s_seq ?_ | refine s_ret ?_ | refine s_if ?_ | refine s_expr ?_ | refine s_asg ?_ | refine s_par ?_ | refine s_nil ?_ | refine s_brk ?_ | refine s_ct ?_ | refine s_for ?_ | refine bool_t ?_ | refine bool_and ?_ | refine bool_or ?_ | refine bool_not ?_ | refine bool_yes ?_ | refine r_and ?_ | refine r_or ?_ | refine r_not ?_ | refine r_ife ?_ | refine r_chain ?_ | refine r_isi ?_ | refine r_lam ?_ | refine r_back ?_ | refine r_listR1 ?_ | refine r_callK ?_ | refine r_mt ?_ | refine r_alloc ?_ | refine r_sliceA ?_ | refine r_sliceL ?_ | refine r_no ?_ | refine r_part ?_ | refine r_scope ?_ | refine t_nil ?_ | refine t_cons ?_ | refine q_seq ?_ | refine q_range ?_ | refine q_range2 ?_ | refine q_rangeD ?_ | refine q_enumA ?_ | refine nx_nx ?_ | refine nx_ret ?_ | refine nx_exc ?_ | refine nx_brk ?_ | refine nx_ct ?_ | refine bl_bl ?_ | refine cs_not ?_ | refine cs_t ?_ | refine cs_f ?_ | refine r_bind ?_ | refine r_nox ?_ | refine t_sub ?_ | refine s_retL ?_ | refine o1_sub ?_ | refine o1_add ?_ | refine o1_lt ?_ | refine o1_le ?_ | refine o1_gt ?_ | refine o1_ge ?_ | refine o1_neg ?_ | refine o1_eq ?_ | refine o1_ne ?_ | refine b1_abs ?_ | refine b1_int ?_ | refine b1_min2 ?_ | refine b1_max2 ?_ | refine o1_eqA ?_ | refine o1_neA ?_ | refine o1_eqS ?_ | refine o1_isN ?_ | refine o1_notN ?_ | refine x_bl ?_ | refine x_int ?_ | refine x_str ?_ | refine x_non ?_ | refine x_nx ?_ | refine x_tup ?_ | refine x_lst ?_ | refine sl_tup ?_ | refine sl_lst ?_ | refine sl_fz ?_ | refine sL_lst ?_ | refine sL_fz ?_)
  | (with_reducible first | refine r_tup ?_ | refine r_lst ?_ | refine o1_addT ?_ | refine o1_addL ?_ | refine b1_len ?_ | refine b1_tuple ?_ | refine b1_list ?_ | refine o1_cat ?_ | refine m1_append ?_ | refine o_pow10_1 ?_ | refine o_pow10_2 ?_ | refine o_pow10_3 ?_ | refine o_pow10_4 ?_ | refine o_pow10_5 ?_ | refine o_pow10_6 ?_ | refine o_pow10_7 ?_ | refine o_pow10_8 ?_ | refine o_pow10_9 ?_ | refine o_pow10_10 ?_ | refine o_pow10_11 ?_ | refine o_pow10_12 ?_ | refine o_pow10_13 ?_ | refine o_pow10_14 ?_ | refine o_pow10_15 ?_ | refine o_pow10_16 ?_ | refine o_pow10_17 ?_ | refine o_pow10_18 ?_ | refine o_pow10_20 ?_ | refine o_pow10_30 ?_)
  | ((with_reducible refine o1_ix ?_); refine ⟨_, _, by first | rfl | assumption, by first | rfl | exact atI_zero, ?_⟩)
  | ((with_reducible refine o1_mul ?_ ?_); first | omega | decide | fail)
  | ((with_reducible refine o1_div ?_ ?_); first | omega | decide | fail)
  | ((with_reducible refine o1_mod ?_ ?_); first | omega | decide | fail)
  | ((with_reducible refine b1_divmod ?_ ?_); first | omega | decide | fail)
  | ((with_reducible refine t_tup ?_ ?_); rfl)
  | ((with_reducible refine r_callV ?_ ?_); rfl)
  | (with_reducible refine cs_dec (fun _ => ?_) (fun _ => ?_))
  | (with_reducible refine cs_beq (fun _ => ?_) (fun _ => ?_))
  | ((with_reducible refine cs_te ?_ ?_); rfl)
  | ((with_reducible refine cs_fe ?_ ?_); rfl)
  | ((with_reducible refine put0 (by assumption) ?_ fun _ => ?_); first | rfl | fail)
  | ((with_reducible refine put1 (by assumption) ?_ fun _ => ?_); first | rfl | fail)
  | ((with_reducible refine put2 (by assumption) ?_ fun _ => ?_); first | rfl | fail)
  | ((fail_if_success (with_reducible refine pst_id ?_)); first
    | exact take_same
    | (with_reducible refine fun (_ : Nat) (_ : Store) (_ : _ = _) (_ : _ = _) (_ : _ = _) => ?_)
    | ((fail_if_success (with_reducible refine And.intro ?_ ?_)); refine ⟨_, by first | rfl | assumption, ?_⟩)
    | ((fail_if_success (with_reducible refine And.intro ?_ ?_)); refine ⟨_, _, rfl, ?_⟩)
    | ((fail_if_success (with_reducible refine And.intro ?_ ?_)); refine ⟨_, _, by first | rfl | assumption, rfl, ?_⟩)
    | ((with_reducible refine And.intro ?_ ?_); first | exact rfl | omega | (simp only [List.length_map]; omega) | exact ⟨rfl, rfl⟩ | exact Nat.le_of_ble_eq_true rfl | fail))
  | ((with_reducible refine take_go (by assumption) ?_ ?_); (first | omega | (simp only [List.length_map]; omega) | fail); intro _ _ _ _ _ _)
  | ((with_reducible refine of_go (0) (1) (by assumption) ?_ ?_ ?_); (exact ⟨Nat.zero_lt_succ _, Nat.le_of_ble_eq_true rfl⟩); (focus ((repeat (first | exact bnd_nil | refine bnd_cons (by omega) ?_)); (all_goals fail))); intro _ _ _ _ _ _)
  | ((with_reducible refine of_go (1) (4) (by assumption) ?_ ?_ ?_); (exact ⟨Nat.zero_lt_succ _, Nat.le_of_ble_eq_true rfl⟩); (focus ((repeat (first | exact bnd_nil | refine bnd_cons (by omega) ?_)); (all_goals fail))); intro _ _ _ _ _ _)
  | ((with_reducible refine of_go (0) (5) (by assumption) ?_ ?_ ?_); (exact ⟨Nat.zero_lt_succ _, Nat.le_of_ble_eq_true rfl⟩); (focus ((repeat (first | exact bnd_nil | refine bnd_cons (by omega) ?_)); (all_goals fail))); intro _ _ _ _ _ _)
  | ((with_reducible refine of_go (0) (6) (by assumption) ?_ ?_ ?_); (exact ⟨Nat.zero_lt_succ _, Nat.le_of_ble_eq_true rfl⟩); (focus ((repeat (first | exact bnd_nil | refine bnd_cons (by omega) ?_)); (all_goals fail))); intro _ _ _ _ _ _)
  | ((with_reducible refine of_go (0) (12) (by assumption) ?_ ?_ ?_); (exact ⟨Nat.zero_lt_succ _, Nat.le_of_ble_eq_true rfl⟩); (focus ((repeat (first | exact bnd_nil | refine bnd_cons (by omega) ?_)); (all_goals fail))); intro _ _ _ _ _ _)
  | ((with_reducible refine of_go (0) (17) (by assumption) ?_ ?_ ?_); (exact ⟨Nat.zero_lt_succ _, Nat.le_of_ble_eq_true rfl⟩); (focus ((repeat (first | exact bnd_nil | refine bnd_cons (by omega) ?_)); (all_goals fail))); intro _ _ _ _ _ _)
  | ((with_reducible refine of_go (60) (900) (by assumption) ?_ ?_ ?_); (exact ⟨Nat.zero_lt_succ _, Nat.le_of_ble_eq_true rfl⟩); (focus ((repeat (first | exact bnd_nil | refine bnd_cons (by omega) ?_)); (all_goals fail))); intro _ _ _ _ _ _)
  | ((with_reducible refine of_go (9) (1000000) (by assumption) ?_ ?_ ?_); (exact ⟨Nat.zero_lt_succ _, Nat.le_of_ble_eq_true rfl⟩); (focus ((repeat (first | exact bnd_nil | refine bnd_cons (by omega) ?_)); (all_goals fail))); intro _ _ _ _ _ _)
  | ((with_reducible refine of_go (1) (1000000) (by assumption) ?_ ?_ ?_); (exact ⟨Nat.zero_lt_succ _, Nat.le_of_ble_eq_true rfl⟩); (focus ((repeat (first | exact bnd_nil | refine bnd_cons (by omega) ?_)); (all_goals fail))); intro _ _ _ _ _ _)
  | ((with_reducible refine of_go (0) (12000000) (by assumption) ?_ ?_ ?_); (exact ⟨Nat.zero_lt_succ _, Nat.le_of_ble_eq_true rfl⟩); (focus ((repeat (first | exact bnd_nil | refine bnd_cons (by omega) ?_)); (all_goals fail))); intro _ _ _ _ _ _)
  | ((fail_if_success (with_reducible refine pst_id ?_)); first | (with_reducible rfl) | assumption | contradiction))
/-! names -/
def sL (l : List Nat) : Str := ⟨l.toArray⟩
theorem sL_inj {a b : List Nat} (h : sL a = sL b) : a = b := by
  have := congrArg (fun z : Str => z.cps.toList) h
  simpa [sL] using this
theorem sL_len (l : List Nat) : (sL l).length = l.length := by simp [sL, Str.length]
theorem sL_list (l : List Nat) : (sL l).cps.toList = l := by simp [sL]
theorem add_sL {a b : List Nat} (h : a.length + b.length ≤ 1000) {S : Store} : oAddA (.str (sL a)) (.str (sL b)) S = some (.ok (.str (sL (a ++ b))), S) := by
  have e : sL a ++ sL b = sL (a ++ b) := by
    show (⟨a.toArray ++ b.toArray⟩ : Str) = ⟨(a ++ b).toArray⟩
    simp
  have e2 : oAddA (.str (sL a)) (.str (sL b)) S = (match (if (sL a).length + (sL b).length ≤ lim then (some (.ok (.str (sL a ++ sL b)), S) : Out D) else none) with
    | some r => some r
    | none => oCat (.str (sL a)) (.str (sL b)) S) := rfl
  rw [e2, if_pos (by rw [sL_len, sL_len]; show _ ≤ 1000000; omega), e]
theorem cut_to_sL (l : List Nat) {k : Int} (h : 0 ≤ k) : cutS (sL l) none (some k) = sL (l.take k.toNat) := by
  obtain ⟨m, rfl⟩ := Int.eq_ofNat_of_zero_le h
  unfold cutS
  rw [HT.sIx_none, HT.sIx_nat, sL_len, sL_list, Int.toNat_natCast, List.drop_zero, Nat.sub_zero]
  unfold sL
  congr 1
  congr 1
  rcases Nat.le_total m l.length with h1 | h1
  · rw [Nat.min_eq_left h1]
  · rw [Nat.min_eq_right h1, List.take_of_length_le h1, List.take_of_length_le (Nat.le_refl _)]
theorem cut_from_sL (l : List Nat) {k : Int} (h : 0 ≤ k) : cutS (sL l) (some k) none = sL (l.drop k.toNat) := by
  obtain ⟨m, rfl⟩ := Int.eq_ofNat_of_zero_le h
  unfold cutS
  rw [HT.sIx_none, HT.sIx_nat, sL_len, sL_list, Int.toNat_natCast]
  unfold sL
  congr 1
  congr 1
  rcases Nat.le_total m l.length with h1 | h1
  · rw [Nat.min_eq_left h1, List.take_of_length_le (by rw [List.length_drop]; omega)]
  · rw [Nat.min_eq_right h1, List.drop_of_length_le h1, List.drop_of_length_le (Nat.le_refl _)]
    simp
def abc : List Nat := (List.range 26).map fun k => 97 + k
theorem abc_eq : ("abcdefghijklmnopqrstuvwxyz" : Str) = sL abc := by decide +kernel
theorem q_eq : ("q" : Str) = sL [113] := by decide +kernel
theorem nil_eq : ("" : Str) = sL [] := by decide +kernel
theorem abc_get {k : Nat} (h : k < 26) : abc[k]? = some (97 + k) := by
  unfold abc
  rw [List.getElem?_map, List.getElem?_range h]; rfl
theorem abc_mem {c : Nat} (h : c ∈ abc) : 97 ≤ c ∧ c ≤ 122 := by
  obtain ⟨k, hk, rfl⟩ := List.mem_map.mp h
  have := List.mem_range.mp hk
  omega
theorem rep7 (c : Nat) : repS (sL [c]) 7 = sL (List.replicate 7 c) := by
  unfold repS sL
  simp [List.replicate]
structure NameOk (l : List Nat) : Prop where
  l1 : 1 ≤ l.length
  l8 : l.length ≤ 8
  ok : ∀ c ∈ l, 97 ≤ c ∧ c ≤ 122
  q : l.length = 1 ∨ 113 ∈ l
def nmD (l : List Nat) : D := .str (sL l)
theorem in_nm {neg : Bool} {l : List Nat} {xs : List (List Nat)} {x : D} {S : Store} (hx : asS x S = some (xs.map nmD)) (hs : ∀ z, x ≠ .str z) : oInA neg (nmD l) x S = some (.ok (.bl (if neg then !decide (l ∈ xs) else decide (l ∈ xs))), S) := by
  have e1 : oInA neg (nmD l) x S = oIn neg (nmD l) x S := by
    unfold oInA
    cases x <;> first | rfl | (exact absurd rfl (hs _))
  rw [e1]
  unfold oIn
  rw [hx]
  have h1 : flatD (nmD l) = true := rfl
  have h2 : (xs.map nmD).all flatD = true := List.all_eq_true.mpr fun d hd => by
    obtain ⟨a, _, rfl⟩ := List.mem_map.mp hd
    rfl
  have h3 : ((xs.map nmD).any fun e => D.eqv e (nmD l)) = decide (l ∈ xs) := by
    rw [List.any_map]
    by_cases h : l ∈ xs
    · rw [decide_eq_true h]
      exact List.any_eq_true.mpr ⟨l, h, by show (sL l == sL l) = true; exact beq_self_eq_true _⟩
    · rw [decide_eq_false h]
      rw [List.any_eq_false]
      intro a ha hc
      have := eq_of_beq (show (sL a == sL l) = true from hc)
      rw [sL_inj this] at ha
      exact h ha
  simp only [h1, h2, h3, and_self, ↓reduceIte]
structure NamesOk (xs : List (List Nat)) : Prop where
  nodup : xs.Nodup
  ok : ∀ l ∈ xs, NameOk l
  own : ∀ j l, xs[j]? = some l → 97 + j ∈ l
theorem names_more {xs : List (List Nat)} {l : List Nat} (h : NamesOk xs) (hl : NameOk l) (hn : l ∉ xs) (ho : 97 + xs.length ∈ l) : NamesOk (xs ++ [l]) := by
  refine ⟨List.nodup_append.mpr ⟨h.nodup, by simp, fun a ha b hb => ?_⟩, fun a ha => ?_, fun j a ha => ?_⟩
  · rw [List.mem_singleton] at hb
    subst hb
    exact fun e => hn (e ▸ ha)
  · rcases List.mem_append.mp ha with ha | ha
    · exact h.ok a ha
    · rw [List.mem_singleton] at ha; subst ha; exact hl
  · by_cases hj : j < xs.length
    · rw [List.getElem?_append_left hj] at ha
      exact h.own j a ha
    · rw [List.getElem?_append_right (by omega)] at ha
      have : j = xs.length := by
        have := (List.getElem?_eq_some_iff.mp ha).1
        simp at this
        omega
      subst this
      simp at ha
      subst ha
      exact ho
theorem fall_not {xs : List (List Nat)} (h : NamesOk xs) (h16 : xs.length < 16) : List.replicate 7 (97 + xs.length) ++ [113] ∉ xs := fun hm => by
  obtain ⟨j, hj⟩ := List.mem_iff_getElem?.mp hm
  have hlt := (List.getElem?_eq_some_iff.mp hj).1
  have := h.own j _ hj
  rcases List.mem_append.mp this with z | z
  · have := (List.mem_replicate.mp z).2
    omega
  · rw [List.mem_singleton] at z
    omega
theorem sl_to {l : List Nat} {k : Int} {S : Store} {Q : D → Store → Prop} {E : XV → Store → Prop} (hl : l.length ≤ 1000) (h0 : 0 ≤ k) (h : Q (.str (sL (l.take k.toNat))) S) : Pst (slA (.str (sL l)) none (some k) S) Q E := by
  have e : slA (.str (sL l)) none (some k) S = some (.ok (.str (cutS (sL l) none (some k))), S) := if_pos (by rw [sL_len]; exact Nat.le_trans hl (by decide))
  rw [e, cut_to_sL l h0]
  exact h
theorem sl_from {l : List Nat} {k : Int} {S : Store} {Q : D → Store → Prop} {E : XV → Store → Prop} (hl : l.length ≤ 1000) (h0 : 0 ≤ k) (h : Q (.str (sL (l.drop k.toNat))) S) : Pst (slA (.str (sL l)) (some k) none S) Q E := by
  have e : slA (.str (sL l)) (some k) none S = some (.ok (.str (cutS (sL l) (some k) none)), S) := if_pos (by rw [sL_len]; exact Nat.le_trans hl (by decide))
  rw [e, cut_from_sL l h0]
  exact h
def fullN (l : List Nat) (r i size : Nat) : List Nat := ((l.take r ++ [97 + i]) ++ [113].take size) ++ l.drop r
theorem full_ok {l : List Nat} {r i size : Nat} (hl : l.length = size) (hs : size ≤ 6) (hc : ∀ c ∈ l, 97 ≤ c ∧ c ≤ 122) (hi : i < 16) : NameOk (fullN l r i size) := by
  have hlen : (fullN l r i size).length = size + 1 + min size 1 := by
    unfold fullN
    simp
    omega
  refine ⟨by omega, by omega, fun c h => ?_, ?_⟩
  · unfold fullN at h
    simp only [List.mem_append, List.mem_singleton] at h
    rcases h with ((h | h) | h) | h
    · exact hc c (List.mem_of_mem_take h)
    · omega
    · have := List.mem_of_mem_take h
      rw [List.mem_singleton] at this
      omega
    · exact hc c (List.mem_of_mem_drop h)
  · by_cases h0 : size = 0
    · exact .inl (by omega)
    · refine .inr ?_
      unfold fullN
      have : [113].take size = [113] := List.take_of_length_le (by simp; omega)
      rw [this]
      simp
theorem full_own {l : List Nat} {r i size : Nat} : 97 + i ∈ fullN l r i size := by
  unfold fullN
  simp
theorem fall_ok {i : Nat} (hi : i < 16) : NameOk (List.replicate 7 (97 + i) ++ [113]) := by
  refine ⟨by simp, by simp, fun c h => ?_, .inr (by simp)⟩
  rcases List.mem_append.mp h with h | h
  · have := (List.mem_replicate.mp h).2
    omega
  · rw [List.mem_singleton] at h
    omega
theorem asS_loc {S : Store} {n : Nat} {xs : List D} (e : S[n]? = some xs) : asS (.loc n) S = some xs := by simp [asS, asL, e]
theorem names_ok {n : Nat} {S : Store} (h : Well n S) {many : Nat} (hm : many ≤ 16) : Pst (F__law_names [.loc n, .int (many : Int)] S) (fun d S' => ∃ xs, d = .lst (xs.map nmD) ∧ xs.length = many ∧ NamesOk xs ∧ Fr n S S') NoE := by
  have hn := len_of h
  unfold F__law_names b__law_names
  with_reducible refine call_go rfl ?_
  dsimp only [startE, List.map, List.replicate, List.length, List.cons_append, List.nil_append, Nat.reduceAdd, Nat.reduceSub]
  repeat' (first | done | fail)
  rename_i m S1 em eS hS1
  have f1 : FrX n S S1 := eS ▸ FrX.lay h _
  have hml : S.length ≤ m := Nat.le_of_eq em.symm
  clear em eS
  generalize hz : Str.ofString "abcdefghijklmnopqrstuvwxyz" = Z
  have hZ : Z = sL abc := hz.symm.trans abc_eq
  have hZl : 0 < Z.length ∧ Z.length ≤ 1000 := by rw [hZ, sL_len]; decide
  clear hz
  rw [Int.toNat_natCast]
  have hat : ∀ i d, (ranged 0 many)[i]? = some d → i < many ∧ d = .int (i : Int) := fun i d h => by
    obtain ⟨h1, h2⟩ := ranged_at h
    exact ⟨h1, by rw [h2, Int.zero_add]⟩
  have hlen := ranged_len many 0
  generalize ranged 0 many = ds at *
  refine for_of (fun i ρ S' => ∃ (xs : List (List Nat)) (x4 x5 x6 x7 x8 : Option D), ρ = [some (.loc n), some (.int (many : Int)), some (.loc m), some (.str Z), x4, x5, x6, x7, x8] ∧ S'[m]? = some (xs.map nmD) ∧ xs.length = i ∧ NamesOk xs ∧ FrX n S S') ⟨[], _, _, _, _, _, rfl, hS1, rfl, ⟨List.nodup_nil, (fun _ h => by cases h), (fun j l h => by simp at h)⟩, f1⟩ (fun _ _ _ _ => rfl) ?_ ?_
  · intro i d ρ S2 hd hI
    obtain ⟨xs, x4, x5, x6, x7, x8, e1, hS2, hxl, hok, f2⟩ := hI
    subst e1
    obtain ⟨hi, rfl⟩ := hat i d hd
    have w2 := f2.1
    repeat' (first | done | fail)
    rename_i size S3 s0 s1 f3 w3
    have hat2 : ∀ j d, (ranged 0 size.toNat)[j]? = some d → j < size.toNat := fun j d h => (ranged_at h).1
    have hlen2 := ranged_len size.toNat 0
    generalize ranged 0 size.toNat = es at *
    rw [nil_eq]
    have hX2 := (f2.trans f3.x)
    refine for_of (fun j ρ S' => ∃ (l : List Nat) (x7 : Option D), ρ = [some (.loc n), some (.int (many : Int)), some (.loc m), some (.str Z), some (.int (i : Int)), some (.int size), some (.str (sL l)), x7, x8] ∧ l.length = j ∧ (∀ c ∈ l, 97 ≤ c ∧ c ≤ 122) ∧ Fr n S3 S') ⟨[], _, rfl, rfl, (fun _ h => by cases h), Fr.refl w3⟩ (fun _ _ _ _ => rfl) ?_ ?_
    · intro j dj ρ S4 hdj hJ
      obtain ⟨l, x7, e1, hl, hlc, f4⟩ := hJ
      subst e1
      have hj := hat2 j dj hdj
      have w4 := f4.1
      repeat' (first | done | fail)
      with_reducible refine of_str w4 hZl fun c S5 hc f5 w5 => ?_
      rw [hZ, sL_list] at hc
      have hcb := abc_mem hc
      repeat' (first | done | fail)
      with_reducible refine r_eq (show oAddA (.str (sL l)) (.str ⟨#[c]⟩) S5 = some (.ok (.str (sL (l ++ [c]))), S5) from add_sL (b := [c]) (by rw [hl]; simp; omega)) ?_
      repeat' (first | done | fail)
      refine ⟨by rw [List.length_append, hl]; rfl, fun x hx => ?_, f4.trans f5⟩
      rcases List.mem_append.mp hx with hx | hx
      · exact hlc x hx
      · rw [List.mem_singleton] at hx; subst hx; exact hcb
    · intro ρ S4 hJ
      obtain ⟨l, x7, e1, hl, hlc, f4⟩ := hJ
      subst e1
      have w4 := f4.1
      repeat' (first | done | fail)
      rename_i r S5 a0 a1 f5 w5
      have hl6 : l.length ≤ 6 := by omega
      have hX5 : FrX n S S5 := (hX2.trans f4.x).trans f5.x
      have hS5 : S5[m]? = some (xs.map nmD) := f5.at (by omega) (f4.at (by omega) (f3.at (by omega) hS2))
      have hZi : Z.cps.toList[i]? = some (97 + i) := by rw [hZ, sL_list]; exact abc_get (by omega)
      have hZ26 : Z.length = 26 := by rw [hZ, sL_len]; rfl
      with_reducible refine sl_to (by omega) a0 ?_
      repeat' (first | done | fail)
      refine ix_str hZl.2 (by omega) fun c _ hc => ?_
      rw [Int.toNat_natCast, hZi] at hc
      obtain rfl := Option.some.inj hc
      repeat' (first | done | fail)
      with_reducible refine r_eq (show oAddA (.str (sL (l.take r.toNat))) (.str ⟨#[97 + i]⟩) S5 = some (.ok (.str (sL (l.take r.toNat ++ [97 + i]))), S5) from add_sL (b := [97 + i]) (by simp; omega)) ?_
      repeat' (first | done | fail)
      rw [q_eq]
      with_reducible refine sl_to (by decide) s0 ?_
      repeat' (first | done | fail)
      with_reducible refine r_eq (add_sL (by simp; omega)) ?_
      repeat' (first | done | fail)
      with_reducible refine sl_from (by omega) a0 ?_
      repeat' (first | done | fail)
      with_reducible refine r_eq (add_sL (by simp; omega)) ?_
      have efull : l.take r.toNat ++ [97 + i] ++ [113].take size.toNat ++ l.drop r.toNat = fullN l r.toNat i size.toNat := rfl
      rw [efull]
      have hfo := full_ok (r := r.toNat) (i := i) (size := size.toNat) (l := l) (by omega) (by omega) hlc (by omega)
      have hfw := full_own (l := l) (r := r.toNat) (i := i) (size := size.toNat)
      generalize fullN l r.toNat i size.toNat = nm at *
      clear efull hlc
      repeat' (first | done | fail)
      have ein : oInA true (.str (sL nm)) (.loc m) S5 = some (.ok (.bl (!decide (nm ∈ xs))), S5) := in_nm (neg := true) (l := nm) (asS_loc hS5) (fun _ h => by cases h)
      with_reducible refine r_eq ein ?_
      by_cases hin : nm ∈ xs
      · rw [decide_eq_true hin]
        repeat' (first | done | fail)
        refine ix_str hZl.2 (by omega) fun c _ hc => ?_
        rw [Int.toNat_natCast, hZi] at hc
        obtain rfl := Option.some.inj hc
        repeat' (first | done | fail)
        have e7 : oMulS (.str ⟨#[97 + i]⟩) (.int 7) S5 = some (.ok (.str (sL (List.replicate 7 (97 + i)))), S5) := by
          have h1 : oMulS (.str ⟨#[97 + i]⟩) (.int 7) S5 = if (2 ≤ (7 : Int) ∧ (7 : Int) ≤ 1000) ∧ (1 ≤ (⟨#[97 + i]⟩ : Str).length ∧ (⟨#[97 + i]⟩ : Str).length ≤ 1000) then some (.ok (.str (repS ⟨#[97 + i]⟩ (7 : Int).toNat)), S5) else none := rfl
          rw [h1, if_pos ⟨by decide, by simp [Str.length]⟩]
          exact congrArg (fun z => some (Except.ok (D.str z), S5)) (rep7 (97 + i))
        with_reducible refine r_eq e7 ?_
        repeat' (first | done | fail)
        with_reducible refine r_eq (add_sL (by simp)) ?_
        repeat' (first | done | fail)
        have hfn := fall_not hok (by omega)
        rw [hxl] at hfn
        have hfk := fall_ok (i := i) (by omega)
        have hfo2 : 97 + i ∈ List.replicate 7 (97 + i) ++ [113] := by simp
        generalize List.replicate 7 (97 + i) ++ [113] = nm2 at *
        refine ⟨⟨rfl, by rw [List.length_map]; show _ < 1000000; omega⟩, fun h6 => ?_⟩
        have em : xs.map nmD ++ [D.str (sL nm2)] = (xs ++ [nm2]).map nmD := by rw [List.map_append]; rfl
        rw [em] at h6 ⊢
        exact ⟨_, _, _, _, _, _, rfl, h6, by rw [List.length_append, hxl]; rfl, names_more hok hfk hfn (by rw [hxl]; exact hfo2), Fr.putX hX5 hml hn _⟩
      · rw [decide_eq_false hin]
        repeat' (first | done | fail)
        refine ⟨⟨rfl, by rw [List.length_map]; show _ < 1000000; omega⟩, fun h6 => ?_⟩
        have em : xs.map nmD ++ [D.str (sL nm)] = (xs ++ [nm]).map nmD := by rw [List.map_append]; rfl
        rw [em] at h6 ⊢
        exact ⟨_, _, _, _, _, _, rfl, h6, by rw [List.length_append, hxl]; rfl, names_more hok hfo hin (by rw [hxl]; exact hfw), Fr.putX hX5 hml hn _⟩
  · intro ρ S2 hI
    obtain ⟨xs, x4, x5, x6, x7, x8, e1, hS2, hxl, hok, f2⟩ := hI
    subst e1
    repeat' (first | done | fail)
    have e : exitF true S.length (some (.ok (.ret (.loc m)), S2)) = some (.ok (.lst (xs.map nmD)), S2.take S.length) := by
      show exitD true S.length (.loc m) S2 = _
      unfold exitD
      simp only [if_neg (show ¬ m < S.length by omega), hS2]
    rw [e]
    exact ⟨xs, rfl, by omega, hok, f2.cut hn⟩
/-! plans -/
section
variable {ρ : PF.Env} {S : Store} {Q : D → Store → Prop} {E : XV → Store → Prop}
theorem v14 {x0 x1 x2 x3 x4 x5 x6 x7 x8 x9 x10 x11 x12 x13 : Option D} {d : D} (h : Q d S) : Pst (cVar 14 (x0 :: x1 :: x2 :: x3 :: x4 :: x5 :: x6 :: x7 :: x8 :: x9 :: x10 :: x11 :: x12 :: x13 :: some d :: ρ) S) Q E := h
theorem tn14 {Q : PF.Env → Store → Prop} {x0 x1 x2 x3 x4 x5 x6 x7 x8 x9 x10 x11 x12 x13 y : Option D} {d : D} (h : Q (x0 :: x1 :: x2 :: x3 :: x4 :: x5 :: x6 :: x7 :: x8 :: x9 :: x10 :: x11 :: x12 :: x13 :: some d :: ρ) S) : Pst (tName 14 d (x0 :: x1 :: x2 :: x3 :: x4 :: x5 :: x6 :: x7 :: x8 :: x9 :: x10 :: x11 :: x12 :: x13 :: y :: ρ) S) Q E := h
theorem ss14 {Q : Fl → Store → Prop} {x0 x1 x2 x3 x4 x5 x6 x7 x8 x9 x10 x11 x12 x13 y : Option D} {c : EX} (h : Pst (c (x0 :: x1 :: x2 :: x3 :: x4 :: x5 :: x6 :: x7 :: x8 :: x9 :: x10 :: x11 :: x12 :: x13 :: y :: ρ) S) (fun d S => Q (.nx (x0 :: x1 :: x2 :: x3 :: x4 :: x5 :: x6 :: x7 :: x8 :: x9 :: x10 :: x11 :: x12 :: x13 :: some d :: ρ)) S) (fun x S => Q (.exc x (x0 :: x1 :: x2 :: x3 :: x4 :: x5 :: x6 :: x7 :: x8 :: x9 :: x10 :: x11 :: x12 :: x13 :: y :: ρ)) S)) : Pst (sSet 14 c (x0 :: x1 :: x2 :: x3 :: x4 :: x5 :: x6 :: x7 :: x8 :: x9 :: x10 :: x11 :: x12 :: x13 :: y :: ρ) S) Q E := s_set h
theorem v15 {x0 x1 x2 x3 x4 x5 x6 x7 x8 x9 x10 x11 x12 x13 x14 : Option D} {d : D} (h : Q d S) : Pst (cVar 15 (x0 :: x1 :: x2 :: x3 :: x4 :: x5 :: x6 :: x7 :: x8 :: x9 :: x10 :: x11 :: x12 :: x13 :: x14 :: some d :: ρ) S) Q E := h
theorem tn15 {Q : PF.Env → Store → Prop} {x0 x1 x2 x3 x4 x5 x6 x7 x8 x9 x10 x11 x12 x13 x14 y : Option D} {d : D} (h : Q (x0 :: x1 :: x2 :: x3 :: x4 :: x5 :: x6 :: x7 :: x8 :: x9 :: x10 :: x11 :: x12 :: x13 :: x14 :: some d :: ρ) S) : Pst (tName 15 d (x0 :: x1 :: x2 :: x3 :: x4 :: x5 :: x6 :: x7 :: x8 :: x9 :: x10 :: x11 :: x12 :: x13 :: x14 :: y :: ρ) S) Q E := h
theorem ss15 {Q : Fl → Store → Prop} {x0 x1 x2 x3 x4 x5 x6 x7 x8 x9 x10 x11 x12 x13 x14 y : Option D} {c : EX} (h : Pst (c (x0 :: x1 :: x2 :: x3 :: x4 :: x5 :: x6 :: x7 :: x8 :: x9 :: x10 :: x11 :: x12 :: x13 :: x14 :: y :: ρ) S) (fun d S => Q (.nx (x0 :: x1 :: x2 :: x3 :: x4 :: x5 :: x6 :: x7 :: x8 :: x9 :: x10 :: x11 :: x12 :: x13 :: x14 :: some d :: ρ)) S) (fun x S => Q (.exc x (x0 :: x1 :: x2 :: x3 :: x4 :: x5 :: x6 :: x7 :: x8 :: x9 :: x10 :: x11 :: x12 :: x13 :: x14 :: y :: ρ)) S)) : Pst (sSet 15 c (x0 :: x1 :: x2 :: x3 :: x4 :: x5 :: x6 :: x7 :: x8 :: x9 :: x10 :: x11 :: x12 :: x13 :: x14 :: y :: ρ) S) Q E := s_set h
theorem v16 {x0 x1 x2 x3 x4 x5 x6 x7 x8 x9 x10 x11 x12 x13 x14 x15 : Option D} {d : D} (h : Q d S) : Pst (cVar 16 (x0 :: x1 :: x2 :: x3 :: x4 :: x5 :: x6 :: x7 :: x8 :: x9 :: x10 :: x11 :: x12 :: x13 :: x14 :: x15 :: some d :: ρ) S) Q E := h
theorem tn16 {Q : PF.Env → Store → Prop} {x0 x1 x2 x3 x4 x5 x6 x7 x8 x9 x10 x11 x12 x13 x14 x15 y : Option D} {d : D} (h : Q (x0 :: x1 :: x2 :: x3 :: x4 :: x5 :: x6 :: x7 :: x8 :: x9 :: x10 :: x11 :: x12 :: x13 :: x14 :: x15 :: some d :: ρ) S) : Pst (tName 16 d (x0 :: x1 :: x2 :: x3 :: x4 :: x5 :: x6 :: x7 :: x8 :: x9 :: x10 :: x11 :: x12 :: x13 :: x14 :: x15 :: y :: ρ) S) Q E := h
theorem ss16 {Q : Fl → Store → Prop} {x0 x1 x2 x3 x4 x5 x6 x7 x8 x9 x10 x11 x12 x13 x14 x15 y : Option D} {c : EX} (h : Pst (c (x0 :: x1 :: x2 :: x3 :: x4 :: x5 :: x6 :: x7 :: x8 :: x9 :: x10 :: x11 :: x12 :: x13 :: x14 :: x15 :: y :: ρ) S) (fun d S => Q (.nx (x0 :: x1 :: x2 :: x3 :: x4 :: x5 :: x6 :: x7 :: x8 :: x9 :: x10 :: x11 :: x12 :: x13 :: x14 :: x15 :: some d :: ρ)) S) (fun x S => Q (.exc x (x0 :: x1 :: x2 :: x3 :: x4 :: x5 :: x6 :: x7 :: x8 :: x9 :: x10 :: x11 :: x12 :: x13 :: x14 :: x15 :: y :: ρ)) S)) : Pst (sSet 16 c (x0 :: x1 :: x2 :: x3 :: x4 :: x5 :: x6 :: x7 :: x8 :: x9 :: x10 :: x11 :: x12 :: x13 :: x14 :: x15 :: y :: ρ) S) Q E := s_set h
theorem v17 {x0 x1 x2 x3 x4 x5 x6 x7 x8 x9 x10 x11 x12 x13 x14 x15 x16 : Option D} {d : D} (h : Q d S) : Pst (cVar 17 (x0 :: x1 :: x2 :: x3 :: x4 :: x5 :: x6 :: x7 :: x8 :: x9 :: x10 :: x11 :: x12 :: x13 :: x14 :: x15 :: x16 :: some d :: ρ) S) Q E := h
theorem tn17 {Q : PF.Env → Store → Prop} {x0 x1 x2 x3 x4 x5 x6 x7 x8 x9 x10 x11 x12 x13 x14 x15 x16 y : Option D} {d : D} (h : Q (x0 :: x1 :: x2 :: x3 :: x4 :: x5 :: x6 :: x7 :: x8 :: x9 :: x10 :: x11 :: x12 :: x13 :: x14 :: x15 :: x16 :: some d :: ρ) S) : Pst (tName 17 d (x0 :: x1 :: x2 :: x3 :: x4 :: x5 :: x6 :: x7 :: x8 :: x9 :: x10 :: x11 :: x12 :: x13 :: x14 :: x15 :: x16 :: y :: ρ) S) Q E := h
theorem ss17 {Q : Fl → Store → Prop} {x0 x1 x2 x3 x4 x5 x6 x7 x8 x9 x10 x11 x12 x13 x14 x15 x16 y : Option D} {c : EX} (h : Pst (c (x0 :: x1 :: x2 :: x3 :: x4 :: x5 :: x6 :: x7 :: x8 :: x9 :: x10 :: x11 :: x12 :: x13 :: x14 :: x15 :: x16 :: y :: ρ) S) (fun d S => Q (.nx (x0 :: x1 :: x2 :: x3 :: x4 :: x5 :: x6 :: x7 :: x8 :: x9 :: x10 :: x11 :: x12 :: x13 :: x14 :: x15 :: x16 :: some d :: ρ)) S) (fun x S => Q (.exc x (x0 :: x1 :: x2 :: x3 :: x4 :: x5 :: x6 :: x7 :: x8 :: x9 :: x10 :: x11 :: x12 :: x13 :: x14 :: x15 :: x16 :: y :: ρ)) S)) : Pst (sSet 17 c (x0 :: x1 :: x2 :: x3 :: x4 :: x5 :: x6 :: x7 :: x8 :: x9 :: x10 :: x11 :: x12 :: x13 :: x14 :: x15 :: x16 :: y :: ρ) S) Q E := s_set h
theorem v18 {x0 x1 x2 x3 x4 x5 x6 x7 x8 x9 x10 x11 x12 x13 x14 x15 x16 x17 : Option D} {d : D} (h : Q d S) : Pst (cVar 18 (x0 :: x1 :: x2 :: x3 :: x4 :: x5 :: x6 :: x7 :: x8 :: x9 :: x10 :: x11 :: x12 :: x13 :: x14 :: x15 :: x16 :: x17 :: some d :: ρ) S) Q E := h
theorem tn18 {Q : PF.Env → Store → Prop} {x0 x1 x2 x3 x4 x5 x6 x7 x8 x9 x10 x11 x12 x13 x14 x15 x16 x17 y : Option D} {d : D} (h : Q (x0 :: x1 :: x2 :: x3 :: x4 :: x5 :: x6 :: x7 :: x8 :: x9 :: x10 :: x11 :: x12 :: x13 :: x14 :: x15 :: x16 :: x17 :: some d :: ρ) S) : Pst (tName 18 d (x0 :: x1 :: x2 :: x3 :: x4 :: x5 :: x6 :: x7 :: x8 :: x9 :: x10 :: x11 :: x12 :: x13 :: x14 :: x15 :: x16 :: x17 :: y :: ρ) S) Q E := h
theorem ss18 {Q : Fl → Store → Prop} {x0 x1 x2 x3 x4 x5 x6 x7 x8 x9 x10 x11 x12 x13 x14 x15 x16 x17 y : Option D} {c : EX} (h : Pst (c (x0 :: x1 :: x2 :: x3 :: x4 :: x5 :: x6 :: x7 :: x8 :: x9 :: x10 :: x11 :: x12 :: x13 :: x14 :: x15 :: x16 :: x17 :: y :: ρ) S) (fun d S => Q (.nx (x0 :: x1 :: x2 :: x3 :: x4 :: x5 :: x6 :: x7 :: x8 :: x9 :: x10 :: x11 :: x12 :: x13 :: x14 :: x15 :: x16 :: x17 :: some d :: ρ)) S) (fun x S => Q (.exc x (x0 :: x1 :: x2 :: x3 :: x4 :: x5 :: x6 :: x7 :: x8 :: x9 :: x10 :: x11 :: x12 :: x13 :: x14 :: x15 :: x16 :: x17 :: y :: ρ)) S)) : Pst (sSet 18 c (x0 :: x1 :: x2 :: x3 :: x4 :: x5 :: x6 :: x7 :: x8 :: x9 :: x10 :: x11 :: x12 :: x13 :: x14 :: x15 :: x16 :: x17 :: y :: ρ) S) Q E := s_set h
theorem v19 {x0 x1 x2 x3 x4 x5 x6 x7 x8 x9 x10 x11 x12 x13 x14 x15 x16 x17 x18 : Option D} {d : D} (h : Q d S) : Pst (cVar 19 (x0 :: x1 :: x2 :: x3 :: x4 :: x5 :: x6 :: x7 :: x8 :: x9 :: x10 :: x11 :: x12 :: x13 :: x14 :: x15 :: x16 :: x17 :: x18 :: some d :: ρ) S) Q E := h
theorem tn19 {Q : PF.Env → Store → Prop} {x0 x1 x2 x3 x4 x5 x6 x7 x8 x9 x10 x11 x12 x13 x14 x15 x16 x17 x18 y : Option D} {d : D} (h : Q (x0 :: x1 :: x2 :: x3 :: x4 :: x5 :: x6 :: x7 :: x8 :: x9 :: x10 :: x11 :: x12 :: x13 :: x14 :: x15 :: x16 :: x17 :: x18 :: some d :: ρ) S) : Pst (tName 19 d (x0 :: x1 :: x2 :: x3 :: x4 :: x5 :: x6 :: x7 :: x8 :: x9 :: x10 :: x11 :: x12 :: x13 :: x14 :: x15 :: x16 :: x17 :: x18 :: y :: ρ) S) Q E := h
theorem ss19 {Q : Fl → Store → Prop} {x0 x1 x2 x3 x4 x5 x6 x7 x8 x9 x10 x11 x12 x13 x14 x15 x16 x17 x18 y : Option D} {c : EX} (h : Pst (c (x0 :: x1 :: x2 :: x3 :: x4 :: x5 :: x6 :: x7 :: x8 :: x9 :: x10 :: x11 :: x12 :: x13 :: x14 :: x15 :: x16 :: x17 :: x18 :: y :: ρ) S) (fun d S => Q (.nx (x0 :: x1 :: x2 :: x3 :: x4 :: x5 :: x6 :: x7 :: x8 :: x9 :: x10 :: x11 :: x12 :: x13 :: x14 :: x15 :: x16 :: x17 :: x18 :: some d :: ρ)) S) (fun x S => Q (.exc x (x0 :: x1 :: x2 :: x3 :: x4 :: x5 :: x6 :: x7 :: x8 :: x9 :: x10 :: x11 :: x12 :: x13 :: x14 :: x15 :: x16 :: x17 :: x18 :: y :: ρ)) S)) : Pst (sSet 19 c (x0 :: x1 :: x2 :: x3 :: x4 :: x5 :: x6 :: x7 :: x8 :: x9 :: x10 :: x11 :: x12 :: x13 :: x14 :: x15 :: x16 :: x17 :: x18 :: y :: ρ) S) Q E := s_set h
end
local macro_rules | `(tactic| done) => `(tactic| (with_reducible first | refine v14 ?_ | refine tn14 ?_ | refine ss14 ?_ | refine v15 ?_ | refine tn15 ?_ | refine ss15 ?_ | refine v16 ?_ | refine tn16 ?_ | refine ss16 ?_ | refine v17 ?_ | refine tn17 ?_ | refine ss17 ?_ | refine v18 ?_ | refine tn18 ?_ | refine ss18 ?_ | refine v19 ?_ | refine tn19 ?_ | refine ss19 ?_))
structure Sizes (a b c : Int) : Prop where
  a0 : 1 ≤ a ∧ a ≤ 12
  b0 : 1 ≤ b ∧ b ≤ 8
  c0 : 0 ≤ c ∧ c ≤ 8
structure Three (S T : Store) (p q r : Nat) (A B C : List D) : Prop where
  sp : S.length ≤ p
  pq : p < q
  qr : q < r
  a : T[p]? = some A
  b : T[q]? = some B
  c : T[r]? = some C
theorem three_new {S S1 T1 T2 T3 : Store} {p q r : Nat} (h : S.length = S1.length) (ep : p = S1.length) (e1 : T1 = S1 ++ [[]]) (eq : q = T1.length) (e2 : T2 = T1 ++ [[]]) (er : r = T2.length) (e3 : T3 = T2 ++ [[]]) : Three S T3 p q r [] [] [] := by
  subst ep e1 eq e2 er e3
  refine ⟨by omega, by simp, by simp, ?_, ?_, by simp⟩
  · rw [List.getElem?_append_left (by simp), List.getElem?_append_left (by simp)]
    simp
  · rw [List.getElem?_append_left (by simp)]
    simp
def payD (p : Str × Str × Int) : D := .tup [.str p.1, .str p.2.1, .int p.2.2]
def twoD (p : Int × Int) : D := .tup [.int p.1, .int p.2]
theorem cut_part {α : Type} (xs : List α) (i j : Nat) (hi : i ≤ xs.length) (hj : i ≤ j) : cutL xs (some (i : Int)) (some (j : Int)) = (xs.drop i).take (j - i) := by
  unfold cutL
  rw [HT.sIx_nat, HT.sIx_nat, Nat.min_eq_left hi]
  rcases Nat.le_total j xs.length with h | h
  · rw [Nat.min_eq_left h]
  · rw [Nat.min_eq_right h, List.take_of_length_le (by rw [List.length_drop]; exact Nat.le_refl _), List.take_of_length_le (by rw [List.length_drop]; omega)]
theorem dues_sum {ps : List (Str × Str × Int)} (h : ∀ x ∈ ps, 1 ≤ x.2.2 ∧ x.2.2 ≤ 1000000) : 0 ≤ (ps.map (·.2.2)).sum ∧ (ps.map (·.2.2)).sum ≤ 1000000 * (ps.length : Int) := by
  induction ps with
  | nil => exact ⟨by decide, by decide⟩
  | cons a l ih =>
    have h1 := h a (List.mem_cons_self ..)
    have h2 := ih fun x hx => h x (List.mem_cons_of_mem _ hx)
    rw [List.map_cons, List.sum_cons, List.length_cons]
    omega
def planD (ps : List (Str × Str × Int)) (cl ol : List (Int × Int)) (res : Int) (bd : List Int) : D := .tup [.tup (ps.map payD), .tup (cl.map twoD), .tup (ol.map twoD), .int res, tI bd]
structure PlanOk (ps : List (Str × Str × Int)) (cl ol : List (Int × Int)) (res : Int) : Prop where
  p1 : 1 ≤ ps.length ∧ ps.length ≤ 12
  names : ∃ ns offs : List (List Nat), (ps.map (·.1)).Perm (ns.map sL) ∧ offs.length ≤ 4 ∧ (ns ++ offs).Nodup ∧ (∀ l ∈ ns ++ offs, NameOk l) ∧ ∀ x ∈ ps, x.2.1 ∈ offs.map sL
  rise : (ps.map (·.1)).Pairwise fun a b => leS a b = true
  due : ∀ x ∈ ps, 1 ≤ x.2.2 ∧ x.2.2 ≤ 1000000
  c1 : 1 ≤ cl.length ∧ cl.length ≤ 8
  days : (cl.map (·.1)).Pairwise (· < ·)
  day : ∀ x ∈ cl.map (·.1), 0 ≤ x ∧ x ≤ 60
  part : ∀ x ∈ cl, 1 ≤ x.2 ∧ x.2 ≤ 1000
  sum : (cl.map (·.2)).sum = 1000
  o1 : ol.length ≤ 8
  odays : ol.Pairwise fun x y => x.1 ≤ y.1
  out : ∀ x ∈ ol, (0 ≤ x.1 ∧ x.1 ≤ 90) ∧ 1 ≤ x.2 ∧ x.2 ≤ 10000000
  res : 0 ≤ res ∧ res ≤ 10000000
theorem pures_pay {ps : List (Str × Str × Int)} : D.pures (ps.map payD) = true := D.pures_iff.mpr fun d hd => by
  obtain ⟨x, _, rfl⟩ := List.mem_map.mp hd
  rfl
theorem pures_two {cl : List (Int × Int)} : D.pures (cl.map twoD) = true := D.pures_iff.mpr fun d hd => by
  obtain ⟨x, _, rfl⟩ := List.mem_map.mp hd
  rfl
theorem plan_ok {n : Nat} {S : Store} (h : Well n S) {a b c top : Int} (hs : Sizes a b c) (ht : 7 ≤ top ∧ top ≤ 1000000) : Pst (F__law_plan [.loc n, .tup [.int a, .int b, .int c], .int top] S) (fun d S' => ∃ ps cl ol res, d = planD ps cl ol res [0, 0, 0, 0] ∧ (PlanOk ps cl ol res ∧ ∀ x ∈ cl.map (·.1), x ≤ 59) ∧ Fr n S S') NoE := by
  have hn := len_of h
  obtain ⟨ha, hb, hc⟩ := hs
  unfold F__law_plan b__law_plan
  with_reducible refine call_go rfl ?_
  dsimp only [startE, List.map, List.replicate, List.length, List.cons_append, List.nil_append, Nat.reduceAdd, Nat.reduceSub]
  repeat' (first | done | fail)
  refine Pst.imp (names_ok (many := 16) h (by decide)) ?_
  intro d1 S1 h1
  obtain ⟨xs, e1, hxl, hok, f1⟩ := h1
  subst e1
  have w1 := f1.1
  repeat' (first | done | fail)
  rename_i p T1 ep e1 _ q T2 eq e2 _ r T3 er e3 _
  have h3 := three_new f1.2.1.symm ep e1 eq e2 er e3
  have fT : FrX n S T3 := by
    rw [e3, e2, e1]
    exact ((f1.x.trans (FrX.lay w1 _)).trans (FrX.lay (w1.more _) _)).trans (FrX.lay ((w1.more _).more _) _)
  have wT := fT.1
  clear ep e1 eq e2 er e3
  repeat' (first | done | fail)
  rename_i k T4 k0 k1 f4 w4 t T5 t0 t1 f5 w5 u T6 u0 u1 f6 w6
  have f46 := (f4.trans f5).trans f6
  obtain ⟨kk, rfl⟩ : ∃ kk : Nat, k = (kk : Int) := ⟨k.toNat, by omega⟩
  obtain ⟨mm, hmm⟩ : ∃ mm : Nat, max 1 (a - u) = (mm : Int) := ⟨(max 1 (a - u)).toNat, by omega⟩
  rw [hmm]
  have hm12 : 1 ≤ mm ∧ mm ≤ 12 := by omega
  have hcut : cutL (xs.map nmD) (some 12) (some (12 + (kk : Int))) = ((xs.drop 12).take kk).map nmD := by
    have := cut_part (xs.map nmD) 12 (12 + kk) (by rw [List.length_map]; omega) (by omega)
    rw [show ((12 + kk : Nat) : Int) = 12 + (kk : Int) by omega, show 12 + kk - 12 = kk by omega] at this
    rw [List.map_take, List.map_drop]
    exact this
  have hcut2 : cutL (xs.map nmD) none (some (mm : Int)) = ((xs.take mm).map sL).map D.str := by
    rw [cut_to _ (by omega), Int.toNat_natCast, ← List.map_take, List.map_map]
    rfl
  rw [hcut2]
  rw [hcut]
  have hoff : ((xs.drop 12).take kk).length = kk := by rw [List.length_take, List.length_drop]; omega
  have hoffm : ∀ l ∈ (xs.drop 12).take kk, l ∈ xs.drop 12 := fun l hl => List.mem_of_mem_take hl
  have hall : (xs.take mm ++ (xs.drop 12).take kk).Sublist xs := by
    have h1 : (xs.take mm ++ (xs.drop 12).take kk).Sublist (xs.take 12 ++ xs.drop 12) := List.Sublist.append (by
      rw [show xs.take mm = (xs.take 12).take mm by rw [List.take_take, Nat.min_eq_left hm12.2]]
      exact List.take_sublist ..) (List.take_sublist ..)
    rw [List.take_append_drop] at h1
    exact h1
  have hnod := hok.nodup.sublist hall
  have hnok : ∀ l ∈ xs.take mm ++ (xs.drop 12).take kk, NameOk l := fun l hl => hok.ok l (hall.subset hl)
  clear hall
  generalize (xs.drop 12).take kk = offs at *
  clear hcut hcut2
  have esort : bSortS [.lst (((xs.take mm).map sL).map D.str)] T6 = some (.ok (.lst ((sortSt ((xs.take mm).map sL)).map D.str)), T6) := by
    show (match strsOf (((xs.take mm).map sL).map D.str) with
      | some xs => if xs.length < 64 then (some (Except.ok (D.lst ((sortSt xs).map D.str)), T6) : Out D) else none
      | none => none) = _
    rw [strsOf_map]
    exact if_pos (by rw [List.length_map, List.length_take]; omega)
  with_reducible refine r_eq esort ?_
  have hsp := sortSt_perm ((xs.take mm).map sL)
  have hsw := sortSt_pw ((xs.take mm).map sL)
  have hsl : (sortSt ((xs.take mm).map sL)).length = mm := by rw [hsp.length_eq, List.length_map, List.length_take]; omega
  generalize sortSt ((xs.take mm).map sL) = ss at *
  clear esort
  repeat' (first | done | fail)
  have hw6 : FrX n S T6 := fT.trans f46.x
  have hp6 : T6[p]? = some [] := f46.at (by have := h3.sp; omega) h3.a
  have hq6 : T6[q]? = some [] := f46.at (by have := h3.sp; have := h3.pq; omega) h3.b
  have hr6 : T6[r]? = some [] := f46.at (by have := h3.sp; have := h3.pq; have := h3.qr; omega) h3.c
  have hsp0 := h3.sp
  have hpq0 := h3.pq
  have hqr0 := h3.qr
  clear h3 f46 f6 f5 f4 w4 w5 fT wT f1 w1
  refine for_of (fun i ρ S' => ∃ (ps : List (Str × Str × Int)) (x8 x9 : Option D), ρ = [some (.loc n), some (.tup [.int a, .int b, .int c]), some (.int top), some (.lst (xs.map nmD)), some (.loc p), some (.loc q), some (.loc r), some (.lst (offs.map nmD)), x8, x9, none, none, none, none, none, none, none, none, none, none] ∧
    S'[p]? = some (ps.map payD) ∧ S'[q]? = some [] ∧ S'[r]? = some [] ∧ ps.map (·.1) = ss.take i ∧ (∀ x ∈ ps, x.2.1 ∈ offs.map sL ∧ 1 ≤ x.2.2 ∧ x.2.2 ≤ 1000000) ∧ FrX n S S') ⟨[], _, _, rfl, hp6, hq6, hr6, rfl, (fun _ h => by cases h), hw6⟩ (fun _ _ _ _ => rfl) ?_ ?_
  · intro i d ρ S7 hd hI
    obtain ⟨ps, x8, x9, e1, hp7, hq7, hr7, hps, hpo, f7⟩ := hI
    subst e1
    rw [List.getElem?_map, Option.map_eq_some_iff] at hd
    obtain ⟨nm, hnm, rfl⟩ := hd
    have w7 := f7.1
    repeat' (first | done | fail)
    rename_i r1 Sa ra0 ra1 fa wa r2 Sb rb0 rb1 fb wb due S8 due0 due1 f8 w8
    have hpsl : ps.length ≤ 12 := by
      have := congrArg List.length hps
      rw [List.length_map, List.length_take] at this
      omega
    have hoffp : D.pures (offs.map nmD) = true := D.pures_iff.mpr fun d hd => by
      obtain ⟨l, _, rfl⟩ := List.mem_map.mp hd
      rfl
    refine Pst.imp (of_any w8 (fun _ => rfl) (by rw [List.length_map]; omega) hoffp) ?_
    intro dd S9 h9
    obtain ⟨hdd, _, f9⟩ := h9
    obtain ⟨ol, hol, rfl⟩ := List.mem_map.mp hdd
    have f79 := ((fa.trans fb).trans f8).trans f9
    have w9 := f9.1
    have hp9 : S9[p]? = some (ps.map payD) := f79.at (by omega) hp7
    have hq9 : S9[q]? = some [] := f79.at (by omega) hq7
    have hr9 : S9[r]? = some [] := f79.at (by omega) hr7
    have em : ps.map payD ++ [D.tup [.str nm, nmD ol, .int due]] = (ps ++ [(nm, sL ol, due)]).map payD := by rw [List.map_append]; rfl
    clear fa fb f8 f9 wa wb w8
    repeat' (first | done | fail)
    refine ⟨⟨rfl, by rw [List.length_map]; show _ < 1000000; omega⟩, fun h10 => ?_⟩
    rw [em] at h10 ⊢
    refine ⟨_, _, _, rfl, h10, ?_, ?_, ?_, fun x hx => ?_, Fr.putX (f7.trans f79.x) hsp0 hn _⟩
    · rw [List.getElem?_set_ne (by omega)]; exact hq9
    · rw [List.getElem?_set_ne (by omega)]; exact hr9
    · rw [List.map_append, hps, L2.take_next hnm]; rfl
    · rcases List.mem_append.mp hx with hx | hx
      · exact hpo x hx
      · rw [List.mem_singleton] at hx
        subst hx
        exact ⟨List.mem_map.mpr ⟨ol, hol, rfl⟩, due0, due1⟩
  · intro ρ S7 hI
    obtain ⟨ps, x8, x9, e1, hp7, hq7, hr7, hps, hpo, f7⟩ := hI
    subst e1
    have w7 := f7.1
    rw [List.length_map, List.take_length] at hps
    clear w6 hw6 hp6 hq6 hr6
    repeat' (first | done | fail)
    with_reducible refine s_par3 ?_
    repeat' (first | done | fail)
    rename_i r1 Sa ra0 ra1 fa wa r2 Sb rb0 rb1 fb wb v Sc ev ec hvc
    refine ⟨_, _, _, rfl, ?_⟩
    dsimp only [List.set]
    have fab := fa.trans fb
    have f8 : FrX n S Sc := by
      rw [ec]
      exact (f7.trans fab.x).trans (FrX.lay fab.1 _)
    have hpb := fab.at (by omega) hp7
    have hqb := fab.at (by omega) hq7
    have hrb := fab.at (by omega) hr7
    have old : ∀ (k : Nat) (A : List D), Sb[k]? = some A → k < v ∧ Sc[k]? = some A := fun k A hk => by
      have := (List.getElem?_eq_some_iff.mp hk).1
      rw [ec, ev]
      exact ⟨this, by rw [List.getElem?_append_left this]; exact hk⟩
    obtain ⟨hpv, hp8⟩ := old p _ hpb
    obtain ⟨hqv, hq8⟩ := old q _ hqb
    obtain ⟨hrv, hr8⟩ := old r _ hrb
    have w8 := f8.1
    obtain ⟨many, hmany⟩ : ∃ many : Nat, max 1 (b - r2) = (many : Int) := ⟨(max 1 (b - r2)).toNat, by omega⟩
    rw [hmany]
    have hm8 : 1 ≤ many ∧ many ≤ 8 := by omega
    clear ev ec old fa fb fab hpb hqb hrb wa wb hp7 hq7 hr7 f7 w7
    repeat' (first | done | fail)
    rename_i r3 Sd rd0 rd1 fd wd day Se day0 day1 fe we
    have fde := fd.trans fe
    have f9 := f8.trans fde.x
    have hp9 := fde.at (by omega) hp8
    have hq9 := fde.at (by omega) hq8
    have hr9 := fde.at (by omega) hr8
    have hv9 := fde.at (by omega) hvc
    clear fd fe fde hp8 hq8 hr8 hvc f8 w8 wd
    rw [Int.toNat_natCast]
    have hat : ∀ i d, (ranged 0 many)[i]? = some d → i < many ∧ d = .int (i : Int) := fun i d h => by
      obtain ⟨h1, h2⟩ := ranged_at h
      exact ⟨h1, by rw [h2, Int.zero_add]⟩
    have hlen := ranged_len many 0
    generalize ranged 0 many = rs at *
    refine for_of (fun i ρ S' => ∃ (dl : List Int) (dy : Int) (x14 : Option D), ρ = [some (.loc n), some (.tup [.int a, .int b, .int c]), some (.int top), some (.lst (xs.map nmD)), some (.loc p), some (.loc q), some (.loc r), some (.lst (offs.map nmD)), x8, x9, some (.int (many : Int)), some (.loc v), some (.int 1000), some (.int dy), x14, none, none, none, none, none] ∧
      S'[p]? = some (ps.map payD) ∧ S'[q]? = some [] ∧ S'[r]? = some [] ∧ S'[v]? = some (dl.map D.int) ∧ dl.length = i ∧ dl.Pairwise (· < ·) ∧ (∀ d ∈ dl, 0 ≤ d ∧ d < dy ∧ d + 6 ≤ 17 + 6 * (i : Int)) ∧ (0 ≤ dy ∧ dy ≤ 17 + 6 * (i : Int)) ∧ FrX n S S') ⟨[], day, _, rfl, hp9, hq9, hr9, hv9, rfl, .nil, (fun _ h => by cases h), by omega, f9⟩ (fun _ _ _ _ => rfl) ?_ ?_
    · intro i d ρ S10 hd hI
      obtain ⟨dl, dy, x14, e1, hp, hq, hr, hv, hdl, hpw, hdb, hdy, f10⟩ := hI
      subst e1
      obtain ⟨hi, rfl⟩ := hat i d hd
      have w10 := f10.1
      repeat' (first | done | fail)
      refine ⟨⟨rfl, by rw [List.length_map]; show _ < 1000000; omega⟩, fun h11 => ?_⟩
      have em : dl.map D.int ++ [D.int dy] = (dl ++ [dy]).map D.int := by rw [List.map_append]; rfl
      rw [em] at h11 ⊢
      have hp11 : (S10.set v ((dl ++ [dy]).map D.int))[p]? = some (ps.map payD) := by rw [List.getElem?_set_ne (by omega)]; exact hp
      have hq11 : (S10.set v ((dl ++ [dy]).map D.int))[q]? = some [] := by rw [List.getElem?_set_ne (by omega)]; exact hq
      have hr11 : (S10.set v ((dl ++ [dy]).map D.int))[r]? = some [] := by rw [List.getElem?_set_ne (by omega)]; exact hr
      have f11 : FrX n S (S10.set v ((dl ++ [dy]).map D.int)) := Fr.putX f10 (by omega) hn _
      have w11 := f11.1
      clear em f10 w10 hp hq hr hv
      generalize S10.set v ((dl ++ [dy]).map D.int) = S11 at *
      repeat' (first | done | fail)
      rename_i t6 S12 t60 t61 f12 w12 inc S13 inc0 inc1 f13 w13
      have f123 := f12.trans f13
      refine ⟨dl ++ [dy], _, _, rfl, f123.at (by omega) hp11, f123.at (by omega) hq11, f123.at (by omega) hr11, f123.at (by omega) h11, by rw [List.length_append, hdl]; rfl, ?_, fun z hz => ?_, by omega, f11.trans f123.x⟩
      · refine List.pairwise_append.mpr ⟨hpw, by simp, fun x hx y hy => ?_⟩
        rw [List.mem_singleton] at hy
        subst hy
        exact (hdb x hx).2.1
      · rcases List.mem_append.mp hz with hz | hz
        · have := hdb z hz
          omega
        · rw [List.mem_singleton] at hz
          omega
    · intro ρ S10 hI
      obtain ⟨dl, dy, x14, e1, hp, hq, hr, hv, hdl, hpw, hdb, hdy, f10⟩ := hI
      subst e1
      have w10 := f10.1
      rw [hlen] at hdl hdy
      have hd60 : ∀ d ∈ dl, 0 ≤ d ∧ d ≤ 59 := fun d hd => by
        have := hdb d hd
        omega
      clear hdb hdy hp9 hq9 hr9 hv9 f9 we
      repeat' (first | done | fail)
      rw [Int.toNat_natCast]
      have hat2 : ∀ i d, (ranged 0 many)[i]? = some d → i < many ∧ d = .int (i : Int) := fun i d h => by
        obtain ⟨h1, h2⟩ := ranged_at h
        exact ⟨h1, by rw [h2, Int.zero_add]⟩
      have hlen2 := ranged_len many 0
      clear hat hlen
      generalize ranged 0 many = rs2 at *
      refine for_of (fun i ρ S' => ∃ (cl : List (Int × Int)) (lf : Int) (y14 y15 : Option D), ρ = [some (.loc n), some (.tup [.int a, .int b, .int c]), some (.int top), some (.lst (xs.map nmD)), some (.loc p), some (.loc q), some (.loc r), some (.lst (offs.map nmD)), x8, x9, some (.int (many : Int)), some (.loc v), some (.int lf), some (.int dy), y14, y15, none, none, none, none] ∧
        S'[p]? = some (ps.map payD) ∧ S'[q]? = some (cl.map twoD) ∧ S'[r]? = some [] ∧ S'[v]? = some (dl.map D.int) ∧ cl.length = i ∧ cl.map (·.1) = dl.take i ∧ (∀ x ∈ cl, 1 ≤ x.2 ∧ x.2 ≤ 1000) ∧ lf + (cl.map (·.2)).sum = 1000 ∧ (0 ≤ lf ∧ lf ≤ 1000) ∧ (i < many → (many : Int) - i + 1 ≤ lf) ∧ (i = many → lf = 0) ∧ FrX n S S')
        ⟨[], 1000, _, _, rfl, hp, hq, hr, hv, rfl, rfl, (fun _ h => by cases h), rfl, by omega, (fun _ => by omega), (fun _ => by omega), f10⟩ (fun _ _ _ _ => rfl) ?_ ?_
      · intro i d ρ S11 hd hI
        obtain ⟨cl, lf, y14, y15, e1, hp, hq, hr, hv, hcl, hcd, hcb, hsum, hlf, hlo, _, f11⟩ := hI
        subst e1
        obtain ⟨hi, rfl⟩ := hat2 i d hd
        have hlo := hlo hi
        have w11 := f11.1
        repeat' (first | done | fail)
        · rename_i hlast
          with_reducible refine ix_int (ns := dl) (asS_loc hv) (by omega) ?_
          rw [Int.toNat_natCast]
          repeat' (first | done | fail)
          refine ⟨⟨rfl, by rw [List.length_map]; show _ < 1000000; omega⟩, fun h12 => ?_⟩
          have em : cl.map twoD ++ [D.tup [.int (dl.getD i 0), .int lf]] = (cl ++ [(dl.getD i 0, lf)]).map twoD := by rw [List.map_append]; rfl
          rw [em] at h12 ⊢
          have hp12 : (S11.set q ((cl ++ [(dl.getD i 0, lf)]).map twoD))[p]? = some (ps.map payD) := by rw [List.getElem?_set_ne (by omega)]; exact hp
          have hr12 : (S11.set q ((cl ++ [(dl.getD i 0, lf)]).map twoD))[r]? = some [] := by rw [List.getElem?_set_ne (by omega)]; exact hr
          have hv12 : (S11.set q ((cl ++ [(dl.getD i 0, lf)]).map twoD))[v]? = some (dl.map D.int) := by rw [List.getElem?_set_ne (by omega)]; exact hv
          have f12 : FrX n S (S11.set q ((cl ++ [(dl.getD i 0, lf)]).map twoD)) := Fr.putX f11 (by omega) hn _
          have w12 := f12.1
          generalize S11.set q ((cl ++ [(dl.getD i 0, lf)]).map twoD) = S12 at *
          repeat' (first | done | fail)
          refine ⟨cl ++ [(dl.getD i 0, lf)], _, _, _, rfl, hp12, h12, hr12, hv12, by rw [List.length_append, hcl]; rfl, ?_, fun z hz => ?_, ?_, by omega, (fun _ => by omega), (fun _ => by omega), f12⟩
          · have hdi : dl[i]? = some (dl.getD i 0) := by rw [List.getD_eq_getElem?_getD, List.getElem?_eq_getElem (by omega)]; rfl
            rw [List.map_append, hcd, L2.take_next hdi]
            rfl
          · rcases List.mem_append.mp hz with hz | hz
            · exact hcb z hz
            · rw [List.mem_singleton] at hz
              subst hz
              show 1 ≤ lf ∧ lf ≤ 1000
              omega
          · rw [List.map_append, List.sum_append]
            show _ + (_ + (lf + 0)) = 1000
            omega
        · rename_i hnl g Sg g0 g1 fg wg pr Sp pr0 pr1 fp wp
          have fgp := fg.trans fp
          have hp := fgp.at (by omega) hp
          have hq := fgp.at (by omega) hq
          have hr := fgp.at (by omega) hr
          have hv := fgp.at (by omega) hv
          have f11 := f11.trans fgp.x
          with_reducible refine ix_int (ns := dl) (asS_loc hv) (by omega) ?_
          rw [Int.toNat_natCast]
          repeat' (first | done | fail)
          refine ⟨⟨rfl, by rw [List.length_map]; show _ < 1000000; omega⟩, fun h12 => ?_⟩
          have em : cl.map twoD ++ [D.tup [.int (dl.getD i 0), .int (1 + pr)]] = (cl ++ [(dl.getD i 0, (1 + pr))]).map twoD := by rw [List.map_append]; rfl
          rw [em] at h12 ⊢
          have hp12 : (Sp.set q ((cl ++ [(dl.getD i 0, (1 + pr))]).map twoD))[p]? = some (ps.map payD) := by rw [List.getElem?_set_ne (by omega)]; exact hp
          have hr12 : (Sp.set q ((cl ++ [(dl.getD i 0, (1 + pr))]).map twoD))[r]? = some [] := by rw [List.getElem?_set_ne (by omega)]; exact hr
          have hv12 : (Sp.set q ((cl ++ [(dl.getD i 0, (1 + pr))]).map twoD))[v]? = some (dl.map D.int) := by rw [List.getElem?_set_ne (by omega)]; exact hv
          have f12 : FrX n S (Sp.set q ((cl ++ [(dl.getD i 0, (1 + pr))]).map twoD)) := Fr.putX f11 (by omega) hn _
          have w12 := f12.1
          generalize Sp.set q ((cl ++ [(dl.getD i 0, (1 + pr))]).map twoD) = S12 at *
          repeat' (first | done | fail)
          refine ⟨cl ++ [(dl.getD i 0, (1 + pr))], _, _, _, rfl, hp12, h12, hr12, hv12, by rw [List.length_append, hcl]; rfl, ?_, fun z hz => ?_, ?_, by omega, (fun _ => by omega), (fun _ => by omega), f12⟩
          · have hdi : dl[i]? = some (dl.getD i 0) := by rw [List.getD_eq_getElem?_getD, List.getElem?_eq_getElem (by omega)]; rfl
            rw [List.map_append, hcd, L2.take_next hdi]
            rfl
          · rcases List.mem_append.mp hz with hz | hz
            · exact hcb z hz
            · rw [List.mem_singleton] at hz
              subst hz
              show 1 ≤ (1 + pr) ∧ (1 + pr) ≤ 1000
              omega
          · rw [List.map_append, List.sum_append]
            show _ + (_ + ((1 + pr) + 0)) = 1000
            omega
      · intro ρ S11 hI
        obtain ⟨cl, lf, y14, y15, e1, hp, hq, hr, hv, hcl, hcd, hcb, hsum, hlf, _, hl0, f11⟩ := hI
        subst e1
        have w11 := f11.1
        rw [hlen2] at hcl hcd hl0
        have hl0 := hl0 rfl
        repeat' (first | done | fail)
        have hpl : ps.length = mm := by rw [← hsl, ← hps, List.length_map]
        obtain ⟨ds0, ds1⟩ := dues_sum fun x hx => (hpo x hx).2
        have hpsz : p < S11.length := (List.getElem?_eq_some_iff.mp hp).1
        refine r_eq (comp_map (so := .cell p) ps payD (fun x => .int x.2.2) rfl hp (fun acc => by show (S11 ++ [acc])[p]? = _; rw [List.getElem?_append_left hpsz]; exact hp) (by show _ ≤ 1000000; omega) ?_) ?_
        · intro x hx acc
          refine ⟨rfl, ?_⟩
          dsimp only [wipeE, List.set, payD]
          repeat' (first | done | fail)
        rw [show ps.map (fun x => D.int x.2.2) = (ps.map (·.2.2)).map D.int by rw [List.map_map]; rfl]
        have hwh : 0 ≤ (ps.map (·.2.2)).sum ∧ (ps.map (·.2.2)).sum ≤ 12000000 := by omega
        repeat' (first | done | fail)
        with_reducible refine r_eq b_sum ?_
        clear ds0 ds1
        generalize (ps.map (·.2.2)).sum = whole at *
        repeat' (first | done | fail)
        rename_i r4 Sh rh0 rh1 fh wh r5 Si ri0 ri1 fi wi
        have fhi := fh.trans fi
        have hp := fhi.at (by omega) hp
        have hq := fhi.at (by omega) hq
        have hr := fhi.at (by omega) hr
        have f11 := f11.trans fhi.x
        clear fh fi fhi wh
        have hat3 : ∀ i d, (ranged 0 (c - r5).toNat)[i]? = some d → i < 8 := fun i d h => by
          have := (ranged_at h).1
          omega
        have hlen3 : (ranged 0 (c - r5).toNat).length ≤ 8 := by rw [ranged_len]; omega
        generalize ranged 0 (c - r5).toNat = rs3 at *
        refine for_of (fun i ρ S' => ∃ (ol : List (Int × Int)) (dz : Int) (z14 z18 : Option D), ρ = [some (.loc n), some (.tup [.int a, .int b, .int c]), some (.int top), some (.lst (xs.map nmD)), some (.loc p), some (.loc q), some (.loc r), some (.lst (offs.map nmD)), x8, x9, some (.int (many : Int)), some (.loc v), some (.int lf), some (.int dz), z14, y15, some (.int whole), none, z18, none] ∧
          S'[p]? = some (ps.map payD) ∧ S'[q]? = some (cl.map twoD) ∧ S'[r]? = some (ol.map twoD) ∧ ol.length = i ∧ ol.Pairwise (fun x y => x.1 ≤ y.1) ∧ (∀ x ∈ ol, (0 ≤ x.1 ∧ x.1 ≤ dz) ∧ 1 ≤ x.2 ∧ x.2 ≤ 10000000) ∧ (0 ≤ dz ∧ dz ≤ 90) ∧ FrX n S S')
          ⟨[], 0, _, _, rfl, hp, hq, hr, rfl, .nil, (fun _ h => by cases h), by decide, f11⟩ (fun _ _ _ _ => rfl) ?_ ?_
        · intro i d ρ S14 hd hI
          obtain ⟨ol, dz, z14, z18, e1, hp, hq, hr, hol, hopw, hob, hdz, f14⟩ := hI
          subst e1
          have hi := hat3 i d hd
          have w14 := f14.1
          repeat' (first | done | fail)
          rename_i u1' Sj uj0 uj1 fj wj u2' Sk uk0 uk1 fk wk mst Sl ul0 ul1 fl wl pr Sm um0 um1 fm wm
          have fjm := ((fj.trans fk).trans fl).trans fm
          have hp15 := fjm.at (by omega) hp
          have hq15 := fjm.at (by omega) hq
          have hr15 := fjm.at (by omega) hr
          refine ⟨_, hr15, ⟨rfl, by rw [List.length_map]; show _ < 1000000; omega⟩, fun h15 => ?_⟩
          have em : ol.map twoD ++ [D.tup [.int (min 90 (dz + u2')), .int (min 10000000 (1 + pr))]] = (ol ++ [(min 90 (dz + u2'), min 10000000 (1 + pr))]).map twoD := by rw [List.map_append]; rfl
          rw [em] at h15 ⊢
          refine ⟨ol ++ [(min 90 (dz + u2'), min 10000000 (1 + pr))], _, _, _, rfl, ?_, ?_, h15, by rw [List.length_append, hol]; rfl, ?_, fun z hz => ?_, by omega, Fr.putX (f14.trans fjm.x) (by omega) hn _⟩
          · rw [List.getElem?_set_ne (by omega)]; exact hp15
          · rw [List.getElem?_set_ne (by omega)]; exact hq15
          · refine List.pairwise_append.mpr ⟨hopw, by simp, fun x hx y hy => ?_⟩
            rw [List.mem_singleton] at hy
            subst hy
            have := hob x hx
            show x.1 ≤ min 90 (dz + u2')
            omega
          · rcases List.mem_append.mp hz with hz | hz
            · have := hob z hz
              omega
            · rw [List.mem_singleton] at hz
              subst hz
              show (0 ≤ min 90 (dz + u2') ∧ min 90 (dz + u2') ≤ min 90 (dz + u2')) ∧ 1 ≤ min 10000000 (1 + pr) ∧ min 10000000 (1 + pr) ≤ 10000000
              omega
        · intro ρ S14 hI
          obtain ⟨ol, dz, z14, z18, e1, hp, hq, hr, hol, hopw, hob, hdz, f14⟩ := hI
          subst e1
          have w14 := f14.1
          repeat' (first | done | fail)
          rename_i q1 Sn n0 n1 fn wn q2 So o0 o1 fo wo q3 Sp2 pp0 pp1 fp2 wp2 res Sq rs0 rs1' fq wq
          have fnq := ((fn.trans fo).trans fp2).trans fq
          have hp := fnq.at (by omega) hp
          have hq := fnq.at (by omega) hq
          have hr := fnq.at (by omega) hr
          have f15 := f14.trans fnq.x
          have hplan : PlanOk ps cl ol (min 10000000 res) := by
            refine ⟨by omega, ⟨xs.take mm, offs, by rw [hps]; exact hsp, by omega, hnod, hnok, fun x hx => (hpo x hx).1⟩, by rw [hps]; exact hsw, fun x hx => (hpo x hx).2, by omega, ?_, ?_, hcb, by omega, by omega, hopw, fun x hx => ?_, by omega⟩
            · rw [hcd, List.take_of_length_le (by omega)]; exact hpw
            · rw [hcd, List.take_of_length_le (by omega)]; exact fun x hx => ⟨(hd60 x hx).1, by have := (hd60 x hx).2; omega⟩
            · have := hob x hx
              omega
          refine ⟨_, asS_loc hp, ?_⟩
          repeat' (first | done | fail)
          have hpure : D.pures [.tup (ps.map payD), .tup (cl.map twoD), .tup (ol.map twoD), .int (min 10000000 res), .tup [.int 0, .int 0, .int 0, .int 0]] = true := by
            simp [D.pures, D.pure, pures_pay, pures_two]
          exact ⟨hpure, ps, cl, ol, _, rfl, ⟨hplan, by rw [hcd, List.take_of_length_le (by omega)]; exact fun x hx => (hd60 x hx).2⟩, f15.cut hn⟩
/-! what the package says of numbers and names -/
theorem whole_int {v : Int} {S : Store} : F_is_whole [.int v] S = some (.ok (.bl true), S) := by
  unfold F_is_whole b_is_whole
  refine call_eq rfl ?_
  dsimp only [startE, List.map, List.replicate, List.length, List.cons_append, List.nil_append, Nat.reduceAdd, Nat.reduceSub]
  repeat' (first | done | fail)
theorem num_in {v a b : Int} (h : a ≤ v ∧ v ≤ b) {S : Store} : F_is_number [.int v, .int a, .int b] S = some (.ok (.bl true), S) := by
  unfold F_is_number b_is_number
  refine call_eq rfl ?_
  dsimp only [startE, List.map, List.replicate, List.length, List.cons_append, List.nil_append, Nat.reduceAdd, Nat.reduceSub]
  repeat' (first | done | fail)
  refine r_eq whole_int ?_
  repeat' (first | done | fail)
  rw [decide_eq_true h.2]
  exact ⟨rfl, take_same⟩
theorem check_num_in {v a b : Int} (h : a ≤ v ∧ v ≤ b) {S : Store} : F_check_number [.int v, .int a, .int b] S = some (.ok .non, S) := by
  unfold F_check_number b_check_number
  refine call_eq rfl ?_
  dsimp only [startE, List.map, List.replicate, List.length, List.cons_append, List.nil_append, Nat.reduceAdd, Nat.reduceSub]
  repeat' (first | done | fail)
  refine r_eq (num_in h) ?_
  repeat' (first | done | fail)
theorem tuple_of {ds : List D} {k : Nat} (h : ds.length = k) {S : Store} : F_is_tuple_of [.tup ds, .int (k : Int)] S = some (.ok (.bl true), S) := by
  unfold F_is_tuple_of b_is_tuple_of
  refine call_eq rfl ?_
  dsimp only [startE, List.map, List.replicate, List.length, List.cons_append, List.nil_append, Nat.reduceAdd, Nat.reduceSub]
  repeat' (first | done | fail)
  rw [h, beq_self_eq_true]
  exact ⟨rfl, take_same⟩
theorem letter_in : ∀ c : Nat, 97 ≤ c ∧ c ≤ 122 → (!(Builtin.Str.occurrences ("abcdefghijklmnopqrstuvwxyz" : Str) ⟨#[c]⟩ 0 (("abcdefghijklmnopqrstuvwxyz" : Str)).length 1).isEmpty) = true := by
  have h : ∀ k : Fin 26, (!(Builtin.Str.occurrences ("abcdefghijklmnopqrstuvwxyz" : Str) ⟨#[97 + k.val]⟩ 0 (("abcdefghijklmnopqrstuvwxyz" : Str)).length 1).isEmpty) = true := by decide +kernel
  intro c hc
  have := h ⟨c - 97, by omega⟩
  rw [show 97 + (c - 97) = c by omega] at this
  exact this
theorem letters_in {z : Str} (h : NameOk z.cps.toList) {S : Store} : F_is_letters [.str z, .int 1, .int 8] S = some (.ok (.bl true), S) := by
  have hl : z.length = z.cps.toList.length := by rw [Array.length_toList]; rfl
  have h1 := h.l1
  have h8 := h.l8
  have hA : 1 ≤ (z.length : Int) := by omega
  have hB : (z.length : Int) ≤ 8 := by omega
  unfold F_is_letters b_is_letters
  refine call_eq rfl ?_
  dsimp only [startE, List.map, List.replicate, List.length, List.cons_append, List.nil_append, Nat.reduceAdd, Nat.reduceSub]
  repeat' (first | (with_reducible refine r_eq (b_lenS (by omega)) ?_) | done | fail)
  refine r_eq (comp_map (so := .items (z.cps.toList.map fun c => .str ⟨#[c]⟩)) z.cps.toList (fun c => .str ⟨#[c]⟩) (fun _ => .bl true) rfl rfl (fun _ => rfl) (by show _ ≤ 1000000; omega) ?_) ?_
  · intro c hc acc
    refine ⟨rfl, ?_⟩
    dsimp only [wipeE, List.set]
    repeat' (first | done | fail)
    have e : oInA false (.str ⟨#[c]⟩) (.str "abcdefghijklmnopqrstuvwxyz") (S ++ [acc]) = some (.ok (.bl true), S ++ [acc]) := by
      show some (Except.ok (D.bl (!(Builtin.Str.occurrences ("abcdefghijklmnopqrstuvwxyz" : Str) ⟨#[c]⟩ 0 (("abcdefghijklmnopqrstuvwxyz" : Str)).length 1).isEmpty)), S ++ [acc]) = _
      rw [letter_in c (h.ok c hc)]
    with_reducible refine r_eq e ?_
    repeat' (first | done | fail)
  · repeat' (first | done | fail)
    with_reducible refine r_eq b_allM ?_
    repeat' (first | done | fail)
    exact ⟨by simp, take_same⟩
theorem in_strs {neg : Bool} {z : Str} {xs : List Str} {S : Store} : oInA neg (.str z) (.tup (xs.map D.str)) S = some (.ok (.bl (if neg then !decide (z ∈ xs) else decide (z ∈ xs))), S) := by
  have e1 : oInA neg (.str z) (.tup (xs.map D.str)) S = oIn neg (.str z) (.tup (xs.map D.str)) S := rfl
  rw [e1]
  unfold oIn
  have h2 : (xs.map D.str).all flatD = true := List.all_eq_true.mpr fun d hd => by
    obtain ⟨a, _, rfl⟩ := List.mem_map.mp hd
    rfl
  have h3 : ((xs.map D.str).any fun e => D.eqv e (.str z)) = decide (z ∈ xs) := by
    rw [List.any_map]
    by_cases h : z ∈ xs
    · rw [decide_eq_true h]
      exact List.any_eq_true.mpr ⟨z, h, by show (z == z) = true; exact beq_self_eq_true _⟩
    · rw [decide_eq_false h, List.any_eq_false]
      intro a ha hc
      have := eq_of_beq (show (a == z) = true from hc)
      rw [this] at ha
      exact h ha
  show (match some (xs.map D.str) with
    | some ds => if flatD (.str z) = true ∧ ds.all flatD = true then (some (Except.ok (D.bl (if neg then !(ds.any fun e => D.eqv e (.str z)) else ds.any fun e => D.eqv e (.str z))), S) : Out D) else none
    | none => none) = _
  simp only [show flatD (.str z) = true from rfl, h2, h3, and_self, ↓reduceIte]
def wordsL : List Str := ["all", "any", "back", "cannot", "close", "day", "fixed", "gives", "goal", "hear", "match", "may", "met", "none", "office", "person", "some", "sum", "sure", "terms", "with"]
theorem words_odd : ∀ w ∈ wordsL, w.cps.toList.length ≠ 1 ∧ 113 ∉ w.cps.toList := by decide +kernel
theorem name_not {z : Str} (h : NameOk z.cps.toList) : z ∉ wordsL := fun hz => by
  have := words_odd z hz
  rcases h.q with q | q
  · exact this.1 q
  · exact this.2 q
theorem name_in {z : Str} (h : NameOk z.cps.toList) {S : Store} : F_is_name [.str z] S = some (.ok (.bl true), S) := by
  unfold F_is_name b_is_name
  refine call_eq rfl ?_
  dsimp only [startE, List.map, List.replicate, List.length, List.cons_append, List.nil_append, Nat.reduceAdd, Nat.reduceSub]
  repeat' (first | done | fail)
  with_reducible refine r_eq (letters_in h) ?_
  repeat' (first | done | fail)
  have e : oInA true (.str z) (.tup (wordsL.map D.str)) S = some (.ok (.bl true), S) := by
    rw [in_strs, decide_eq_false (name_not h)]
    rfl
  refine r_eq e ?_
  repeat' (first | done | fail)
/-! calls and outlays are found right -/
theorem lay_two (l : List (Int × Int)) : PyData.canLayAll0 (D.pys (l.map twoD)) = true ∧ PyData.depthAll (D.pys (l.map twoD)) ≤ 1 := by
  induction l with
  | nil => exact ⟨rfl, by decide⟩
  | cons x l ih =>
    refine ⟨by simp only [List.map_cons, twoD, D.pys, PyData.canLayAll0, D.py, PyData.canLay0, Bool.and_self, Bool.true_and]; exact ih.1, ?_⟩
    simp only [List.map_cons, twoD, D.pys, D.py, PyData.depthAll, PyData.depth]
    have := ih.2
    omega
theorem eqok_two {l : List (Int × Int)} : eqOk (.tup (l.map twoD)) = true := by
  unfold eqOk
  rw [Bool.and_eq_true]
  refine ⟨by rw [D.pure]; exact pures_two, ?_⟩
  have h := lay_two l
  unfold SeqAt.shaped
  rw [Bool.and_eq_true]
  refine ⟨by rw [D.py, PyData.canLay0]; exact h.1, decide_eq_true ?_⟩
  rw [D.py, PyData.depth]
  have := h.2
  omega
theorem eqA_nil {ds : List D} (hp : eqOk (.tup ds) = true) {S : Store} : oEqA (.tup ds) (.tup []) S = some (.ok (.bl ds.isEmpty), S) := by
  unfold oEqA oEqS oEq
  refine (if_pos ⟨hp, (by decide : eqOk (.tup []) = true)⟩).trans ?_
  dsimp only [told]
  cases ds with
  | nil => simp [D.eqv, D.eqvs]
  | cons d ds => simp [D.eqv, D.eqvs]
theorem ix_lastT {α : Type} {f : α → D} {l : List α} {x : α} {S : Store} {Q : D → Store → Prop} {E : XV → Store → Prop} (h : l.getLast? = some x) (k : Q (f x) S) : Pst (oIx (.tup (l.map f)) (.int (-1)) S) Q E := by
  refine o1_ix ⟨_, _, rfl, ?_, k⟩
  rw [atI_end, List.getLast?_map, h]
  rfl
theorem is_call_in {l : List (Int × Int)} {c : Int × Int} (h1 : 0 ≤ c.1 ∧ c.1 ≤ 60) (h2 : 1 ≤ c.2 ∧ c.2 ≤ 1000) (hl : ∀ x, l.getLast? = some x → x.1 < c.1) {S : Store} : F_is_call [twoD c, .tup (l.map twoD)] S = some (.ok (.bl true), S) := by
  show F_is_call [.tup [.int c.1, .int c.2], .tup (l.map twoD)] S = _
  unfold F_is_call b_is_call
  refine call_eq rfl ?_
  dsimp only [startE, List.map, List.replicate, List.length, List.cons_append, List.nil_append, Nat.reduceAdd, Nat.reduceSub]
  repeat' (first | done | fail)
  refine r_eq (tuple_of (k := 2) rfl) ?_
  repeat' (first | done | fail)
  with_reducible refine r_eq (num_in h1) ?_
  repeat' (first | done | fail)
  with_reducible refine r_eq (num_in h2) ?_
  repeat' (first | done | fail)
  with_reducible refine r_eq (eqA_nil (eqok_two (l := l))) ?_
  cases hg : l.getLast? with
  | none =>
    have hn : l = [] := List.getLast?_eq_none_iff.mp hg
    subst hn
    repeat' (first | done | fail)
  | some x =>
    have hx := hl x hg
    have hne : (l.map twoD).isEmpty = false := by
      cases l with
      | nil => simp at hg
      | cons _ _ => rfl
    rw [hne]
    repeat' (first | done | fail)
    refine ix_lastT (f := twoD) hg ?_
    rw [show twoD x = .tup [.int x.1, .int x.2] from rfl]
    repeat' (first | done | fail)
    exact ⟨by rw [decide_eq_true hx], take_same⟩
theorem is_outlay_in {l : List (Int × Int)} {c : Int × Int} (h1 : 0 ≤ c.1 ∧ c.1 ≤ 90) (h2 : 1 ≤ c.2 ∧ c.2 ≤ 10000000) (hl : ∀ x, l.getLast? = some x → x.1 ≤ c.1) {S : Store} : F_is_outlay [twoD c, .tup (l.map twoD)] S = some (.ok (.bl true), S) := by
  show F_is_outlay [.tup [.int c.1, .int c.2], .tup (l.map twoD)] S = _
  unfold F_is_outlay b_is_outlay
  refine call_eq rfl ?_
  dsimp only [startE, List.map, List.replicate, List.length, List.cons_append, List.nil_append, Nat.reduceAdd, Nat.reduceSub]
  repeat' (first | done | fail)
  refine r_eq (tuple_of (k := 2) rfl) ?_
  repeat' (first | done | fail)
  with_reducible refine r_eq (num_in h1) ?_
  repeat' (first | done | fail)
  with_reducible refine r_eq (num_in h2) ?_
  repeat' (first | done | fail)
  with_reducible refine r_eq (eqA_nil (eqok_two (l := l))) ?_
  cases hg : l.getLast? with
  | none =>
    have hn : l = [] := List.getLast?_eq_none_iff.mp hg
    subst hn
    repeat' (first | done | fail)
  | some x =>
    have hx := hl x hg
    have hne : (l.map twoD).isEmpty = false := by
      cases l with
      | nil => simp at hg
      | cons _ _ => rfl
    rw [hne]
    repeat' (first | done | fail)
    refine ix_lastT (f := twoD) hg ?_
    rw [show twoD x = .tup [.int x.1, .int x.2] from rfl]
    repeat' (first | done | fail)
    exact ⟨by rw [decide_eq_true hx], take_same⟩
/-! the checks of calls and outlays pass -/
theorem r_callGs {i n : Nat} {l : List (Str × OpB)} {r : AX} {ρ : PF.Env} {S : Store} {Q : D → Store → Prop} {E : XV → Store → Prop} {x : Str} {o : OpB} (h : ρ[i]? = some (some (.gfn x))) (e : pickO x l = some o) (k : Pst (r ρ S) (fun ds S => ds.length = n ∧ Pst (o ds S) Q E) E) : Pst (cCallGs i n l r ρ S) Q E := by
  unfold cCallGs
  simp only [h, e]
  rw [Pst_bind]
  refine k.mono (fun ds S h => ?_) fun _ _ h => h
  rw [if_pos h.1]
  exact h.2
theorem cut_first {l : List (Int × Int)} {i : Nat} : cutL (l.map twoD) none (some (i : Int)) = (l.take i).map twoD := by
  rw [cut_to _ (by omega), Int.toNat_natCast, List.map_take]
theorem wrong_at_call {l : List (Int × Int)} (h8 : l.length ≤ 8) (hok : ∀ (i : Nat) c, l[i]? = some c → ∀ S, F_is_call [twoD c, .tup ((l.take i).map twoD)] S = some (.ok (.bl true), S)) {S : Store} : F_wrong_at_is_call [.tup (l.map twoD), .int 8, .gfn "is_call"] S = some (.ok (.lst []), S) := by
  unfold F_wrong_at_is_call b_wrong_at_is_call
  with_reducible refine call_eq rfl ?_
  dsimp only [startE, List.map, List.replicate, List.length, List.cons_append, List.nil_append, Nat.reduceAdd, Nat.reduceSub]
  repeat' (first | done | fail)
  refine for_of (fun i ρ S' => ∃ x3 x4, ρ = [some (.tup (l.map twoD)), some (.int 8), some (.gfn "is_call"), x3, x4] ∧ S' = S) ⟨_, _, rfl, rfl⟩ (fun _ _ _ _ => rfl) ?_ ?_
  · rintro i d ρ S' hd ⟨x3, x4, rfl, rfl⟩
    rw [numb_get, List.getElem?_map, Option.map_map] at hd
    obtain ⟨c, hc, rfl⟩ := Option.map_eq_some_iff.mp hd
    have hi : i < l.length := (List.getElem?_eq_some_iff.mp hc).1
    dsimp only [Function.comp]
    rw [Nat.zero_add]
    have hne : ¬ ((i : Nat) : Int) = 8 := by omega
    repeat' (first | done | fail)
    refine r_callGs rfl (o := F_is_call) rfl ?_
    repeat' (first | done | fail)
    rw [cut_first]
    refine r_eq (hok i c hc _) ?_
    repeat' (first | done | fail)
  · rintro ρ S' ⟨x3, x4, rfl, rfl⟩
    repeat' (first | done | fail)
theorem wrong_at_outlay {l : List (Int × Int)} (h8 : l.length ≤ 8) (hok : ∀ (i : Nat) c, l[i]? = some c → ∀ S, F_is_outlay [twoD c, .tup ((l.take i).map twoD)] S = some (.ok (.bl true), S)) {S : Store} : F_wrong_at_is_outlay [.tup (l.map twoD), .int 8, .gfn "is_outlay"] S = some (.ok (.lst []), S) := by
  unfold F_wrong_at_is_outlay b_wrong_at_is_outlay
  with_reducible refine call_eq rfl ?_
  dsimp only [startE, List.map, List.replicate, List.length, List.cons_append, List.nil_append, Nat.reduceAdd, Nat.reduceSub]
  repeat' (first | done | fail)
  refine for_of (fun i ρ S' => ∃ x3 x4, ρ = [some (.tup (l.map twoD)), some (.int 8), some (.gfn "is_outlay"), x3, x4] ∧ S' = S) ⟨_, _, rfl, rfl⟩ (fun _ _ _ _ => rfl) ?_ ?_
  · rintro i d ρ S' hd ⟨x3, x4, rfl, rfl⟩
    rw [numb_get, List.getElem?_map, Option.map_map] at hd
    obtain ⟨c, hc, rfl⟩ := Option.map_eq_some_iff.mp hd
    have hi : i < l.length := (List.getElem?_eq_some_iff.mp hc).1
    dsimp only [Function.comp]
    rw [Nat.zero_add]
    have hne : ¬ ((i : Nat) : Int) = 8 := by omega
    repeat' (first | done | fail)
    refine r_callGs rfl (o := F_is_outlay) rfl ?_
    repeat' (first | done | fail)
    rw [cut_first]
    refine r_eq (hok i c hc _) ?_
    repeat' (first | done | fail)
  · rintro ρ S' ⟨x3, x4, rfl, rfl⟩
    repeat' (first | done | fail)
theorem last_take {l : List (Int × Int)} {i : Nat} {x : Int × Int} (h : (l.take i).getLast? = some x) : ∃ j, j < i ∧ l[j]? = some x := by
  rw [List.getLast?_eq_getElem?, List.getElem?_take] at h
  split at h
  · rename_i hl
    exact ⟨_, hl, h⟩
  · cases h
theorem check_calls_is {cl : List (Int × Int)} (h1 : 1 ≤ cl.length ∧ cl.length ≤ 8) (hp : (cl.map (·.1)).Pairwise (· < ·)) (hd : ∀ x ∈ cl.map (·.1), 0 ≤ x ∧ x ≤ 60) (hb : ∀ x ∈ cl, 1 ≤ x.2 ∧ x.2 ≤ 1000) {S : Store} : F_check_calls [.tup (cl.map twoD)] S = some (.ok .non, S) := by
  have hw : ∀ S, F_wrong_at_is_call [.tup (cl.map twoD), .int 8, .gfn "is_call"] S = some (.ok (.lst []), S) := fun S => wrong_at_call h1.2 fun i c hc S => by
    have hm := List.mem_of_getElem? hc
    refine is_call_in (hd _ (List.mem_map.mpr ⟨c, hm, rfl⟩)) (hb c hm) fun x hx => ?_
    obtain ⟨j, hj, hjx⟩ := last_take hx
    have hil := (List.getElem?_eq_some_iff.mp hc)
    have hjl := (List.getElem?_eq_some_iff.mp hjx)
    have := List.pairwise_iff_getElem.mp hp j i (by rw [List.length_map]; exact hjl.1) (by rw [List.length_map]; exact hil.1) hj
    rw [List.getElem_map, List.getElem_map, hil.2, hjl.2] at this
    exact this
  have hf : ∀ S, F_wrong_from_one_is_call [.tup (cl.map twoD), .int 8, .gfn "is_call"] S = some (.ok (.lst []), S) := fun S => by
    unfold F_wrong_from_one_is_call b_wrong_from_one_is_call
    with_reducible refine call_eq rfl ?_
    dsimp only [startE, List.map, List.replicate, List.length, List.cons_append, List.nil_append, Nat.reduceAdd, Nat.reduceSub]
    repeat' (first | done | fail)
    with_reducible refine r_eq (eqA_nil (eqok_two (l := cl))) ?_
    have hne : (cl.map twoD).isEmpty = false := by
      cases cl with
      | nil => simp at h1
      | cons _ _ => rfl
    rw [hne]
    repeat' (first | done | fail)
    refine r_eq (hw _) ?_
    repeat' (first | done | fail)
  unfold F_check_calls b_check_calls
  with_reducible refine call_eq rfl ?_
  dsimp only [startE, List.map, List.replicate, List.length, List.cons_append, List.nil_append, Nat.reduceAdd, Nat.reduceSub]
  repeat' (first | done | fail)
  refine r_eq (hf _) ?_
  repeat' (first | done | fail)
  refine for_of (fun i ρ S' => ρ = [some (.tup (cl.map twoD)), none] ∧ S' = S) ⟨rfl, rfl⟩ (fun _ _ _ _ => rfl) ?_ ?_
  · intro i d ρ S' hd
    simp at hd
  · intro ρ S' hI
    obtain ⟨e1, e2⟩ := hI
    subst e1
    subst e2
    repeat' (first | done | fail)
theorem check_outlays_is {ol : List (Int × Int)} (h8 : ol.length ≤ 8) (hp : ol.Pairwise fun x y => x.1 ≤ y.1) (hb : ∀ x ∈ ol, (0 ≤ x.1 ∧ x.1 ≤ 90) ∧ 1 ≤ x.2 ∧ x.2 ≤ 10000000) {S : Store} : F_check_outlays [.tup (ol.map twoD)] S = some (.ok .non, S) := by
  have hw : ∀ S, F_wrong_at_is_outlay [.tup (ol.map twoD), .int 8, .gfn "is_outlay"] S = some (.ok (.lst []), S) := fun S => wrong_at_outlay h8 fun i c hc S => by
    have hm := List.mem_of_getElem? hc
    refine is_outlay_in (hb c hm).1 (hb c hm).2 fun x hx => ?_
    obtain ⟨j, hj, hjx⟩ := last_take hx
    have hil := (List.getElem?_eq_some_iff.mp hc)
    have hjl := (List.getElem?_eq_some_iff.mp hjx)
    have := List.pairwise_iff_getElem.mp hp j i hjl.1 hil.1 hj
    rw [hil.2, hjl.2] at this
    exact this
  unfold F_check_outlays b_check_outlays
  with_reducible refine call_eq rfl ?_
  dsimp only [startE, List.map, List.replicate, List.length, List.cons_append, List.nil_append, Nat.reduceAdd, Nat.reduceSub]
  repeat' (first | done | fail)
  refine r_eq (hw _) ?_
  repeat' (first | done | fail)
  refine for_of (fun i ρ S' => ρ = [some (.tup (ol.map twoD)), none] ∧ S' = S) ⟨rfl, rfl⟩ (fun _ _ _ _ => rfl) ?_ ?_
  · intro i d ρ S' hd
    simp at hd
  · intro ρ S' hI
    obtain ⟨e1, e2⟩ := hI
    subst e1
    subst e2
    repeat' (first | done | fail)
/-! bounds -/
structure BdOk (f l s w : Int) : Prop where
  f : 0 ≤ f ∧ f ≤ 6
  l : 0 ≤ l ∧ l ≤ 9
  s : 0 ≤ s ∧ s ≤ 3
  w : 0 ≤ w ∧ w ≤ 9
theorem are_bounds_in {f l s w : Int} (h : BdOk f l s w) {S : Store} : F_are_bounds [.tup [.int f, .int l, .int s, .int w]] S = some (.ok (.bl true), S) := by
  unfold F_are_bounds b_are_bounds
  with_reducible refine call_eq rfl ?_
  dsimp only [startE, List.map, List.replicate, List.length, List.cons_append, List.nil_append, Nat.reduceAdd, Nat.reduceSub]
  repeat' (first | done | fail)
  refine r_eq (tuple_of (k := 4) rfl) ?_
  repeat' (first | done | fail)
  with_reducible refine r_comp ?_
  have ez : cZip (aCons (cVar 0) (aCons (cK (.tup [.int 6, .int 9, .int 3, .int 9])) aNil)) [some (.tup [.int f, .int l, .int s, .int w]), none, none] S = some (.ok (.zip (.items [.int f, .int l, .int s, .int w]) (.items [.int 6, .int 9, .int 3, .int 9])), S) := rfl
  with_reducible refine r_eq ez ?_
  have hall : ∀ p ∈ [(f, (6 : Int)), (l, 9), (s, 3), (w, 9)], 0 ≤ p.1 ∧ p.1 ≤ p.2 := by
    intro p hp
    simp only [List.mem_cons, List.not_mem_nil, or_false] at hp
    rcases hp with rfl | rfl | rfl | rfl
    · exact h.f
    · exact h.l
    · exact h.s
    · exact h.w
  refine r_eq (comp_map (S := S) (src := fun _ _ => some (Except.ok (Src.zip (.items [.int f, .int l, .int s, .int w]) (.items [.int 6, .int 9, .int 3, .int 9])), S)) (so := .zip (.items [.int f, .int l, .int s, .int w]) (.items [.int 6, .int 9, .int 3, .int 9])) [(f, (6 : Int)), (l, 9), (s, 3), (w, 9)] (fun p => .tup [.int p.1, .int p.2]) (fun _ => .bl true) rfl rfl (fun _ => rfl) (by show 4 ≤ 1000000; decide) ?_) ?_
  · intro p hp acc
    refine ⟨rfl, ?_⟩
    dsimp only [wipeE, List.set]
    repeat' (first | done | fail)
    refine r_eq (num_in (hall p hp)) ?_
    repeat' (first | done | fail)
  · repeat' (first | done | fail)
    refine r_eq (b_allM (p := fun _ => true)) ?_
    repeat' (first | done | fail)
    all_goals exact ⟨by simp, take_same⟩
/-! payers -/
theorem lay_pay (l : List (Str × Str × Int)) (hs : ∀ x ∈ l, PyData.strOk x.1 = true ∧ PyData.strOk x.2.1 = true) : PyData.canLayAll0 (D.pys (l.map payD)) = true ∧ PyData.depthAll (D.pys (l.map payD)) ≤ 1 := by
  induction l with
  | nil => exact ⟨rfl, by decide⟩
  | cons x l ih =>
    obtain ⟨a1, a2⟩ := hs x (List.mem_cons_self ..)
    have ih := ih fun y hy => hs y (List.mem_cons_of_mem _ hy)
    refine ⟨by simp only [List.map_cons, payD, D.pys, PyData.canLayAll0, D.py, PyData.canLay0, a1, a2, Bool.and_self, Bool.true_and]; exact ih.1, ?_⟩
    simp only [List.map_cons, payD, D.pys, D.py, PyData.depthAll, PyData.depth]
    have := ih.2
    omega
theorem eqok_pay {l : List (Str × Str × Int)} (hs : ∀ x ∈ l, PyData.strOk x.1 = true ∧ PyData.strOk x.2.1 = true) : eqOk (.tup (l.map payD)) = true := by
  unfold eqOk
  rw [Bool.and_eq_true]
  refine ⟨by rw [D.pure]; exact pures_pay, ?_⟩
  have h := lay_pay l hs
  unfold SeqAt.shaped
  rw [Bool.and_eq_true]
  refine ⟨by rw [D.py, PyData.canLay0]; exact h.1, decide_eq_true ?_⟩
  rw [D.py, PyData.depth]
  have := h.2
  omega
theorem neA_nilT {ds : List D} (hp : eqOk (.tup ds) = true) {S : Store} : oNeA (.tup ds) (.tup []) S = some (.ok (.bl (!ds.isEmpty)), S) := by
  unfold oNeA oNeS oNe
  refine (if_pos ⟨hp, (by decide : eqOk (.tup []) = true)⟩).trans ?_
  dsimp only [told]
  cases ds with
  | nil => simp [D.eqv, D.eqvs]
  | cons d ds => simp [D.eqv, D.eqvs]
theorem name_strOk {z : Str} (h : NameOk z.cps.toList) : PyData.strOk z = true := by
  unfold PyData.strOk
  rw [← Array.all_toList]
  refine List.all_eq_true.mpr fun c hc => decide_eq_true ?_
  have := h.ok c hc
  omega
def putsK (ks : List Str) (x : Str) : List Str := if x ∈ ks then ks else ks ++ [x]
theorem puts_mem {ks : List Str} {x y : Str} : y ∈ putsK ks x ↔ y ∈ ks ∨ y = x := by
  unfold putsK
  split
  · rename_i h
    exact ⟨.inl, fun z => z.elim id fun e => by rw [e]; exact h⟩
  · rw [List.mem_append, List.mem_singleton]
theorem puts_nodup {ks : List Str} {x : Str} (h : ks.Nodup) : (putsK ks x).Nodup := by
  unfold putsK
  split
  · exact h
  · rename_i hx
    exact List.nodup_append.mpr ⟨h, by simp, fun a ha b hb => by
      rw [List.mem_singleton] at hb
      subst hb
      exact fun e => hx (e ▸ ha)⟩
def ksD (ks : List Str) : List (Key × D) := ks.map fun x => (.inr x, .non)
theorem put_ks (ks : List Str) (x : Str) : putD (ksD ks) (.inr x) .non = ksD (putsK ks x) := by
  have h1 : ((ksD ks).any fun kv => decide (kv.1 = (Sum.inr x : Key))) = decide (x ∈ ks) := by
    unfold ksD
    rw [List.any_map]
    by_cases h : x ∈ ks
    · rw [decide_eq_true h]
      exact List.any_eq_true.mpr ⟨x, h, by simp⟩
    · rw [decide_eq_false h, List.any_eq_false]
      intro a ha
      simp only [Function.comp, decide_eq_true_eq]
      intro e
      injection e with e
      exact h (e ▸ ha)
  unfold putD putsK
  rw [h1]
  by_cases h : x ∈ ks
  · rw [decide_eq_true h, if_pos rfl, if_pos h]
    unfold ksD
    rw [List.map_map]
    refine List.map_congr_left fun a ha => ?_
    simp only [Function.comp]
    split <;> rfl
  · rw [decide_eq_false h, if_neg (by decide), if_neg h]
    unfold ksD
    rw [List.map_append]
    rfl
/-! a dict of texts, each once -/
theorem dc_go {so : Src} {f : D → Store → Out (Option (D × D))} {xs : List Str} {S : Store} (hl : xs.length ≤ 1000) (hs1 : ∀ acc, srcAt so (S ++ [acc]) = some (xs.map D.str))
    (hf : ∀ x ∈ xs, ∀ acc, f (.str x) (S ++ [acc]) = some (.ok (some (.str x, .non)), S ++ [acc])) :
    ∀ (k i : Nat) (ks : List Str), k + i = xs.length → ks.length ≤ i → dcGo so S.length f k i (S ++ [encP (ksD ks)]) = some (.ok (), S ++ [encP (ksD ((xs.drop i).foldl putsK ks))])
  | 0, i, ks, e, _ => by
    unfold dcGo
    rw [hs1]
    dsimp only
    rw [if_pos (by rw [List.length_map]; omega), List.drop_of_length_le (by omega)]
    rfl
  | k + 1, i, ks, e, hk => by
    have hi : i < xs.length := by omega
    have hx : (xs.map D.str)[i]? = some (.str xs[i]) := by rw [List.getElem?_map, List.getElem?_eq_getElem hi]; rfl
    unfold dcGo
    rw [hs1]
    dsimp only
    rw [hx]
    dsimp only
    rw [hf xs[i] (List.getElem_mem hi), noX_ok, bindO_ok]
    dsimp only [keyD]
    rw [show (S ++ [encP (ksD ks)])[S.length]? = some (encP (ksD ks)) by simp]
    dsimp only
    rw [decP_enc]
    dsimp only
    rw [if_pos ⟨rfl, by unfold ksD; rw [List.length_map]; show _ < 1000000; omega⟩, put_ks, show (S ++ [encP (ksD ks)]).set S.length (encP (ksD (putsK ks xs[i]))) = S ++ [encP (ksD (putsK ks xs[i]))] by simp]
    have hlen : (putsK ks xs[i]).length ≤ i + 1 := by
      unfold putsK
      split
      · omega
      · rw [List.length_append, List.length_singleton]; omega
    rw [dc_go hl hs1 hf k (i + 1) _ (by omega) hlen, List.drop_eq_getElem_cons hi, List.foldl_cons]
theorem comp_dc {src : IX} {js : List Nat} {tgt : TX} {ek ev : EX} {so : Src} {ρ : PF.Env} {S : Store} (xs : List Str)
    (hsrc : src ρ S = some (.ok so, S)) (hs : srcAt so S = some (xs.map D.str)) (hs1 : ∀ acc, srcAt so (S ++ [acc]) = some (xs.map D.str)) (hl : xs.length ≤ 1000)
    (hg : ∀ x ∈ xs, ∀ acc, Pst (tgt (.str x) (wipeE ρ js) (S ++ [acc])) (fun ρ1 S2 => Pst (ek ρ1 S2) (fun k S2 => k = .str x ∧ Pst (ev ρ1 S2) (fun y S2 => y = .non ∧ S2 = S ++ [acc]) NoE) NoE) NoE) :
    cDc src js tgt bYes ek ev ρ S = some (.ok (.dks ((xs.foldl putsK []).map Sum.inr) ((xs.foldl putsK []).map fun _ => .non)), S) := by
  have hgo := dc_go (so := so) (f := fun d S => bindO (tgt d (wipeE ρ js) S) fun ρ1 S => bindO (bYes ρ1 S) fun b S => match b with
      | true => bindO (ek ρ1 S) fun x S => bindO (ev ρ1 S) fun y S => some (.ok (some (x, y)), S)
      | false => some (.ok none, S)) (S := S) hl hs1 (fun x hx acc => by
    refine Pst.eq.mp ?_
    rw [Pst_bind]
    refine (hg x hx acc).mono (fun ρ1 S2 h => ?_) fun _ _ h => h
    show Pst (bindO (ek ρ1 S2) fun x S => bindO (ev ρ1 S) fun y S => some (.ok (some (x, y)), S)) _ _
    rw [Pst_bind]
    refine h.mono (fun k S3 h => ?_) fun _ _ h => h
    obtain ⟨rfl, h⟩ := h
    rw [Pst_bind]
    refine h.mono (fun y S4 h => ?_) fun _ _ h => h
    obtain ⟨rfl, rfl⟩ := h
    exact ⟨rfl, rfl⟩) xs.length 0 [] (by omega) (Nat.le_refl _)
  unfold cDc
  rw [hsrc, bindO_ok]
  try dsimp only
  rw [hs]
  dsimp only
  rw [List.length_map, show S ++ [[]] = S ++ [encP (ksD [])] from rfl]
  refine (bindO_congr hgo).trans ?_
  rw [bindO_ok, List.drop_zero]
  try dsimp only
  rw [show (S ++ [encP (ksD (xs.foldl putsK []))])[S.length]? = some (encP (ksD (xs.foldl putsK []))) by simp]
  dsimp only
  rw [decP_enc]
  dsimp only
  rw [show (S ++ [encP (ksD (xs.foldl putsK []))]).take S.length = S by simp]
  unfold ksD
  rw [List.map_map, List.map_map]
  rfl
/-! a payer is found right -/
abbrev Pay := Str × Str × Int
theorem name_comp {l : List Pay} {g : Pay → Str} {j : Int} (hj : ∀ (x : Pay) S (Q : D → Store → Prop), Q (.str (g x)) S → Pst (oIx (payD x) (.int j) S) Q NoE) (hl : l.length ≤ 1000) {x0 x2 x3 x4 x5 x6 x7 x8 : Option D} {S : Store} :
    cComp (cSeqA (cVar 1)) [7] (tName 7) bYes (cBin oIx (cVar 7) (cK (.int j))) [x0, some (.tup (l.map payD)), x2, x3, x4, x5, x6, x7, x8] S = some (.ok (.lst ((l.map g).map D.str)), S) := by
  have e := comp_map (src := cSeqA (cVar 1)) (js := [7]) (tgt := tName 7) (elt := cBin oIx (cVar 7) (cK (.int j))) (so := .items (l.map payD)) (ρ := [x0, some (.tup (l.map payD)), x2, x3, x4, x5, x6, x7, x8]) (S := S) l payD (fun x => .str (g x)) rfl rfl (fun _ => rfl) (by show _ ≤ 1000000; omega) (by
    intro x hx acc
    refine ⟨rfl, ?_⟩
    dsimp only [wipeE, List.set]
    repeat' (first | done | fail)
    refine hj x _ _ ?_
    exact ⟨rfl, rfl⟩)
  rw [e, List.map_map]
  rfl
theorem in_strsL {neg : Bool} {z : Str} {xs : List Str} {S : Store} : oInA neg (.str z) (.lst (xs.map D.str)) S = some (.ok (.bl (if neg then !decide (z ∈ xs) else decide (z ∈ xs))), S) := by
  have e1 : oInA neg (.str z) (.lst (xs.map D.str)) S = oInA neg (.str z) (.tup (xs.map D.str)) S := rfl
  rw [e1, in_strs]
theorem some_comp {xs os : List Str} (hl : xs.length ≤ 1000) {x0 x1 x2 x3 x4 x7 x8 : Option D} {S : Store} :
    cComp (cSeqA (cVar 5)) [8] (tName 8) bYes (cBin (oInA false) (cVar 8) (cVar 6)) [x0, x1, x2, x3, x4, some (.lst (xs.map D.str)), some (.lst (os.map D.str)), x7, x8] S = some (.ok (.lst (xs.map fun x => D.bl (decide (x ∈ os)))), S) :=
  comp_map (src := cSeqA (cVar 5)) (js := [8]) (tgt := tName 8) (elt := cBin (oInA false) (cVar 8) (cVar 6)) (so := .items (xs.map D.str)) (ρ := [x0, x1, x2, x3, x4, some (.lst (xs.map D.str)), some (.lst (os.map D.str)), x7, x8]) (S := S) xs D.str (fun x => .bl (decide (x ∈ os))) rfl rfl (fun _ => rfl) (by show _ ≤ 1000000; omega) (by
    intro x hx acc
    refine ⟨rfl, ?_⟩
    dsimp only [wipeE, List.set]
    repeat' (first | done | fail)
    with_reducible refine r_eq in_strsL ?_
    try exact ⟨rfl, rfl⟩)
theorem office_dc {os : List Str} (hl : os.length ≤ 1000) {x0 x1 x2 x3 x4 x5 x7 x8 : Option D} {S : Store} :
    cDc (cSeqA (cVar 6)) [8] (tName 8) bYes (cVar 8) (cK D.non) [x0, x1, x2, x3, x4, x5, some (.lst (os.map D.str)), x7, x8] S = some (.ok (.dks ((os.foldl putsK []).map Sum.inr) ((os.foldl putsK []).map fun _ => .non)), S) :=
  comp_dc (src := cSeqA (cVar 6)) (js := [8]) (tgt := tName 8) (ek := cVar 8) (ev := cK D.non) (so := .items (os.map D.str)) os rfl rfl (fun _ => rfl) hl (by
    intro x hx acc
    refine ⟨rfl, ?_⟩
    dsimp only [wipeE, List.set]
    repeat' (first | done | fail)
    try exact ⟨rfl, rfl, rfl⟩)
theorem is_payer_in {l : List Pay} {x : Pay} (hn : NameOk x.1.cps.toList) (ho : NameOk x.2.1.cps.toList) (hd : 1 ≤ x.2.2 ∧ x.2.2 ≤ 1000000) (hl : l.length ≤ 12)
    (hs : ∀ y ∈ l, PyData.strOk y.1 = true ∧ PyData.strOk y.2.1 = true) (hlast : ∀ y, l.getLast? = some y → y.1.cps.toList < x.1.cps.toList)
    (hap : ∀ a ∈ l.map (·.1) ++ [x.1], a ∉ l.map (·.2.1) ++ [x.2.1]) (h4 : ((l.map (·.2.1) ++ [x.2.1]).foldl putsK []).length ≤ 4) {S : Store} : F_is_payer [payD x, .tup (l.map payD)] S = some (.ok (.bl true), S) := by
  show F_is_payer [.tup [.str x.1, .str x.2.1, .int x.2.2], .tup (l.map payD)] S = _
  unfold F_is_payer b_is_payer
  with_reducible refine call_eq rfl ?_
  dsimp only [startE, List.map, List.replicate, List.length, List.cons_append, List.nil_append, Nat.reduceAdd, Nat.reduceSub]
  repeat' (first | done | fail)
  refine r_eq (tuple_of (k := 3) rfl) ?_
  repeat' (first | done | fail)
  with_reducible refine r_eq (name_in hn) ?_
  repeat' (first | done | fail)
  with_reducible refine r_eq (name_in ho) ?_
  repeat' (first | done | fail)
  with_reducible refine r_eq (num_in hd) ?_
  repeat' (first | done | fail)
  with_reducible refine r_eq (neA_nilT (eqok_pay hs)) ?_
  have hany : (l.map (fun p : Pay => p.1) ++ [x.1]).any (fun z => decide (z ∈ l.map (fun p : Pay => p.2.1) ++ [x.2.1])) = false := by
    rw [List.any_eq_false]
    intro z hz hz'
    exact hap z hz (of_decide_eq_true hz')
  have elen : bLenK [.dks (((l.map (fun p : Pay => p.2.1) ++ [x.2.1]).foldl putsK []).map Sum.inr) (((l.map (fun p : Pay => p.2.1) ++ [x.2.1]).foldl putsK []).map fun _ => .non)] S =
      some (.ok (.int (((l.map (fun p : Pay => p.2.1) ++ [x.2.1]).foldl putsK []).length : Nat)), S) := by
    have e0 : ∀ (ks : List Str) (ds : List D), bLenK [.dks (ks.map Sum.inr) ds] S = some (.ok (.int ((ks.map (Sum.inr (α := Int))).length : Nat)), S) := fun _ _ => rfl
    refine (e0 _ _).trans ?_
    rw [List.length_map]
  cases hg : l.getLast? with
  | none =>
    have hne : (l.map payD).isEmpty = true := by
      rw [List.getLast?_eq_none_iff.mp hg]; rfl
    rw [hne]
    repeat' (first | done | fail)
    with_reducible refine r_eq (name_comp (l := l) (j := 0) (g := fun p => p.1) (fun x S Q h => o1_ix ⟨_, _, rfl, rfl, h⟩) (by omega)) ?_
    repeat' (first | done | fail)
    refine ⟨by simp only [List.length_map, List.length_cons, List.length_nil, List.length_append, show lim = 1000000 from rfl]; omega, ?_⟩
    repeat' (first | done | fail)
    with_reducible refine r_eq (name_comp (l := l) (j := 1) (g := fun p => p.2.1) (fun x S Q h => o1_ix ⟨_, _, rfl, rfl, h⟩) (by omega)) ?_
    repeat' (first | done | fail)
    refine ⟨by simp only [List.length_map, List.length_cons, List.length_nil, List.length_append, show lim = 1000000 from rfl]; omega, ?_⟩
    repeat' (first | done | fail)
    rw [show (List.map D.str (List.map (fun p : Pay => p.1) l) ++ [D.str x.1]) = (List.map (fun p : Pay => p.1) l ++ [x.1]).map D.str from by rw [List.map_append]; rfl]
    rw [show (List.map D.str (List.map (fun p : Pay => p.2.1) l) ++ [D.str x.2.1]) = (List.map (fun p : Pay => p.2.1) l ++ [x.2.1]).map D.str from by rw [List.map_append]; rfl]
    with_reducible refine r_eq (some_comp (by rw [List.length_append, List.length_map, List.length_singleton]; omega)) ?_
    repeat' (first | done | fail)
    with_reducible refine r_eq b_anyM ?_
    rw [hany]
    repeat' (first | done | fail)
    with_reducible refine r_eq (office_dc (by rw [List.length_append, List.length_map, List.length_singleton]; omega)) ?_
    repeat' (first | done | fail)
    with_reducible refine r_eq elen ?_
    repeat' (first | done | fail)
    have h4' := decide_eq_true (p := (((l.map (fun p : Pay => p.2.1) ++ [x.2.1]).foldl putsK []).length : Int) ≤ 4) (by omega)
    rw [h4']
    exact ⟨rfl, take_same⟩
  | some y =>
    have hy := hlast y hg
    have hne : (l.map payD).isEmpty = false := by
      cases l with
      | nil => simp at hg
      | cons _ _ => rfl
    rw [hne]
    repeat' (first | done | fail)
    refine ix_lastT (f := payD) hg ?_
    rw [show payD y = .tup [.str y.1, .str y.2.1, .int y.2.2] from rfl]
    repeat' (first | done | fail)
    have ege : oGeA (.str y.1) (.str x.1) S = some (.ok (.bl false), S) := by
      show some (Except.ok (D.bl (!decide (y.1.cps.toList < x.1.cps.toList))), S) = _
      rw [decide_eq_true hy]
      rfl
    with_reducible refine r_eq ege ?_
    repeat' (first | done | fail)
    with_reducible refine r_eq (name_comp (l := l) (j := 0) (g := fun p => p.1) (fun x S Q h => o1_ix ⟨_, _, rfl, rfl, h⟩) (by omega)) ?_
    repeat' (first | done | fail)
    refine ⟨by simp only [List.length_map, List.length_cons, List.length_nil, List.length_append, show lim = 1000000 from rfl]; omega, ?_⟩
    repeat' (first | done | fail)
    with_reducible refine r_eq (name_comp (l := l) (j := 1) (g := fun p => p.2.1) (fun x S Q h => o1_ix ⟨_, _, rfl, rfl, h⟩) (by omega)) ?_
    repeat' (first | done | fail)
    refine ⟨by simp only [List.length_map, List.length_cons, List.length_nil, List.length_append, show lim = 1000000 from rfl]; omega, ?_⟩
    repeat' (first | done | fail)
    rw [show (List.map D.str (List.map (fun p : Pay => p.1) l) ++ [D.str x.1]) = (List.map (fun p : Pay => p.1) l ++ [x.1]).map D.str from by rw [List.map_append]; rfl]
    rw [show (List.map D.str (List.map (fun p : Pay => p.2.1) l) ++ [D.str x.2.1]) = (List.map (fun p : Pay => p.2.1) l ++ [x.2.1]).map D.str from by rw [List.map_append]; rfl]
    with_reducible refine r_eq (some_comp (by rw [List.length_append, List.length_map, List.length_singleton]; omega)) ?_
    repeat' (first | done | fail)
    with_reducible refine r_eq b_anyM ?_
    rw [hany]
    repeat' (first | done | fail)
    with_reducible refine r_eq (office_dc (by rw [List.length_append, List.length_map, List.length_singleton]; omega)) ?_
    repeat' (first | done | fail)
    with_reducible refine r_eq elen ?_
    repeat' (first | done | fail)
    have h4' := decide_eq_true (p := (((l.map (fun p : Pay => p.2.1) ++ [x.2.1]).foldl putsK []).length : Int) ≤ 4) (by omega)
    rw [h4']
    exact ⟨rfl, take_same⟩
/-! the checks of payers pass -/
theorem puts_mems {l : List Str} : ∀ {ks : List Str} {y : Str}, y ∈ l.foldl putsK ks ↔ y ∈ ks ∨ y ∈ l := by
  induction l with
  | nil => simp
  | cons a l ih =>
    intro ks y
    rw [List.foldl_cons, ih, puts_mem, List.mem_cons, or_assoc]
theorem puts_nodups {l : List Str} : ∀ {ks : List Str}, ks.Nodup → (l.foldl putsK ks).Nodup := by
  induction l with
  | nil => exact fun h => h
  | cons a l ih => exact fun h => ih (puts_nodup h)
theorem nodup_len {α : Type} [BEq α] [LawfulBEq α] : ∀ {a b : List α}, a.Nodup → (∀ x ∈ a, x ∈ b) → a.length ≤ b.length
  | [], _, _, _ => Nat.zero_le _
  | x :: a, b, h, k => by
    have hx := k x (List.mem_cons_self ..)
    have hn := List.nodup_cons.mp h
    have := nodup_len (a := a) (b := b.erase x) hn.2 fun y hy => (List.mem_erase_of_ne (show y ≠ x from fun e => hn.1 (by rw [← e]; exact hy))).mpr (k y (List.mem_cons_of_mem _ hy))
    rw [List.length_erase_of_mem hx] at this
    have := List.length_pos_of_mem hx
    rw [List.length_cons]
    omega
theorem lastT_take {α : Type} {l : List α} {i : Nat} {x : α} (h : (l.take i).getLast? = some x) : ∃ j, j < i ∧ l[j]? = some x := by
  rw [List.getLast?_eq_getElem?, List.getElem?_take] at h
  split at h
  · rename_i hl
    exact ⟨_, hl, h⟩
  · cases h
theorem pay_take {ps : List Pay} {cl ol : List (Int × Int)} {res : Int} (h : PlanOk ps cl ol res) {i : Nat} {x : Pay} (hx : ps[i]? = some x) {S : Store} : F_is_payer [payD x, .tup ((ps.take i).map payD)] S = some (.ok (.bl true), S) := by
  obtain ⟨ns, offs, hp, ho4, hnd, hok, hof⟩ := h.names
  have hm := List.mem_of_getElem? hx
  have hnm : ∀ y ∈ ps, ∃ n ∈ ns, y.1 = sL n := fun y hy => by
    have := hp.subset (List.mem_map.mpr ⟨y, hy, rfl⟩)
    obtain ⟨n, hn, e⟩ := List.mem_map.mp this
    exact ⟨n, hn, e.symm⟩
  have hon : ∀ y ∈ ps, ∃ n ∈ offs, y.2.1 = sL n := fun y hy => by
    obtain ⟨n, hn, e⟩ := List.mem_map.mp (hof y hy)
    exact ⟨n, hn, e.symm⟩
  have nok1 : ∀ y ∈ ps, NameOk y.1.cps.toList := fun y hy => by
    obtain ⟨n, hn, e⟩ := hnm y hy
    rw [e, sL_list]
    exact hok n (List.mem_append_left _ hn)
  have nok2 : ∀ y ∈ ps, NameOk y.2.1.cps.toList := fun y hy => by
    obtain ⟨n, hn, e⟩ := hon y hy
    rw [e, sL_list]
    exact hok n (List.mem_append_right _ hn)
  have htk : ∀ y ∈ ps.take i, y ∈ ps := fun y hy => List.mem_of_mem_take hy
  have hnd1 : (ps.map (·.1)).Nodup := hp.nodup_iff.mpr (by
    have := (List.nodup_append.mp hnd).1
    exact List.pairwise_map.mpr (this.imp fun hne e => hne (sL_inj e)))
  refine is_payer_in (nok1 x hm) (nok2 x hm) (h.due x hm) (by rw [List.length_take]; have := h.p1; omega) (fun y hy => ⟨name_strOk (nok1 y (htk y hy)), name_strOk (nok2 y (htk y hy))⟩) (fun y hy => ?_) (fun a ha hb => ?_) ?_
  · obtain ⟨j, hj, hjx⟩ := lastT_take hy
    have hil := (List.getElem?_eq_some_iff.mp hx)
    have hjl := (List.getElem?_eq_some_iff.mp hjx)
    have h1 := List.pairwise_iff_getElem.mp h.rise j i (by rw [List.length_map]; exact hjl.1) (by rw [List.length_map]; exact hil.1) hj
    have h2 := List.pairwise_iff_getElem.mp hnd1 j i (by rw [List.length_map]; exact hjl.1) (by rw [List.length_map]; exact hil.1) hj
    rw [List.getElem_map, List.getElem_map, hil.2, hjl.2] at h1 h2
    by_cases hlt : y.1.cps.toList < x.1.cps.toList
    · exact hlt
    · have h3 : x.1.cps.toList ≤ y.1.cps.toList := List.not_lt.mp hlt
      exact absurd (leS_antisymm h1 (leS_iff.mpr h3)) h2
  · have ha' : ∃ n ∈ ns, a = sL n := by
      rcases List.mem_append.mp ha with ha | ha
      · obtain ⟨y, hy, rfl⟩ := List.mem_map.mp ha
        exact hnm y (htk y hy)
      · rw [List.mem_singleton.mp ha]
        exact hnm x hm
    have hb' : ∃ n ∈ offs, a = sL n := by
      rcases List.mem_append.mp hb with hb | hb
      · obtain ⟨y, hy, e⟩ := List.mem_map.mp hb
        rw [← e]
        exact hon y (htk y hy)
      · rw [List.mem_singleton.mp hb]
        exact hon x hm
    obtain ⟨n, hn, e⟩ := ha'
    obtain ⟨m, hm', e'⟩ := hb'
    have := sL_inj (e.symm.trans e')
    subst this
    exact (List.nodup_append.mp hnd).2.2 _ hn _ hm' rfl
  · refine Nat.le_trans (nodup_len (b := offs.map sL) (puts_nodups List.nodup_nil) fun z hz => ?_) (by rw [List.length_map]; exact ho4)
    rcases puts_mems.mp hz with hz | hz
    · cases hz
    · rcases List.mem_append.mp hz with hz | hz
      · obtain ⟨y, hy, rfl⟩ := List.mem_map.mp hz
        exact hof y (htk y hy)
      · rw [List.mem_singleton.mp hz]
        exact hof x hm
theorem cutp_first {l : List Pay} {i : Nat} : cutL (l.map payD) none (some (i : Int)) = (l.take i).map payD := by
  rw [cut_to _ (by omega), Int.toNat_natCast, List.map_take]
theorem wrong_at_payer {l : List Pay} (h8 : l.length ≤ 12) (hok : ∀ (i : Nat) c, l[i]? = some c → ∀ S, F_is_payer [payD c, .tup ((l.take i).map payD)] S = some (.ok (.bl true), S)) {S : Store} : F_wrong_at_is_payer [.tup (l.map payD), .int 12, .gfn "is_payer"] S = some (.ok (.lst []), S) := by
  unfold F_wrong_at_is_payer b_wrong_at_is_payer
  with_reducible refine call_eq rfl ?_
  dsimp only [startE, List.map, List.replicate, List.length, List.cons_append, List.nil_append, Nat.reduceAdd, Nat.reduceSub]
  repeat' (first | done | fail)
  refine for_of (fun i ρ S' => ∃ x3 x4, ρ = [some (.tup (l.map payD)), some (.int 12), some (.gfn "is_payer"), x3, x4] ∧ S' = S) ⟨_, _, rfl, rfl⟩ (fun _ _ _ _ => rfl) ?_ ?_
  · rintro i d ρ S' hd ⟨x3, x4, rfl, rfl⟩
    rw [numb_get, List.getElem?_map, Option.map_map] at hd
    obtain ⟨c, hc, rfl⟩ := Option.map_eq_some_iff.mp hd
    have hi : i < l.length := (List.getElem?_eq_some_iff.mp hc).1
    dsimp only [Function.comp]
    rw [Nat.zero_add]
    have hne : ¬ ((i : Nat) : Int) = 12 := by omega
    repeat' (first | done | fail)
    refine r_callGs rfl (o := F_is_payer) rfl ?_
    repeat' (first | done | fail)
    rw [cutp_first]
    refine r_eq (hok i c hc _) ?_
    repeat' (first | done | fail)
  · rintro ρ S' ⟨x3, x4, rfl, rfl⟩
    repeat' (first | done | fail)
theorem check_payers_is {ps : List Pay} {cl ol : List (Int × Int)} {res : Int} (h : PlanOk ps cl ol res) {S : Store} : F_check_payers [.tup (ps.map payD)] S = some (.ok .non, S) := by
  have hw : ∀ S, F_wrong_at_is_payer [.tup (ps.map payD), .int 12, .gfn "is_payer"] S = some (.ok (.lst []), S) := fun S => wrong_at_payer h.p1.2 fun i c hc S => pay_take h hc
  have hs : ∀ y ∈ ps, PyData.strOk y.1 = true ∧ PyData.strOk y.2.1 = true := fun y hy => by
    obtain ⟨ns, offs, hp, ho4, hnd, hok, hof⟩ := h.names
    obtain ⟨n, hn, e⟩ := List.mem_map.mp (hp.subset (List.mem_map.mpr ⟨y, hy, rfl⟩))
    obtain ⟨m, hm, e'⟩ := List.mem_map.mp (hof y hy)
    rw [← e, ← e']
    exact ⟨name_strOk (by rw [sL_list]; exact hok n (List.mem_append_left _ hn)), name_strOk (by rw [sL_list]; exact hok m (List.mem_append_right _ hm))⟩
  have hf : ∀ S, F_wrong_from_one_is_payer [.tup (ps.map payD), .int 12, .gfn "is_payer"] S = some (.ok (.lst []), S) := fun S => by
    unfold F_wrong_from_one_is_payer b_wrong_from_one_is_payer
    with_reducible refine call_eq rfl ?_
    dsimp only [startE, List.map, List.replicate, List.length, List.cons_append, List.nil_append, Nat.reduceAdd, Nat.reduceSub]
    repeat' (first | done | fail)
    with_reducible refine r_eq (eqA_nil (eqok_pay hs)) ?_
    have hne : (ps.map payD).isEmpty = false := by
      have := h.p1
      cases ps with
      | nil => simp at this
      | cons _ _ => rfl
    rw [hne]
    repeat' (first | done | fail)
    refine r_eq (hw _) ?_
    repeat' (first | done | fail)
  unfold F_check_payers b_check_payers
  with_reducible refine call_eq rfl ?_
  dsimp only [startE, List.map, List.replicate, List.length, List.cons_append, List.nil_append, Nat.reduceAdd, Nat.reduceSub]
  repeat' (first | done | fail)
  refine r_eq (hf _) ?_
  repeat' (first | done | fail)
  refine for_of (fun i ρ S' => ρ = [some (.tup (ps.map payD)), none] ∧ S' = S) ⟨rfl, rfl⟩ (fun _ _ _ _ => rfl) ?_ ?_
  · intro i d ρ S' hd
    simp at hd
  · intro ρ S' hI
    obtain ⟨e1, e2⟩ := hI
    subst e1
    subst e2
    repeat' (first | done | fail)
/-! the thing of a plan is made -/
theorem check_number_in {v a b : Int} (h : a ≤ v ∧ v ≤ b) {S : Store} : F_check_number [.int v, .int a, .int b] S = some (.ok .non, S) := by
  unfold F_check_number b_check_number
  with_reducible refine call_eq rfl ?_
  dsimp only [startE, List.map, List.replicate, List.length, List.cons_append, List.nil_append, Nat.reduceAdd, Nat.reduceSub]
  repeat' (first | done | fail)
  refine r_eq (num_in h) ?_
  repeat' (first | done | fail)
theorem told_set {ρ : PF.Env} {S : Store} {y : D} {a o : EX} {S0 : Store} (ha : a ρ S = some (.ok y, S)) (ho : o ρ S = some (.ok (.obj "Calls" S0.length), S)) (hS : S = S0 ++ [[]]) (hy : y.pure = true) : sFldS "Calls" "told" o a ρ S = some (.ok (.nx ρ), S0 ++ [encF ["told"] [y]]) := by
  unfold sFldS
  rw [ha]
  show stm ρ (o ρ S) _ = _
  rw [ho]
  subst hS
  have e1 : (S0 ++ [([] : List D)])[S0.length]? = some [] := by simp
  have e2 : ∀ es : List D, (S0 ++ [([] : List D)]).set S0.length es = S0 ++ [es] := fun es => by simp
  show (if ("Calls" : Str) = "Calls" ∧ y.pure = true then (match (S0 ++ [([] : List D)])[S0.length]? with
    | some es => (match decF es with
      | some (ns, ds) => if ns.length < 900 then some (Except.ok (Fl.nx ρ), (S0 ++ [([] : List D)]).set S0.length (encF (putN "told" y ns ds).1 (putN "told" y ns ds).2)) else none
      | none => none)
    | none => none) else none) = _
  rw [if_pos ⟨rfl, hy⟩, e1]
  show (if (0 : Nat) < 900 then _ else none) = _
  rw [if_pos (by decide), e2]
  rfl
theorem parts_comp {cl : List (Int × Int)} (hl : cl.length ≤ 1000) {x0 x1 x3 x4 x5 x6 x7 x8 : Option D} {S : Store} :
    cComp (cSeqA (cVar 2)) [7, 8] (PF.tTup 2 (tsCons (tName 7) (tsCons (tName 8) tsNil))) bYes (cVar 8) [x0, x1, some (.tup (cl.map twoD)), x3, x4, x5, x6, x7, x8] S = some (.ok (.lst ((cl.map (·.2)).map D.int)), S) := by
  have e := comp_map (src := cSeqA (cVar 2)) (js := [7, 8]) (tgt := PF.tTup 2 (tsCons (tName 7) (tsCons (tName 8) tsNil))) (elt := cVar 8) (so := .items (cl.map twoD)) (ρ := [x0, x1, some (.tup (cl.map twoD)), x3, x4, x5, x6, x7, x8]) (S := S) cl twoD (fun x => .int x.2) rfl rfl (fun _ => rfl) (by show _ ≤ 1000000; omega) (by
    intro x hx acc
    refine ⟨rfl, ?_⟩
    dsimp only [wipeE, List.set, twoD]
    repeat' (first | done | fail)
    try exact ⟨rfl, rfl⟩)
  rw [e, List.map_map]
  rfl
theorem init_in {ps : List Pay} {cl ol : List (Int × Int)} {res f l s w : Int} (h : PlanOk ps cl ol res) (hb : BdOk f l s w) {S : Store} :
    F_Calls___init__ [.obj "Calls" S.length, .tup (ps.map payD), .tup (cl.map twoD), .tup (ol.map twoD), .int res, .tup [.int f, .int l, .int s, .int w]] (S ++ [[]]) = some (.ok .non, S ++ [encF ["told"] [planD ps cl ol res [f, l, s, w]]]) := by
  unfold F_Calls___init__ b_Calls___init__
  refine Pst.eq.mp (call_go rfl ?_)
  dsimp only [startE, List.map, List.replicate, List.length, List.cons_append, List.nil_append, Nat.reduceAdd, Nat.reduceSub]
  repeat' (first | done | fail)
  refine r_eq (check_payers_is h) ?_
  repeat' (first | done | fail)
  refine r_eq (check_calls_is h.c1 h.days h.day h.part) ?_
  repeat' (first | done | fail)
  refine r_eq (check_outlays_is h.o1 h.odays h.out) ?_
  repeat' (first | done | fail)
  refine r_eq (check_number_in h.res) ?_
  repeat' (first | done | fail)
  refine r_eq (are_bounds_in hb) ?_
  repeat' (first | done | fail)
  with_reducible refine r_eq (parts_comp (by have := h.c1; omega)) ?_
  repeat' (first | done | fail)
  with_reducible refine r_eq b_sum ?_
  rw [h.sum]
  repeat' (first | done | fail)
  refine r_eq (told_set (S0 := S) (y := planD ps cl ol res [f, l, s, w]) rfl rfl rfl ?_) ?_
  · show D.pures _ = true
    simp [D.pures, D.pure, pures_pay, pures_two]
  repeat' (first | done | fail)
  all_goals first
    | exact absurd rfl (by assumption)
    | exact List.take_of_length_le (by simp)
theorem calls_made {ps : List Pay} {cl ol : List (Int × Int)} {res f l s w : Int} (h : PlanOk ps cl ol res) (hb : BdOk f l s w) {S : Store} {r : AX} {ρ : PF.Env} {Q : D → Store → Prop} {E : XV → Store → Prop}
    (hr : r ρ S = some (.ok [.tup (ps.map payD), .tup (cl.map twoD), .tup (ol.map twoD), .int res, .tup [.int f, .int l, .int s, .int w]], S)) (k : Q (.ins "Calls" ["told"] [planD ps cl ol res [f, l, s, w]]) S) : Pst (cMake madeI "Calls" 6 F_Calls___init__ r ρ S) Q E := by
  have e : cMake madeI "Calls" 6 F_Calls___init__ r ρ S = some (.ok (.ins "Calls" ["told"] [planD ps cl ol res [f, l, s, w]]), S) := by
    unfold cMake
    rw [hr]
    show (if (6 : Nat) = 6 then madeI "Calls" S.length (F_Calls___init__ [.obj "Calls" S.length, .tup (ps.map payD), .tup (cl.map twoD), .tup (ol.map twoD), .int res, .tup [.int f, .int l, .int s, .int w]] (S ++ [[]])) else none) = _
    rw [if_pos rfl, init_in h hb]
    have e1 : (S ++ [encF ["told"] [planD ps cl ol res [f, l, s, w]]])[S.length]? = some (encF ["told"] [planD ps cl ol res [f, l, s, w]]) := by simp
    unfold madeI
    dsimp only
    rw [e1]
    dsimp only
    rw [decF_enc (by rfl)]
    dsimp only
    rw [List.take_left' rfl]
  rw [e]
  exact k
/-! drawn bounds -/
theorem bounds_ok {n : Nat} {S : Store} (h : Well n S) {ps : List Pay} {cl ol : List (Int × Int)} {res : Int} {zs : List Int} (h4 : zs.length = 4) (hz : ∀ z ∈ zs, 0 ≤ z ∧ z ≤ 9) : Pst (F__law_bounds [.loc n, planD ps cl ol res [0, 0, 0, 0], .tup (zs.map D.int)] S) (fun d S' => ∃ xs : List Int, d = planD ps cl ol res xs ∧ xs.length = 4 ∧ (∀ (j : Nat) v, xs[j]? = some v → ∃ z, zs[j]? = some z ∧ 0 ≤ v ∧ v ≤ z) ∧ Fr n S S') NoE := by
  have hn := len_of h
  show Pst (F__law_bounds [.loc n, .tup [.tup (ps.map payD), .tup (cl.map twoD), .tup (ol.map twoD), .int res, tI [0, 0, 0, 0]], .tup (zs.map D.int)] S) _ _
  unfold F__law_bounds b__law_bounds
  with_reducible refine call_go rfl ?_
  dsimp only [startE, List.map, List.replicate, List.length, List.cons_append, List.nil_append, Nat.reduceAdd, Nat.reduceSub]
  repeat' (first | done | fail)
  rename_i m S1 em eS hS1
  have f1 : FrX n S S1 := eS ▸ FrX.lay h _
  have hml : S.length ≤ m := Nat.le_of_eq em.symm
  clear em eS
  refine for_of (fun i ρ S' => ∃ (xs : List Int) (x4 : Option D), ρ = [some (.loc n), some (.tup [.tup (ps.map payD), .tup (cl.map twoD), .tup (ol.map twoD), .int res, tI [0, 0, 0, 0]]), some (.tup (zs.map D.int)), some (.loc m), x4] ∧ S'[m]? = some (xs.map D.int) ∧ xs.length = i ∧ (∀ (j : Nat) v, xs[j]? = some v → ∃ z, zs[j]? = some z ∧ 0 ≤ v ∧ v ≤ z) ∧ FrX n S S') ⟨[], _, rfl, hS1, rfl, (fun j v h => by simp at h), f1⟩ (fun _ _ _ _ => rfl) ?_ ?_
  · intro i d ρ S2 hd hI
    obtain ⟨xs, x4, e1, hS2, hxl, hok, f2⟩ := hI
    subst e1
    rw [List.getElem?_map] at hd
    obtain ⟨z, hzi, rfl⟩ := Option.map_eq_some_iff.mp hd
    have hzb := hz z (List.mem_of_getElem? hzi)
    have w2 := f2.1
    repeat' (first | done | fail)
    rename_i r S3 a0 a1 f3 w3
    have hS3 : S3[m]? = some (xs.map D.int) := f3.at (by omega) hS2
    repeat' (first | done | fail)
    have hi : i < zs.length := (List.getElem?_eq_some_iff.mp hzi).1
    refine ⟨⟨rfl, by rw [List.length_map]; show _ < 1000000; omega⟩, fun h6 => ?_⟩
    have em : xs.map D.int ++ [D.int r] = (xs ++ [r]).map D.int := by rw [List.map_append]; rfl
    rw [em] at h6 ⊢
    refine ⟨_, _, rfl, h6, by rw [List.length_append, hxl]; rfl, fun j v hv => ?_, Fr.putX (f2.trans f3.x) hml hn _⟩
    rw [List.getElem?_append] at hv
    split at hv
    · exact hok j v hv
    · rename_i hj
      have : j = i := by
        by_cases hji : j - xs.length = 0
        · omega
        · rw [List.getElem?_eq_none (by simp; omega)] at hv
          cases hv
      subst this
      rw [hxl, Nat.sub_self] at hv
      obtain rfl := Option.some.inj hv
      exact ⟨z, hzi, a0, by omega⟩
  · intro ρ S2 hI
    obtain ⟨xs, x4, e1, hS2, hxl, hok, f2⟩ := hI
    subst e1
    have w2 := f2.1
    repeat' (first | done | fail)
    have ec : cutL [D.tup (ps.map payD), D.tup (cl.map twoD), D.tup (ol.map twoD), D.int res, tI [0, 0, 0, 0]] none (some 4) = [D.tup (ps.map payD), D.tup (cl.map twoD), D.tup (ol.map twoD), D.int res] := rfl
    rw [ec]
    have hpi : D.pures (xs.map D.int) = true := D.pures_iff.mpr fun d hd => by
      obtain ⟨x, _, rfl⟩ := List.mem_map.mp hd
      rfl
    refine ⟨by simp [D.pures, D.pure, pures_pay, pures_two, hpi], xs, rfl, ?_, hok, f2.cut hn⟩
    first
      | (rw [hxl, List.length_map]; exact h4)
      | (rw [List.length_map] at hxl; omega)
/-! the properties of the thing -/
abbrev planI (ps : List Pay) (cl ol : List (Int × Int)) (res : Int) (bd : List Int) : D := .ins "Calls" ["told"] [planD ps cl ol res bd]
theorem pures_tI {bd : List Int} : D.pures (bd.map D.int) = true := D.pures_iff.mpr fun d hd => by
  obtain ⟨x, _, rfl⟩ := List.mem_map.mp hd
  rfl
theorem exit_pure {l : List D} {S : Store} (h : D.pures l = true) : exitF false S.length (some (.ok (.ret (.tup l)), S)) = some (.ok (.tup l), S) := by
  have e : exitF false S.length (some (.ok (.ret (.tup l)), S)) = if D.pures l = true then some (.ok (.tup l), S.take S.length) else none := rfl
  rw [e, if_pos h, List.take_length]
theorem payers_of {ps : List Pay} {cl ol : List (Int × Int)} {res : Int} {bd : List Int} {S : Store} : F_Calls_payers [planI ps cl ol res bd] S = some (.ok (.tup (ps.map payD)), S) := by
  have e : F_Calls_payers [planI ps cl ol res bd] S = exitF false S.length (some (.ok (.ret (.tup (ps.map payD))), S)) := rfl
  exact e.trans (exit_pure pures_pay)
theorem calls_of {ps : List Pay} {cl ol : List (Int × Int)} {res : Int} {bd : List Int} {S : Store} : F_Calls_calls [planI ps cl ol res bd] S = some (.ok (.tup (cl.map twoD)), S) := by
  have e : F_Calls_calls [planI ps cl ol res bd] S = exitF false S.length (some (.ok (.ret (.tup (cl.map twoD))), S)) := rfl
  exact e.trans (exit_pure pures_two)
theorem outlays_of {ps : List Pay} {cl ol : List (Int × Int)} {res : Int} {bd : List Int} {S : Store} : F_Calls_outlays [planI ps cl ol res bd] S = some (.ok (.tup (ol.map twoD)), S) := by
  have e : F_Calls_outlays [planI ps cl ol res bd] S = exitF false S.length (some (.ok (.ret (.tup (ol.map twoD))), S)) := rfl
  exact e.trans (exit_pure pures_two)
theorem bounds_of {ps : List Pay} {cl ol : List (Int × Int)} {res : Int} {bd : List Int} {S : Store} : F_Calls_bounds [planI ps cl ol res bd] S = some (.ok (tI bd), S) := by
  have e : F_Calls_bounds [planI ps cl ol res bd] S = exitF false S.length (some (.ok (.ret (tI bd)), S)) := rfl
  exact e.trans (exit_pure pures_tI)
theorem reserve_of {ps : List Pay} {cl ol : List (Int × Int)} {res : Int} {bd : List Int} {S : Store} : F_Calls_reserve [planI ps cl ol res bd] S = some (.ok (.int res), S) := by
  have e : F_Calls_reserve [planI ps cl ol res bd] S = some (.ok (.int res), S.take S.length) := rfl
  rw [e, List.take_length]
/-! parts and what is owed (with QG's and QH's lemmas) -/
theorem propI {c : Str} {f : OpB} {x : EX} {ρ : PF.Env} {S : Store} {ps : List Pay} {cl ol : List (Int × Int)} {res : Int} {bd : List Int} {v : D} {Q : D → Store → Prop} {E : XV → Store → Prop} (hx : x ρ S = some (.ok (planI ps cl ol res bd), S)) (hc : c = "Calls") (hf : f [planI ps cl ol res bd] S = some (.ok v, S)) (k : Q v S) : Pst (cProp c f x ρ S) Q E := by
  subst hc
  have e : cProp "Calls" f x ρ S = some (.ok v, S) := by
    unfold cProp
    rw [hx, bindO_ok]
    show noX (f [planI ps cl ol res bd] S) = _
    rw [hf]
    rfl
  rw [e]
  exact k
theorem eq_propI {f : OpB} {x : EX} {ρ : PF.Env} {S : Store} {ps : List Pay} {cl ol : List (Int × Int)} {res : Int} {bd : List Int} {v : D} (hx : x ρ S = some (.ok (planI ps cl ol res bd), S)) (hf : f [planI ps cl ol res bd] S = some (.ok v, S)) : cProp "Calls" f x ρ S = some (.ok v, S) := by
  unfold cProp
  rw [hx, bindO_ok]
  show noX (f [planI ps cl ol res bd] S) = _
  rw [hf]
  rfl
theorem seq_propI {f : OpB} {x : EX} {ρ : PF.Env} {S : Store} {ps : List Pay} {cl ol : List (Int × Int)} {res : Int} {bd : List Int} {l : List D} (hx : x ρ S = some (.ok (planI ps cl ol res bd), S)) (hf : f [planI ps cl ol res bd] S = some (.ok (.tup l), S)) : cSeqA (cProp "Calls" f x) ρ S = some (.ok (.items l), S) := by
  unfold cSeqA
  rw [eq_propI hx hf]
  rfl
theorem comp_src {src : IX} {js : List Nat} {tgt : TX} {test : BX} {elt : EX} {so : Src} {ρ : PF.Env} {S : Store} (h : src ρ S = some (.ok so, S)) : cComp src js tgt test elt ρ S = cComp (fun _ _ => some (.ok so, S)) js tgt test elt ρ S := by
  unfold cComp
  rw [h]
def partV (cl : List (Int × Int)) (k : Nat) : Int := ((cl.take k).map (·.2)).sum
def owedV (due : Int) (cl : List (Int × Int)) (k : Nat) : Int := due * partV cl k / 1000
theorem cutc_first {l : List (Int × Int)} {i : Int} (h : 0 ≤ i) : cutL (l.map twoD) none (some i) = (l.take i.toNat).map twoD := by
  rw [cut_to _ (by omega), List.map_take]
theorem part_up_is {cl : List (Int × Int)} (hl : cl.length ≤ 8) {i : Int} (hi : -1 ≤ i) {S : Store} : F_part_up_to [.tup (cl.map twoD), .int i] S = some (.ok (.int (partV cl (i + 1).toNat)), S) := by
  unfold F_part_up_to b_part_up_to
  with_reducible refine call_eq rfl ?_
  dsimp only [startE, List.map, List.replicate, List.length, List.cons_append, List.nil_append, Nat.reduceAdd, Nat.reduceSub]
  repeat' (first | done | fail)
  have e0 : cSeqA (cSliceA (cVar 0) cNo (cPart (cBin oAddA (cVar 1) (cK (D.int 1))))) [some (D.tup (cl.map twoD)), some (D.int i), none, none] S = some (.ok (.items (cutL (cl.map twoD) none (some (i + 1)))), S) := rfl
  rw [comp_src e0, cutc_first (by omega)]
  have e := comp_map (src := fun _ _ => some (.ok (.items ((cl.take (i + 1).toNat).map twoD)), S)) (js := [2, 3]) (tgt := PF.tTup 2 (tsCons (tName 2) (tsCons (tName 3) tsNil))) (elt := cVar 3) (so := .items ((cl.take (i + 1).toNat).map twoD)) (ρ := [some (D.tup (cl.map twoD)), some (D.int i), none, none]) (S := S) (cl.take (i + 1).toNat) twoD (fun x => .int x.2) rfl rfl (fun _ => rfl) (by rw [List.length_take]; show _ ≤ 1000000; omega) (by
    intro x hx acc
    refine ⟨rfl, ?_⟩
    dsimp only [wipeE, List.set, twoD]
    repeat' (first | done | fail)
    try exact ⟨rfl, rfl⟩)
  refine r_eq e ?_
  repeat' (first | done | fail)
  rw [show (fun x : Int × Int => D.int x.2) = D.int ∘ (fun x : Int × Int => x.2) from rfl, ← List.map_map]
  refine b1_sum ?_
  repeat' (first | done | fail)
  try exact ⟨rfl, take_same⟩
theorem owed_of_is {due : Int} (hd : 1 ≤ due ∧ due ≤ 1000000) {cl : List (Int × Int)} (hl : cl.length ≤ 8) {i : Int} (hi : -1 ≤ i) {S : Store} : F_owed_of [.int due, .tup (cl.map twoD), .int i] S = some (.ok (.int (owedV due cl (i + 1).toNat)), S) := by
  unfold F_owed_of b_owed_of
  with_reducible refine call_eq rfl ?_
  dsimp only [startE, List.map, List.replicate, List.length, List.cons_append, List.nil_append, Nat.reduceAdd, Nat.reduceSub]
  repeat' (first | done | fail)
  refine r_eq (part_up_is hl hi) ?_
  repeat' (first | done | fail)
theorem law_owed_is {ps : List Pay} {cl ol : List (Int × Int)} {res : Int} {bd : List Int} {x : Pay} (hd : 1 ≤ x.2.2 ∧ x.2.2 ≤ 1000000) (hl : cl.length ≤ 8) {i : Int} (hi : 0 ≤ i) {S : Store} : F__law_owed [planD ps cl ol res bd, payD x, .int i] S = some (.ok (.int (owedV x.2.2 cl (i + 1).toNat)), S) := by
  show F__law_owed [planD ps cl ol res bd, .tup [.str x.1, .str x.2.1, .int x.2.2], .int i] S = _
  unfold F__law_owed b__law_owed
  with_reducible refine call_eq rfl ?_
  dsimp only [startE, List.map, List.replicate, List.length, List.cons_append, List.nil_append, Nat.reduceAdd, Nat.reduceSub]
  repeat' (first | done | fail)
  have e0 : cSeqA (cSliceA (cBin oIx (cVar 0) (cK (.int 1))) cNo (cPart (cBin oAddA (cVar 2) (cK (D.int 1))))) [some (planD ps cl ol res bd), some (.tup [.str x.1, .str x.2.1, .int x.2.2]), some (D.int i), none, none] S = some (.ok (.items (cutL (cl.map twoD) none (some (i + 1)))), S) := rfl
  rw [comp_src e0, cutc_first (by omega)]
  have e := comp_map (src := fun _ _ => some (.ok (.items ((cl.take (i + 1).toNat).map twoD)), S)) (js := [3, 4]) (tgt := PF.tTup 2 (tsCons (tName 3) (tsCons (tName 4) tsNil))) (elt := cVar 4) (so := .items ((cl.take (i + 1).toNat).map twoD)) (ρ := [some (planD ps cl ol res bd), some (.tup [.str x.1, .str x.2.1, .int x.2.2]), some (D.int i), none, none]) (S := S) (cl.take (i + 1).toNat) twoD (fun x => .int x.2) rfl rfl (fun _ => rfl) (by rw [List.length_take]; show _ ≤ 1000000; omega) (by
    intro x hx acc
    refine ⟨rfl, ?_⟩
    dsimp only [wipeE, List.set, twoD]
    repeat' (first | done | fail)
    try exact ⟨rfl, rfl⟩)
  refine r_eq e ?_
  repeat' (first | done | fail)
  rw [show (fun x : Int × Int => D.int x.2) = D.int ∘ (fun x : Int × Int => x.2) from rfl, ← List.map_map]
  refine b1_sum ?_
  repeat' (first | done | fail)
/-! the payer of a name; what he owes, asked of the thing -/
theorem names_nodup {ps : List Pay} {cl ol : List (Int × Int)} {res : Int} (h : PlanOk ps cl ol res) : (ps.map (·.1)).Nodup := by
  obtain ⟨ns, offs, hp, _, hn, hk, _⟩ := h.names
  refine hp.nodup_iff.mpr ?_
  have h1 := (List.nodup_append.mp hn).1
  clear hp hk hn
  induction ns with
  | nil => exact List.nodup_nil
  | cons a l ih =>
    rw [List.nodup_cons] at h1
    rw [List.map_cons, List.nodup_cons]
    refine ⟨fun hm => ?_, ih h1.2⟩
    obtain ⟨b, hb, e⟩ := List.mem_map.mp hm
    exact h1.1 (sL_inj e ▸ hb)
theorem one_name {ps : List Pay} (hn : (ps.map (·.1)).Nodup) {x : Pay} (hx : x ∈ ps) : ps.filter (fun y => y.1 == x.1) = [x] := by
  induction ps with
  | nil => cases hx
  | cons y ps ih =>
    rw [List.map_cons, List.nodup_cons] at hn
    rcases List.mem_cons.mp hx with rfl | hx
    · rw [List.filter_cons_of_pos (by simp)]
      congr 1
      refine List.filter_eq_nil_iff.mpr fun z hz e => hn.1 ?_
      rw [← eq_of_beq e]
      exact List.mem_map.mpr ⟨z, hz, rfl⟩
    · rw [List.filter_cons_of_neg (fun e => hn.1 (by rw [eq_of_beq e]; exact List.mem_map.mpr ⟨x, hx, rfl⟩))]
      exact ih hn.2 hx
theorem payer_of_is {ps : List Pay} {cl ol : List (Int × Int)} {res : Int} {bd : List Int} (h : PlanOk ps cl ol res) {x : Pay} (hx : x ∈ ps) {S : Store} : F_payer_of [planI ps cl ol res bd, .str x.1] S = some (.ok (.lst [payD x]), S) := by
  have hl := h.p1
  unfold F_payer_of b_payer_of
  with_reducible refine call_eq rfl ?_
  dsimp only [startE, List.map, List.replicate, List.length, List.cons_append, List.nil_append, Nat.reduceAdd, Nat.reduceSub]
  repeat' (first | done | fail)
  rw [comp_src (seq_propI (f := F_Calls_payers) rfl payers_of)]
  refine comp_filter ps payD payD (fun y => y.1 == x.1) rfl (fun _ => rfl) (by show _ ≤ 1000000; omega) ?_ ?_
  · intro y hy acc
    dsimp only [wipeE, List.set, payD]
    repeat' (first | done | fail)
    intro _
    exact ⟨rfl, rfl, rfl⟩
  · rw [one_name (names_nodup h) hx]
    repeat' (first | done | fail)
/-! == of the things -/
theorem parts_of {ps : List Pay} {cl ol : List (Int × Int)} {res : Int} {bd : List Int} {S : Store} : F_Calls_parts [planI ps cl ol res bd] S = some (.ok (planD ps cl ol res bd), S) := by
  have e : F_Calls_parts [planI ps cl ol res bd] S = exitF false S.length (some (.ok (.ret (planD ps cl ol res bd)), S)) := rfl
  refine e.trans (exit_pure ?_)
  have hpi : D.pures (bd.map D.int) = true := pures_tI
  simp [D.pures, D.pure, pures_pay, pures_two, hpi]
theorem eqvs_comm {α : Type} {f : α → D} (hf : ∀ a b, D.eqv (f a) (f b) = D.eqv (f b) (f a)) : ∀ l m : List α, D.eqvs (l.map f) (m.map f) = D.eqvs (m.map f) (l.map f)
  | [], [] => rfl
  | [], _ :: _ => rfl
  | _ :: _, [] => rfl
  | a :: l, b :: m => by
    simp only [List.map_cons, D.eqvs]
    rw [hf a b, eqvs_comm hf l m]
theorem eqvs_refl {α : Type} {f : α → D} (hf : ∀ a, D.eqv (f a) (f a) = true) : ∀ l : List α, D.eqvs (l.map f) (l.map f) = true
  | [] => rfl
  | a :: l => by
    simp only [List.map_cons, D.eqvs]
    rw [hf a, eqvs_refl hf l]
    rfl
theorem int_comm (a b : Int) : D.eqv (.int a) (.int b) = D.eqv (.int b) (.int a) := by
  simp only [D.eqv]
  exact BEq.comm
theorem str_comm (a b : Str) : D.eqv (.str a) (.str b) = D.eqv (.str b) (.str a) := by
  simp only [D.eqv]
  exact BEq.comm
theorem pay_comm (a b : Pay) : D.eqv (payD a) (payD b) = D.eqv (payD b) (payD a) := by
  show D.eqv (.tup [.str a.1, .str a.2.1, .int a.2.2]) (.tup [.str b.1, .str b.2.1, .int b.2.2]) = D.eqv (.tup [.str b.1, .str b.2.1, .int b.2.2]) (.tup [.str a.1, .str a.2.1, .int a.2.2])
  rw [D.eqv, D.eqv]
  simp only [D.eqvs]
  rw [str_comm a.1, str_comm a.2.1, int_comm a.2.2]
theorem two_comm (a b : Int × Int) : D.eqv (twoD a) (twoD b) = D.eqv (twoD b) (twoD a) := by
  show D.eqv (.tup [.int a.1, .int a.2]) (.tup [.int b.1, .int b.2]) = D.eqv (.tup [.int b.1, .int b.2]) (.tup [.int a.1, .int a.2])
  rw [D.eqv, D.eqv]
  simp only [D.eqvs]
  rw [int_comm a.1, int_comm a.2]
theorem pay_refl (a : Pay) : D.eqv (payD a) (payD a) = true := by
  show D.eqv (.tup [.str a.1, .str a.2.1, .int a.2.2]) (.tup [.str a.1, .str a.2.1, .int a.2.2]) = true
  simp [D.eqv, D.eqvs]
theorem two_refl (a : Int × Int) : D.eqv (twoD a) (twoD a) = true := by
  show D.eqv (.tup [.int a.1, .int a.2]) (.tup [.int a.1, .int a.2]) = true
  simp [D.eqv, D.eqvs]
theorem plan_comm {ps ps' : List Pay} {cl cl' ol ol' : List (Int × Int)} {res res' : Int} {bd bd' : List Int} : D.eqv (planD ps cl ol res bd) (planD ps' cl' ol' res' bd') = D.eqv (planD ps' cl' ol' res' bd') (planD ps cl ol res bd) := by
  show D.eqv (.tup [.tup (ps.map payD), .tup (cl.map twoD), .tup (ol.map twoD), .int res, .tup (bd.map D.int)]) (.tup [.tup (ps'.map payD), .tup (cl'.map twoD), .tup (ol'.map twoD), .int res', .tup (bd'.map D.int)]) = D.eqv (.tup [.tup (ps'.map payD), .tup (cl'.map twoD), .tup (ol'.map twoD), .int res', .tup (bd'.map D.int)]) (.tup [.tup (ps.map payD), .tup (cl.map twoD), .tup (ol.map twoD), .int res, .tup (bd.map D.int)])
  have e : ∀ a b : List D, D.eqv (.tup a) (.tup b) = D.eqvs a b := fun a b => by rw [D.eqv]
  simp only [e, D.eqvs]
  rw [eqvs_comm pay_comm ps, eqvs_comm two_comm cl, eqvs_comm two_comm ol, int_comm res, eqvs_comm int_comm bd]
theorem plan_refl {ps : List Pay} {cl ol : List (Int × Int)} {res : Int} {bd : List Int} : D.eqv (planD ps cl ol res bd) (planD ps cl ol res bd) = true := by
  show D.eqv (.tup [.tup (ps.map payD), .tup (cl.map twoD), .tup (ol.map twoD), .int res, .tup (bd.map D.int)]) (.tup [.tup (ps.map payD), .tup (cl.map twoD), .tup (ol.map twoD), .int res, .tup (bd.map D.int)]) = true
  have e : ∀ a b : List D, D.eqv (.tup a) (.tup b) = D.eqvs a b := fun a b => by rw [D.eqv]
  simp only [e, D.eqvs]
  rw [eqvs_refl pay_refl ps, eqvs_refl two_refl cl, eqvs_refl two_refl ol, eqvs_refl (fun a => by simp [D.eqv]) bd]
  simp [D.eqv]
theorem lay_ints (l : List Int) : PyData.canLayAll0 (D.pys (l.map D.int)) = true ∧ PyData.depthAll (D.pys (l.map D.int)) ≤ 0 := by
  induction l with
  | nil => exact ⟨rfl, by decide⟩
  | cons x l ih =>
    refine ⟨by simp only [List.map_cons, D.pys, PyData.canLayAll0, D.py, PyData.canLay0, Bool.and_self, Bool.true_and]; exact ih.1, ?_⟩
    simp only [List.map_cons, D.pys, D.py, PyData.depthAll, PyData.depth]
    have := ih.2
    omega
theorem strs_of {ps : List Pay} {cl ol : List (Int × Int)} {res : Int} (h : PlanOk ps cl ol res) : ∀ x ∈ ps, NameOk x.1.cps.toList ∧ NameOk x.2.1.cps.toList := by
  obtain ⟨ns, offs, hp, _, hn, hk, ho⟩ := h.names
  intro x hx
  constructor
  · have := hp.mem_iff.mp (List.mem_map.mpr ⟨x, hx, rfl⟩)
    obtain ⟨l, hl, e⟩ := List.mem_map.mp this
    rw [← e]
    exact hk l (List.mem_append_left _ hl)
  · obtain ⟨l, hl, e⟩ := List.mem_map.mp (ho x hx)
    rw [← e]
    exact hk l (List.mem_append_right _ hl)
theorem eqok_plan {ps : List Pay} {cl ol : List (Int × Int)} {res : Int} {bd : List Int} (h : PlanOk ps cl ol res) : eqOk (planD ps cl ol res bd) = true := by
  have hpi : D.pures (bd.map D.int) = true := pures_tI
  have h1 := lay_pay ps fun x hx => ⟨name_strOk (strs_of h x hx).1, name_strOk (strs_of h x hx).2⟩
  have h2 := lay_two cl
  have h3 := lay_two ol
  have h4 := lay_ints bd
  show eqOk (.tup [.tup (ps.map payD), .tup (cl.map twoD), .tup (ol.map twoD), .int res, .tup (bd.map D.int)]) = true
  unfold eqOk
  rw [Bool.and_eq_true]
  refine ⟨by simp [D.pures, D.pure, pures_pay, pures_two, hpi], ?_⟩
  unfold SeqAt.shaped
  rw [Bool.and_eq_true]
  refine ⟨by simp only [D.py, D.pys, PyData.canLay0, PyData.canLayAll0, h1.1, h2.1, h3.1, h4.1, Bool.and_self], decide_eq_true ?_⟩
  simp only [D.py, D.pys, PyData.depth, PyData.depthAll]
  have := h1.2
  have := h2.2
  have := h3.2
  have := h4.2
  omega
theorem eqA_tup {xs ys : List D} (hx : eqOk (.tup xs) = true) (hy : eqOk (.tup ys) = true) {S : Store} : oEqA (.tup xs) (.tup ys) S = some (.ok (.bl (D.eqv (.tup xs) (.tup ys))), S) := by
  unfold oEqA oEqS oEq
  exact (if_pos ⟨hx, hy⟩).trans rfl
theorem isC_eq {c : Str} {a : EX} {ρ : PF.Env} {S : Store} {x : D} {b : Bool} (ha : a ρ S = some (.ok x, S)) (hb : isC c x = some b) : cIsC c a ρ S = some (.ok (.bl b), S) := by
  unfold cIsC
  rw [ha, bindO_ok, hb]
theorem eq_ins {ps ps' : List Pay} {cl ol cl' ol' : List (Int × Int)} {res res' : Int} {bd bd' : List Int} (h : PlanOk ps cl ol res) (h' : PlanOk ps' cl' ol' res') {S : Store} : F_Calls___eq__ [planI ps cl ol res bd, planI ps' cl' ol' res' bd'] S = some (.ok (.bl (D.eqv (planD ps cl ol res bd) (planD ps' cl' ol' res' bd'))), S) := by
  have h1 := eqok_plan (bd := bd) h
  have h2 := eqok_plan (bd := bd') h'
  unfold F_Calls___eq__ b_Calls___eq__
  with_reducible refine call_eq rfl ?_
  dsimp only [startE, List.map, List.replicate, List.length, List.cons_append, List.nil_append, Nat.reduceAdd, Nat.reduceSub]
  repeat' (first | done | fail)
  refine r_eq (isC_eq (b := true) rfl (by simp [isC])) ?_
  repeat' (first | done | fail)
  with_reducible refine propI rfl rfl parts_of ?_
  repeat' (first | done | fail)
  with_reducible refine propI rfl rfl parts_of ?_
  repeat' (first | done | fail)
  refine r_eq (eqA_tup h1 h2) ?_
  repeat' (first | done | fail)
theorem eq_other {ps : List Pay} {cl ol : List (Int × Int)} {res : Int} {bd : List Int} {d : D} (hd : tupNon d = true) {S : Store} : F_Calls___eq__ [planI ps cl ol res bd, d] S = some (.ok (.bl false), S) := by
  have hi : isC "Calls" d = some false := by
    cases d <;> first | rfl | cases hd
  unfold F_Calls___eq__ b_Calls___eq__
  with_reducible refine call_eq rfl ?_
  dsimp only [startE, List.map, List.replicate, List.length, List.cons_append, List.nil_append, Nat.reduceAdd, Nat.reduceSub]
  repeat' (first | done | fail)
  refine r_eq (isC_eq rfl hi) ?_
  repeat' (first | done | fail)
theorem fo_plan {ps : List Pay} {cl ol : List (Int × Int)} {res : Int} {bd : List Int} {S : Store} : PF.fieldsOf "Calls" (planI ps cl ol res bd) S = some (([("told" : Str)], [planD ps cl ol res bd]) : List Str × List D) := by
  simp [PF.fieldsOf]
theorem fo_other {d : D} (hd : tupNon d = true) {S : Store} : PF.fieldsOf "Calls" d S = none := by
  cases d <;> first | rfl | cases hd
theorem answer_bl {neg b : Bool} {S : Store} : answer neg (some (.ok (.bl b), S)) = some (.ok (.bl (b != neg)), S) := rfl
theorem eqI_ins {ps ps' : List Pay} {cl ol cl' ol' : List (Int × Int)} {res res' : Int} {bd bd' : List Int} (h : PlanOk ps cl ol res) (h' : PlanOk ps' cl' ol' res') {S : Store} {neg : Bool} : oEqI "Calls" F_Calls___eq__ neg (planI ps cl ol res bd) (planI ps' cl' ol' res' bd') S = some (.ok (.bl (D.eqv (planD ps cl ol res bd) (planD ps' cl' ol' res' bd') != neg)), S) := by
  unfold oEqI
  rw [fo_plan, fo_plan]
  dsimp only
  rw [eq_ins h h', answer_bl]
theorem eqI_one {ps : List Pay} {cl ol : List (Int × Int)} {res : Int} {bd : List Int} {d : D} (hd : tupNon d = true) {S : Store} {neg : Bool} : oEqI "Calls" F_Calls___eq__ neg (planI ps cl ol res bd) d S = some (.ok (.bl (false != neg)), S) := by
  unfold oEqI
  rw [fo_plan, fo_other hd]
  dsimp only
  rw [if_pos hd, eq_other hd, answer_bl]
theorem eqI_two {ps : List Pay} {cl ol : List (Int × Int)} {res : Int} {bd : List Int} {d : D} (hd : tupNon d = true) {S : Store} {neg : Bool} : oEqI "Calls" F_Calls___eq__ neg d (planI ps cl ol res bd) S = some (.ok (.bl (false != neg)), S) := by
  unfold oEqI
  rw [fo_plan, fo_other hd]
  dsimp only
  rw [if_pos hd, eq_other hd, answer_bl]
theorem is_equal_is {x y : D} {r : Bool} (h1 : ∀ (neg : Bool) (S : Store), oEqI "Calls" F_Calls___eq__ neg x y S = some (.ok (.bl (r != neg)), S)) (h2 : ∀ (neg : Bool) (S : Store), oEqI "Calls" F_Calls___eq__ neg y x S = some (.ok (.bl (r != neg)), S)) {S : Store} : F__law_is_equal [x, y, .bl r] S = some (.ok (.bl true), S) := by
  have hr : ∀ a b c d : Bool, reprOk (.lst [.bl a, .bl b, .bl c, .bl d]) = true := fun a b c d => ro_ok (k := 1) (m := 4) (ro_lst (k := 0) (m := 0) (ros_cons ro_bl (ros_cons ro_bl (ros_cons ro_bl (ros_cons ro_bl ros_nil))))) (by decide) (by decide)
  unfold F__law_is_equal b__law_is_equal
  with_reducible refine call_eq rfl ?_
  dsimp only [startE, List.map, List.replicate, List.length, List.cons_append, List.nil_append, Nat.reduceAdd, Nat.reduceSub]
  generalize F_Calls___eq__ = ff at *
  repeat' (first | done | fail)
  refine r_eq (h1 _ _) ?_
  repeat' (first | done | fail)
  refine r_eq (h2 _ _) ?_
  repeat' (first | done | fail)
  refine r_eq (h1 _ _) ?_
  repeat' (first | done | fail)
  refine r_eq (h2 _ _) ?_
  repeat' (first | done | fail)
  refine r_eq (repr_eq (hr _ _ _ _)) ?_
  repeat' (first | done | fail)
  refine r_eq (repr_eq (hr _ _ _ _)) ?_
  repeat' (first | done | fail)
  cases r
  · exact ⟨congrArg D.bl (beq_self_eq_true _), take_same⟩
  · exact ⟨congrArg D.bl (beq_self_eq_true _), take_same⟩
/-! a plan bent in one place -/
theorem set_same {α β : Type} {f : α → β} {l : List α} {i : Nat} {x y : α} (hx : l[i]? = some x) (e : f y = f x) : (l.set i y).map f = l.map f := by
  refine List.ext_getElem? fun j => ?_
  rw [List.getElem?_map, List.getElem?_map, List.getElem?_set]
  by_cases h : i = j
  · subst h
    rw [if_pos rfl, if_pos (List.getElem?_eq_some_iff.mp hx).1, hx]
    show some (f y) = some (f x)
    rw [e]
  · rw [if_neg h]
theorem pay_set {ps : List Pay} {cl ol : List (Int × Int)} {res : Int} (h : PlanOk ps cl ol res) {i : Nat} {x : Pay} (hx : ps[i]? = some x) {due : Int} (hd : 1 ≤ due ∧ due ≤ 1000000) : PlanOk (ps.set i (x.1, x.2.1, due)) cl ol res := by
  refine { h with p1 := by rw [List.length_set]; exact h.p1, names := ?_, rise := by rw [set_same (f := fun z : Pay => z.1) (y := (x.1, x.2.1, due)) hx rfl]; exact h.rise, due := fun y hy => ?_ }
  · obtain ⟨ns, offs, a, b, c, d, e⟩ := h.names
    refine ⟨ns, offs, by rw [set_same (f := fun z : Pay => z.1) (y := (x.1, x.2.1, due)) hx rfl]; exact a, b, c, d, fun y hy => ?_⟩
    have hm : y.2.1 ∈ (ps.set i (x.1, x.2.1, due)).map (fun z => z.2.1) := List.mem_map.mpr ⟨y, hy, rfl⟩
    rw [set_same (f := fun z : Pay => z.2.1) (y := (x.1, x.2.1, due)) hx rfl] at hm
    obtain ⟨z, hz, e2⟩ := List.mem_map.mp hm
    rw [← e2]
    exact e z hz
  · rcases List.mem_or_eq_of_mem_set hy with h1 | rfl
    · exact h.due y h1
    · exact hd
theorem pay_cut {ps : List Pay} {k : Nat} (hk : k < ps.length) (y : Pay) : cutL (ps.map payD) none (some (k : Int)) ++ [payD y] ++ cutL (ps.map payD) (some ((k : Int) + 1)) none = (ps.set k y).map payD := by
  rw [cut_to _ (by omega), cut_from _ (by omega), List.set_eq_take_append_cons_drop, if_pos hk, List.map_append, List.map_cons, List.map_take, List.map_drop]
  rw [Int.toNat_natCast, show ((k : Int) + 1).toNat = k + 1 by omega, List.append_assoc]
  rfl
theorem calls_late {ps : List Pay} {pre ol : List (Int × Int)} {c : Int × Int} {res : Int} (h : PlanOk ps (pre ++ [c]) ol res) (h59 : ∀ x ∈ (pre ++ [c]).map (·.1), x ≤ 59) : PlanOk ps (pre ++ [(c.1 + 1, c.2)]) ol res := by
  have hc := h.c1
  have hd := h.days
  have hy := h.day
  have hp := h.part
  have hs := h.sum
  refine { h with c1 := by simpa using hc, days := ?_, day := fun x hx => ?_, part := fun x hx => ?_, sum := by simpa using hs }
  · rw [List.map_append, List.pairwise_append] at hd ⊢
    refine ⟨hd.1, by simp, fun a ha b hb => ?_⟩
    have := hd.2.2 a ha c.1 (by simp)
    simp at hb
    omega
  · rw [List.map_append, List.mem_append] at hx
    rcases hx with hx | hx
    · exact hy x (by rw [List.map_append, List.mem_append]; exact .inl hx)
    · simp at hx
      have := hy c.1 (by simp)
      have := h59 c.1 (by simp)
      omega
  · rw [List.mem_append] at hx
    rcases hx with hx | hx
    · exact hp x (List.mem_append_left _ hx)
    · have := hp c (by simp)
      have := List.mem_singleton.mp hx
      subst this
      exact hp c (by simp)
theorem outs_less {ps : List Pay} {cl ol : List (Int × Int)} {res : Int} (h : PlanOk ps cl ol res) : PlanOk ps cl (ol.drop 1) res := by
  have := h.o1
  exact { h with o1 := by rw [List.length_drop]; omega, odays := h.odays.sublist (List.drop_sublist ..), out := fun x hx => h.out x (List.mem_of_mem_drop hx) }
theorem res_other {ps : List Pay} {cl ol : List (Int × Int)} {res r : Int} (h : PlanOk ps cl ol res) (hr : 0 ≤ r ∧ r ≤ 10000000) : PlanOk ps cl ol r := { h with res := hr }
theorem plan_pure {ps : List Pay} {cl ol : List (Int × Int)} {res : Int} {bd : List Int} : D.pures [.tup (ps.map payD), .tup (cl.map twoD), .tup (ol.map twoD), .int res, .tup (bd.map D.int)] = true := by
  have hpi : D.pures (bd.map D.int) = true := pures_tI
  simp [D.pures, D.pure, pures_pay, pures_two, hpi]
theorem cut_last1 {α : Type} (xs : List α) (c : α) : cutL (xs ++ [c]) none (some (-1)) = xs := by
  have e1 : HT.sIx (xs ++ [c]).length (xs ++ [c]).length (some (-1)) = xs.length := by
    show (if (-1 : Int) < 0 then (-1 + ((xs ++ [c]).length : Int)).toNat else min (-1 : Int).toNat (xs ++ [c]).length) = _
    rw [if_pos (by decide), List.length_append, List.length_singleton]
    omega
  unfold cutL
  rw [e1, HT.sIx_none]
  simp
theorem less_or {i : Nat} {m z d : Int} {ρ : PF.Env} {S : Store} (h : cVar i ρ S = some (.ok (.int d), S)) : cIfE (cTest (cBin oGt (cVar i) (cK (.int m)))) (cBin oSub (cVar i) (cK (.int 1))) (cK (.int z)) ρ S = some (.ok (.int (if m < d then d - 1 else z)), S) := by
  refine Pst.eq.mp ?_
  by_cases g : m < d
  · rw [if_pos g]
    repeat' (first | done | fail)
    with_reducible refine r_eq h ?_
    repeat' (first | done | fail)
    · with_reducible refine r_eq h ?_
      repeat' (first | done | fail)
  · rw [if_neg g]
    repeat' (first | done | fail)
    with_reducible refine r_eq h ?_
    repeat' (first | done | fail)
    · omega
def pB : SX := (sSeq (sSet 12 (cCall 2 F__law_take (aCons (cVar 0) (aCons (cK (.int 4)) aNil))))
    (sRet (cTup (aCons (cVar 2) (aCons (cVar 3) (aCons (cVar 4) (aCons (cVar 5) (aCons (cBin oAddA (cBin oAddA (cSliceA (cVar 6) cNo (cPart (cVar 12))) (cTup (aCons (cIfE (cTest (cBin oGt (cBin oIx (cVar 6) (cVar 12)) (cK (.int 0)))) (cBin oSub (cBin oIx (cVar 6) (cVar 12)) (cK (.int 1))) (cK (.int 1))) aNil))) (cSliceA (cVar 6) (cPart (cBin oAddA (cVar 12) (cK (.int 1)))) cNo)) aNil))))))))
theorem bent_bd {n : Nat} {S : Store} (h : Well n S) {f l s w : Int} (hb : BdOk f l s w) {d2 d3 d4 d5 : D} {x1 x7 x8 x9 x10 x11 x12 : Option D} : Pst (pB [some (.loc n), x1, some d2, some d3, some d4, some d5, some (.tup [.int f, .int l, .int s, .int w]), x7, x8, x9, x10, x11, x12] S) (fun fl S' => ∃ f' l' s' w', fl = .ret (.tup [d2, d3, d4, d5, .tup [.int f', .int l', .int s', .int w']]) ∧ BdOk f' l' s' w' ∧ Fr n S S') NoE := by
  have hf := hb.f
  have hl := hb.l
  have hs := hb.s
  have hw := hb.w
  unfold pB
  repeat' (first | done | fail)
  rename_i k S1 k0 k1 f1 w1
  have hk : k = 0 ∨ k = 1 ∨ k = 2 ∨ k = 3 := by omega
  rcases hk with rfl | rfl | rfl | rfl
  · refine o1_ix ⟨_, _, rfl, rfl, ?_⟩
    repeat' (first | done | fail)
    · exact ⟨f - 1, l, s, w, rfl, by constructor <;> omega, f1⟩
    · exact ⟨1, l, s, w, rfl, by constructor <;> omega, f1⟩
  · refine o1_ix ⟨_, _, rfl, rfl, ?_⟩
    repeat' (first | done | fail)
    · exact ⟨f, l - 1, s, w, rfl, by constructor <;> omega, f1⟩
    · exact ⟨f, 1, s, w, rfl, by constructor <;> omega, f1⟩
  · refine o1_ix ⟨_, _, rfl, rfl, ?_⟩
    repeat' (first | done | fail)
    · exact ⟨f, l, s - 1, w, rfl, by constructor <;> omega, f1⟩
    · exact ⟨f, l, 1, w, rfl, by constructor <;> omega, f1⟩
  · refine o1_ix ⟨_, _, rfl, rfl, ?_⟩
    repeat' (first | done | fail)
    · exact ⟨f, l, s, w - 1, rfl, by constructor <;> omega, f1⟩
    · exact ⟨f, l, s, 1, rfl, by constructor <;> omega, f1⟩
theorem bent_ok {n : Nat} {S : Store} (h : Well n S) {ps : List Pay} {cl ol : List (Int × Int)} {res f l s w : Int} (hp : PlanOk ps cl ol res) (h59 : ∀ x ∈ cl.map (·.1), x ≤ 59) (hb : BdOk f l s w) : Pst (F__law_bent [.loc n, planD ps cl ol res [f, l, s, w]] S) (fun d S' => ∃ ps' cl' ol' res' f' l' s' w', d = planD ps' cl' ol' res' [f', l', s', w'] ∧ PlanOk ps' cl' ol' res' ∧ BdOk f' l' s' w' ∧ Fr n S S') NoE := by
  have hn := len_of h
  have hl := hp.p1
  show Pst (F__law_bent [.loc n, .tup [.tup (ps.map payD), .tup (cl.map twoD), .tup (ol.map twoD), .int res, .tup [.int f, .int l, .int s, .int w]]] S) _ _
  unfold F__law_bent b__law_bent
  with_reducible refine call_go rfl ?_
  dsimp only [startE, List.map, List.replicate, List.length, List.cons_append, List.nil_append, Nat.reduceAdd, Nat.reduceSub]
  generalize hz1 : (cIfE (cTest (cBin oGt (cVar 11) (cK (.int 1)))) (cBin oSub (cVar 11) (cK (.int 1))) (cK (.int 2))) = p1
  generalize hz2 : (cIfE (cTest (cBin oGt (cVar 5) (cK (.int 0)))) (cBin oSub (cVar 5) (cK (.int 1))) (cK (.int 1))) = p2
  generalize hz3 : (sSeq (sSet 12 _) _) = p3
  repeat' (first | done | fail)
  · rename_i way Sa a0 a1 fa wa at' Sb b0 b1 fb wb hw
    obtain ⟨k, rfl⟩ : ∃ k : Nat, at' = k := ⟨at'.toNat, by omega⟩
    have hk : k < ps.length := by rw [List.length_map] at b1; omega
    obtain ⟨x, hx⟩ : ∃ x, ps[k]? = some x := ⟨_, List.getElem?_eq_getElem hk⟩
    have hdx := hp.due x (List.mem_of_getElem? hx)
    refine o1_ix ⟨_, _, rfl, (by rw [atI_nat _ (by omega), List.getElem?_map, Int.toNat_natCast, hx]; rfl), ?_⟩
    rw [show payD x = .tup [.str x.1, .str x.2.1, .int x.2.2] from rfl]
    repeat' (first | done | fail)
    rw [← hz1]
    refine r_eq (less_or (d := x.2.2) rfl) ?_
    have hlm := cut_len (ps.map payD) none (some (k : Int))
    have hln := cut_len (ps.map payD) (some ((k : Int) + 1)) none
    rw [List.length_map] at hlm hln
    obtain ⟨due, hdue, hd1, hd2⟩ : ∃ due, due = (if 1 < x.2.2 then x.2.2 - 1 else 2) ∧ 1 ≤ due ∧ due ≤ 1000000 := ⟨_, rfl, by split <;> omega, by split <;> omega⟩
    rw [← hdue]
    clear hdue
    repeat' (first | done | fail)
    refine ⟨by show _ + 1 ≤ 1000000; omega, ?_⟩
    repeat' (first | done | fail)
    refine ⟨by rw [List.length_append]; show _ + 1 + _ ≤ 1000000; omega, ?_⟩
    have ec := pay_cut hk (x.1, x.2.1, due)
    rw [show payD (x.1, x.2.1, due) = .tup [.str x.1, .str x.2.1, .int due] from rfl] at ec
    rw [ec]
    repeat' (first | done | fail)
    have hb2 := plan_pure (ps := ps.set k (x.1, x.2.1, due)) (cl := cl) (ol := ol) (res := res) (bd := [f, l, s, w])
    exact ⟨hb2, _, _, _, _, _, _, _, _, rfl, pay_set hp hx ⟨hd1, hd2⟩, hb, by rw [(fa.trans fb).take]; exact fa.trans fb⟩
  · rename_i way Sa a0 a1 fa wa at' Sb b0 b1 fb wb hw0 hw1
    have hr := hp.res
    rw [← hz2]
    refine r_eq (less_or (d := res) rfl) ?_
    obtain ⟨res2, hres, hr1⟩ : ∃ r2, r2 = (if 0 < res then res - 1 else 1) ∧ 0 ≤ r2 ∧ r2 ≤ 10000000 := ⟨_, rfl, by split <;> omega⟩
    rw [← hres]
    clear hres
    repeat' (first | done | fail)
    have hb2 := plan_pure (ps := ps) (cl := cl) (ol := ol) (res := res2) (bd := [f, l, s, w])
    exact ⟨hb2, _, _, _, _, _, _, _, _, rfl, res_other hp hr1, hb, by rw [(fa.trans fb).take]; exact fa.trans fb⟩
  · rename_i way Sa a0 a1 fa wa at' Sb b0 b1 fb wb hw0 hw1 hw2
    refine r_eq (neA_nilT eqok_two) ?_
    cases ol with
    | nil =>
      simp only [List.map_nil, List.isEmpty_nil, Bool.not_true]
      repeat' (first | done | fail)
      · omega
      · rw [← hz3]
        refine Pst.imp (show Pst (pB _ Sb) _ _ from bent_bd wb hb) ?_
        rintro _ S3 ⟨f', l', s', w', rfl, hb', f3⟩
        have hF := (fa.trans fb).trans f3
        repeat' (first | done | fail)
        have hb2 := plan_pure (ps := ps) (cl := cl) (ol := []) (res := res) (bd := [f', l', s', w'])
        exact ⟨hb2, _, _, _, _, _, _, _, _, rfl, hp, hb', by rw [hF.take]; exact hF⟩
    | cons o ol =>
      simp only [List.map_cons, List.isEmpty_cons, Bool.not_false]
      repeat' (first | done | fail)
      have ec : cutL (twoD o :: List.map twoD ol) (some 1) none = ol.map twoD := by rw [cut_from _ (by decide)]; rfl
      rw [ec]
      have hF := fa.trans fb
      have hb2 := plan_pure (ps := ps) (cl := cl) (ol := ol) (res := res) (bd := [f, l, s, w])
      exact ⟨hb2, _, _, _, _, _, _, _, _, rfl, outs_less hp, hb, by rw [hF.take]; exact hF⟩
  · rename_i way Sa a0 a1 fa wa at' Sb b0 b1 fb wb hw0 hw1 hw2 hw3
    obtain ⟨pre, c, rfl⟩ : ∃ pre c, cl = pre ++ [c] := by
      rcases List.eq_nil_or_concat cl with e | ⟨pre, c, e⟩
      · have := hp.c1
        rw [e] at this
        simp at this
      · exact ⟨pre, c, by rw [e, List.concat_eq_append]⟩
    have hg : (pre ++ [c]).getLast? = some c := by simp
    have hcl := hp.c1.2
    rw [List.length_append, List.length_singleton] at hcl
    refine ix_lastT (f := twoD) hg ?_
    rw [show twoD c = .tup [.int c.1, .int c.2] from rfl]
    repeat' (first | done | fail)
    refine ix_lastT (f := twoD) hg ?_
    rw [show twoD c = .tup [.int c.1, .int c.2] from rfl]
    repeat' (first | done | fail)
    have ec : cutL ((pre ++ [c]).map twoD) none (some (-1)) = pre.map twoD := by
      rw [List.map_append]
      exact cut_last1 _ _
    rw [ec]
    refine ⟨by rw [List.length_map]; show _ + 1 ≤ 1000000; omega, ?_⟩
    have em : pre.map twoD ++ [D.tup [.int (c.1 + 1), .int c.2]] = (pre ++ [(c.1 + 1, c.2)]).map twoD := by rw [List.map_append]; rfl
    rw [em]
    repeat' (first | done | fail)
    have hF := fa.trans fb
    have hb2 := plan_pure (ps := ps) (cl := pre ++ [(c.1 + 1, c.2)]) (ol := ol) (res := res) (bd := [f, l, s, w])
    exact ⟨hb2, _, _, _, _, _, _, _, _, rfl, calls_late hp h59, hb, by rw [hF.take]; exact hF⟩
  · rename_i way Sa a0 a1 fa wa at' Sb b0 b1 fb wb hw0 hw1 hw2 hw3
    rw [← hz3]
    refine Pst.imp (show Pst (pB _ Sb) _ _ from bent_bd wb hb) ?_
    rintro _ S3 ⟨f', l', s', w', rfl, hb', f3⟩
    have hF := (fa.trans fb).trans f3
    repeat' (first | done | fail)
    have hb2 := plan_pure (ps := ps) (cl := cl) (ol := ol) (res := res) (bd := [f', l', s', w'])
    exact ⟨hb2, _, _, _, _, _, _, _, _, rfl, hp, hb', by rw [hF.take]; exact hF⟩
/-! the thing made by names; what it owes; its truth -/
theorem calls_madeK {ps : List Pay} {cl ol : List (Int × Int)} {res f l s w : Int} (h : PlanOk ps cl ol res) (hb : BdOk f l s w) {S : Store} {r : AX} {ρ : PF.Env} {Q : D → Store → Prop} {E : XV → Store → Prop}
    (hr : r ρ S = some (.ok [.tup [.int f, .int l, .int s, .int w], .int res, .tup (ol.map twoD), .tup (cl.map twoD), .tup (ps.map payD)], S)) (k : Q (.ins "Calls" ["told"] [planD ps cl ol res [f, l, s, w]]) S) : Pst (cMakeK madeI "Calls" 5 kn0_g F_Calls___init__ r ρ S) Q E := by
  have e : cMakeK madeI "Calls" 5 kn0_g F_Calls___init__ r ρ S = some (.ok (.ins "Calls" ["told"] [planD ps cl ol res [f, l, s, w]]), S) := by
    unfold cMakeK
    rw [hr]
    show (if (5 : Nat) = 5 then madeI "Calls" S.length (F_Calls___init__ [.obj "Calls" S.length, .tup (ps.map payD), .tup (cl.map twoD), .tup (ol.map twoD), .int res, .tup [.int f, .int l, .int s, .int w]] (S ++ [[]])) else none) = _
    rw [if_pos rfl, init_in h hb]
    have e1 : (S ++ [encF ["told"] [planD ps cl ol res [f, l, s, w]]])[S.length]? = some (encF ["told"] [planD ps cl ol res [f, l, s, w]]) := by simp
    unfold madeI
    dsimp only
    rw [e1]
    dsimp only
    rw [decF_enc (by rfl)]
    dsimp only
    rw [List.take_left' rfl]
  rw [e]
  exact k
theorem truI_eq {x : EX} {ρ : PF.Env} {S : Store} {ps : List Pay} {cl ol : List (Int × Int)} {res : Int} {bd : List Int} (hx : x ρ S = some (.ok (planI ps cl ol res bd), S)) : cTruI "Calls" x ρ S = some (.ok true, S) := by
  unfold cTruI
  rw [hx, bindO_ok, fo_plan]
theorem check_payer_is {ps : List Pay} {cl ol : List (Int × Int)} {res : Int} {bd : List Int} (h : PlanOk ps cl ol res) {x : Pay} (hx : x ∈ ps) {S : Store} : F_check_payer [planI ps cl ol res bd, .str x.1] S = some (.ok .non, S) := by
  have hs := name_strOk (strs_of h x hx).1
  have hs2 := name_strOk (strs_of h x hx).2
  have h1 := lay_pay [x] fun y hy => by rw [List.mem_singleton.mp hy]; exact ⟨hs, hs2⟩
  have hk : eqOk (.lst [payD x]) = true := by
    unfold eqOk
    rw [Bool.and_eq_true]
    refine ⟨rfl, ?_⟩
    unfold SeqAt.shaped
    rw [Bool.and_eq_true]
    refine ⟨by rw [D.py, PyData.canLay0]; exact h1.1, decide_eq_true ?_⟩
    rw [D.py, PyData.depth]
    have := h1.2
    simp only [List.map_cons, List.map_nil] at this
    omega
  unfold F_check_payer b_check_payer
  with_reducible refine call_eq rfl ?_
  dsimp only [startE, List.map, List.replicate, List.length, List.cons_append, List.nil_append, Nat.reduceAdd, Nat.reduceSub]
  repeat' (first | done | fail)
  refine r_eq (payer_of_is h hx) ?_
  repeat' (first | done | fail)
  have e : oEqA (.lst [payD x]) (.lst []) S = some (.ok (.bl false), S) := by
    unfold oEqA oEqS oEq
    refine (if_pos ⟨hk, (by decide : eqOk (.lst []) = true)⟩).trans ?_
    show some (Except.ok (D.bl (D.eqv (.lst [payD x]) (.lst []))), S) = _
    simp [D.eqv, D.eqvs]
  refine r_eq e ?_
  repeat' (first | done | fail)
theorem owed_is {ps : List Pay} {cl ol : List (Int × Int)} {res f l s w : Int} (h : PlanOk ps cl ol res) {x : Pay} (hx : x ∈ ps) {k : Nat} (hk : k < cl.length) {S : Store} : F_Calls_owed [planI ps cl ol res [f, l, s, w], .str x.1, .int k] S = some (.ok (.int (owedV x.2.2 cl (k + 1))), S) := by
  have hl := h.c1
  have hd := h.due x hx
  have hp := fun S => payer_of_is (bd := [f, l, s, w]) (S := S) h hx
  unfold F_Calls_owed b_Calls_owed
  with_reducible refine call_eq rfl ?_
  dsimp only [startE, List.map, List.replicate, List.length, List.cons_append, List.nil_append, Nat.reduceAdd, Nat.reduceSub]
  repeat' (first | done | fail)
  refine r_eq (check_payer_is h hx) ?_
  repeat' (first | done | fail)
  with_reducible refine propI rfl rfl calls_of ?_
  repeat' (first | done | fail)
  refine r_eq (check_number_in (by rw [List.length_map]; omega)) ?_
  repeat' (first | done | fail)
  refine r_eq (hp _) ?_
  repeat' (first | done | fail)
  with_reducible refine propI rfl rfl calls_of ?_
  repeat' (first | done | fail)
  refine r_eq (owed_of_is hd hl.2 (by omega)) ?_
  repeat' (first | done | fail)
  try rw [show ((k : Int) + 1).toNat = k + 1 by omega]
theorem methI {m : Str} {n : Nat} {o : OpB} {x : EX} {r : AX} {ρ : PF.Env} {S : Store} {xs : List D} {v : D} {ps : List Pay} {cl ol : List (Int × Int)} {res : Int} {bd : List Int} (hx : x ρ S = some (.ok (planI ps cl ol res bd), S)) (hm : lkF m ["told"] [planD ps cl ol res bd] = none) (hr : r ρ S = some (.ok xs, S)) (hn : xs.length + 1 = n) (ho : o (planI ps cl ol res bd :: xs) S = some (.ok v, S)) : cMeth "Calls" m n o x r ρ S = some (.ok v, S) := by
  unfold cMeth
  rw [hx, bindO_ok, fo_plan]
  dsimp only
  rw [hm]
  dsimp only
  rw [hr, bindO_ok, if_pos hn, ho]
theorem methKI {m : Str} {n : Nat} {g : List D → List D → List D} {o : OpB} {x : EX} {r : AX} {ρ : PF.Env} {S : Store} {xs : List D} {v : D} {ps : List Pay} {cl ol : List (Int × Int)} {res : Int} {bd : List Int} (hx : x ρ S = some (.ok (planI ps cl ol res bd), S)) (hm : lkF m ["told"] [planD ps cl ol res bd] = none) (hr : r ρ S = some (.ok xs, S)) (hn : xs.length = n) (ho : o (g [planI ps cl ol res bd] xs) S = some (.ok v, S)) : cMethK "Calls" m n g o x r ρ S = some (.ok v, S) := by
  unfold cMethK
  rw [hx, bindO_ok, fo_plan]
  dsimp only
  rw [hm]
  dsimp only
  rw [hr, bindO_ok, if_pos hn, ho]
theorem part_bnd {ps : List Pay} {cl ol : List (Int × Int)} {res : Int} (h : PlanOk ps cl ol res) (k : Nat) : 0 ≤ partV cl k ∧ partV cl k ≤ 1000 := by
  have hs := h.sum
  have hp : ∀ c ∈ cl, 0 ≤ c.2 := fun c hc => by have := h.part c hc; omega
  have key : ∀ (l : List (Int × Int)) (k : Nat), (∀ c ∈ l, 0 ≤ c.2) → 0 ≤ partV l k ∧ partV l k ≤ (l.map (·.2)).sum := by
    intro l
    induction l with
    | nil => intro k _; simp [partV]
    | cons c l ih =>
      intro k hc
      have h0 := hc c (List.mem_cons_self ..)
      cases k with
      | zero =>
        have := (ih l.length fun c h => hc c (List.mem_cons_of_mem _ h))
        have e : partV (c :: l) 0 = 0 := rfl
        rw [e, List.map_cons, List.sum_cons]
        omega
      | succ k =>
        have := ih k fun c h => hc c (List.mem_cons_of_mem _ h)
        have e : partV (c :: l) (k + 1) = c.2 + partV l k := by simp [partV]
        rw [e, List.map_cons, List.sum_cons]
        omega
  have := key cl k hp
  omega
theorem owed_bnd {ps : List Pay} {cl ol : List (Int × Int)} {res : Int} (h : PlanOk ps cl ol res) {x : Pay} (hx : x ∈ ps) (k : Nat) : 0 ≤ owedV x.2.2 cl k ∧ owedV x.2.2 cl k ≤ 1000000 := by
  have hp := part_bnd h k
  have hd := h.due x hx
  unfold owedV
  generalize partV cl k = p at *
  have h1 : 0 ≤ x.2.2 * p := Int.mul_nonneg (by omega) hp.1
  have h2 : x.2.2 * p ≤ 1000000 * 1000 := Int.mul_le_mul hd.2 hp.2 hp.1 (by omega)
  omega
theorem ro_str {z : Str} (h : NameOk z.cps.toList) : RP 0 41 (.str z) := by
  refine ⟨rfl, rfl, ?_, ?_, Nat.le_refl _⟩
  · show (z.cps.toList.all fun c => decide (c < 16 ^ 8)) = true
    refine List.all_eq_true.mpr fun c hc => decide_eq_true ?_
    have := h.ok c hc
    have : (16 : Nat) ^ 8 = 4294967296 := by decide
    omega
  · show z.cps.size ≤ 41
    have := h.l8
    rw [Array.length_toList] at this
    omega
theorem ros_map {α : Type} {f : α → D} {l : List α} {k m : Nat} (h : ∀ x ∈ l, RP k m (f x)) : ∀ d ∈ l.map f, RP k m d := fun d hd => by
  obtain ⟨x, hx, rfl⟩ := List.mem_map.mp hd
  exact h x hx
theorem ro_pays {ps : List Pay} {cl ol : List (Int × Int)} {res : Int} (h : PlanOk ps cl ol res) : RP 2 2000 (.tup (ps.map payD)) := by
  refine (ro_tup (k := 1) (m := 126) (ros_map fun x hx => ?_)).mono (Nat.le_refl _) (by rw [List.length_map]; have := h.p1; omega)
  have hn := strs_of h x hx
  have hd := h.due x hx
  exact ro_tup (k := 0) (m := 41) (ros_cons (ro_str hn.1) (ros_cons (ro_str hn.2) (ros_cons (ro_int (by omega)) ros_nil)))
theorem ro_twos {l : List (Int × Int)} (hl : l.length ≤ 8) (h : ∀ x ∈ l, (0 ≤ x.1 ∧ x.1 ≤ 90) ∧ 0 ≤ x.2 ∧ x.2 ≤ 10000000) : RP 2 2000 (.tup (l.map twoD)) := by
  refine (ro_tup (k := 1) (m := 84) (ros_map fun x hx => ?_)).mono (Nat.le_refl _) (by rw [List.length_map]; omega)
  have := h x hx
  exact ro_tup (k := 0) (m := 41) (ros_cons (ro_int (by omega)) (ros_cons (ro_int (by omega)) ros_nil))
theorem ro_plan {ps : List Pay} {cl ol : List (Int × Int)} {res f l s w : Int} (h : PlanOk ps cl ol res) (hb : BdOk f l s w) : reprOk (.lst [.tup (ps.map payD), .tup (cl.map twoD), .tup (ol.map twoD), .int res, .tup [.int f, .int l, .int s, .int w], planD ps cl ol res [f, l, s, w]]) = true := by
  have h1 := ro_pays h
  have h2 := ro_twos (l := cl) h.c1.2 fun x hx => ⟨by have := h.day x.1 (List.mem_map.mpr ⟨x, hx, rfl⟩); omega, by have := h.part x hx; omega⟩
  have h3 := ro_twos (l := ol) h.o1 fun x hx => by have := h.out x hx; omega
  have h4 : RP 2 2000 (.int res) := (ro_int (by have := h.res; omega)).mono (by decide) (by decide)
  have h5 : RP 2 2000 (.tup [.int f, .int l, .int s, .int w]) := by
    have := hb.f
    have := hb.l
    have := hb.s
    have := hb.w
    exact (ro_tup (k := 0) (m := 41) (ros_cons (ro_int (by omega)) (ros_cons (ro_int (by omega)) (ros_cons (ro_int (by omega)) (ros_cons (ro_int (by omega)) ros_nil))))).mono (by decide) (by show (41 + 1) * 4 ≤ 2000; decide)
  have h6 : RP 3 10005 (planD ps cl ol res [f, l, s, w]) := (ro_tup (k := 2) (m := 2000) (ros_cons h1 (ros_cons h2 (ros_cons h3 (ros_cons h4 (ros_cons h5 ros_nil)))))).mono (by decide) (by show (2000 + 1) * 5 ≤ 10005; decide)
  have up : ∀ {d : D}, RP 2 2000 d → RP 3 10005 d := fun h => h.mono (by decide) (by decide)
  exact ro_ok (ro_lst (k := 3) (m := 10005) (ros_cons (up h1) (ros_cons (up h2) (ros_cons (up h3) (ros_cons (up h4) (ros_cons (up h5) (ros_cons h6 ros_nil))))))) (by decide) (by show (10005 + 1) * 6 ≤ 700000; decide)
/-! one number's plans -/
local macro_rules | `(tactic| done) => `(tactic| (with_reducible first | refine v14 ?_ | refine tn14 ?_ | refine ss14 ?_ | refine v15 ?_ | refine tn15 ?_ | refine ss15 ?_ | refine v16 ?_ | refine tn16 ?_ | refine ss16 ?_ | refine v17 ?_ | refine tn17 ?_ | refine ss17 ?_ | refine v18 ?_ | refine tn18 ?_ | refine ss18 ?_ | refine v19 ?_ | refine tn19 ?_ | refine ss19 ?_))
theorem four_of {xs : List Int} {z0 z1 z2 z3 : Int} (h4 : xs.length = 4) (h : ∀ (j : Nat) v, xs[j]? = some v → ∃ z, [z0, z1, z2, z3][j]? = some z ∧ 0 ≤ v ∧ v ≤ z) (b0 : z0 ≤ 6) (b1 : z1 ≤ 9) (b2 : z2 ≤ 3) (b3 : z3 ≤ 9) : ∃ f l s w, xs = [f, l, s, w] ∧ BdOk f l s w := by
  match xs, h4, h with
  | [f, l, s, w], _, h =>
    obtain ⟨y0, e0, h0, g0⟩ := h 0 f rfl
    obtain ⟨y1, e1, h1, g1⟩ := h 1 l rfl
    obtain ⟨y2, e2, h2, g2⟩ := h 2 s rfl
    obtain ⟨y3, e3, h3, g3⟩ := h 3 w rfl
    cases e0; cases e1; cases e2; cases e3
    exact ⟨f, l, s, w, rfl, by constructor <;> omega⟩
theorem sizes62 {dz : D} (h : dz ∈ [D.tup [.int 12, .int 8, .int 8], D.tup [.int 3, .int 2, .int 2], D.tup [.int 6, .int 4, .int 3]]) : ∃ a b c, dz = .tup [.int a, .int b, .int c] ∧ Sizes a b c := by
  simp only [List.mem_cons, List.not_mem_nil, or_false] at h
  rcases h with rfl | rfl | rfl
  · exact ⟨12, 8, 8, rfl, by constructor <;> omega⟩
  · exact ⟨3, 2, 2, rfl, by constructor <;> omega⟩
  · exact ⟨6, 4, 3, rfl, by constructor <;> omega⟩
def pO : SX := sSeq (sSet 17 (cCall 3 F__law_owed (aCons (cVar 4) (aCons (cVar 15) (aCons (cVar 16) aNil)))))
    (sIf (cTest (cBin oNeA (cBlt bRepr (aCons (cLst (aCons (cMeth "Calls" "owed" 3 F_Calls_owed (cVar 10) (aCons (cBin oIx (cVar 15) (cK (.int 0))) (aCons (cVar 16) aNil))) (aCons (cMethK "Calls" "owed" 2 kn1_g F_Calls_owed (cVar 10) (aCons (cVar 16) (aCons (cBin oIx (cVar 15) (cK (.int 0))) aNil))) aNil))) aNil)) (cBlt bRepr (aCons (cLst (aCons (cVar 17) (aCons (cVar 17) aNil))) aNil)))) (sRet (cK (.bl false))) sNil)
theorem owed_body {ps : List Pay} {cl ol : List (Int × Int)} {res f l s w : Int} (h : PlanOk ps cl ol res) {x : Pay} (hx : x ∈ ps) {k : Nat} (hk : k < cl.length) {x0 x1 x2 x3 x5 x6 x7 x8 x9 x11 x12 x13 x14 x17 x18 x19 : Option D} {S : Store} :
    pO [x0, x1, x2, x3, some (planD ps cl ol res [f, l, s, w]), x5, x6, x7, x8, x9, some (planI ps cl ol res [f, l, s, w]), x11, x12, x13, x14, some (payD x), some (.int k), x17, x18, x19] S = some (.ok (.nx [x0, x1, x2, x3, some (planD ps cl ol res [f, l, s, w]), x5, x6, x7, x8, x9, some (planI ps cl ol res [f, l, s, w]), x11, x12, x13, x14, some (payD x), some (.int k), some (.int (owedV x.2.2 cl (k + 1))), x18, x19]), S) := by
  have hl := h.c1
  have hd := h.due x hx
  have hb := owed_bnd h hx (k + 1)
  have hrep : reprOk (.lst [.int (owedV x.2.2 cl (k + 1)), .int (owedV x.2.2 cl (k + 1))]) = true := ro_ok (ro_lst (k := 0) (m := 41) (ros_cons (ro_int (by omega)) (ros_cons (ro_int (by omega)) ros_nil))) (by decide) (by show (41 + 1) * 2 ≤ 700000; decide)
  have hlaw := fun S => law_owed_is (ps := ps) (ol := ol) (res := res) (bd := [f, l, s, w]) (x := x) (i := (k : Int)) (S := S) hd hl.2 (by omega)
  rw [show ((k : Int) + 1).toNat = k + 1 by omega] at hlaw
  have how := fun S => owed_is (f := f) (l := l) (s := s) (w := w) (S := S) h hx hk
  refine Pst.eq.mp ?_
  unfold pO
  rw [show payD x = .tup [.str x.1, .str x.2.1, .int x.2.2] from rfl] at *
  generalize owedV x.2.2 cl (k + 1) = v at *
  repeat' (first | done | fail)
  refine r_eq (hlaw _) ?_
  repeat' (first | done | fail)
  refine r_eq (methI rfl rfl rfl rfl (how _)) ?_
  repeat' (first | done | fail)
  refine r_eq (methKI rfl rfl rfl rfl (how _)) ?_
  repeat' (first | done | fail)
  with_reducible refine r_eq (repr_eq hrep) ?_
  repeat' (first | done | fail)
  with_reducible refine r_eq (repr_eq hrep) ?_
  repeat' (first | done | fail)
  with_reducible refine r_eq ne_same ?_
  repeat' (first | done | fail)
theorem things_ok {ps ps' : List Pay} {cl ol cl' ol' : List (Int × Int)} {res res' f l s w : Int} {bd' : List Int} (h : PlanOk ps cl ol res) (h' : PlanOk ps' cl' ol' res') {d : D} (hd : d ∈ [D.tup [planI ps cl ol res [f, l, s, w], .bl true], .tup [planI ps cl ol res [f, l, s, w], .bl true],
    .tup [planI ps' cl' ol' res' bd', .bl (D.eqv (planD ps' cl' ol' res' bd') (planD ps cl ol res [f, l, s, w]))], .tup [planD ps cl ol res [f, l, s, w], .bl false], .tup [.non, .bl false]]) : ∃ y r, d = .tup [y, .bl r] ∧ ∀ S, F__law_is_equal [planI ps cl ol res [f, l, s, w], y, .bl r] S = some (.ok (.bl true), S) := by
  simp only [List.mem_cons, List.not_mem_nil, or_false] at hd
  rcases hd with rfl | rfl | rfl | rfl | rfl
  · refine ⟨_, _, rfl, fun S => is_equal_is (fun neg S => ?_) fun neg S => ?_⟩
    · rw [eqI_ins h h, plan_refl]
    · rw [eqI_ins h h, plan_refl]
  · refine ⟨_, _, rfl, fun S => is_equal_is (fun neg S => ?_) fun neg S => ?_⟩
    · rw [eqI_ins h h, plan_refl]
    · rw [eqI_ins h h, plan_refl]
  · refine ⟨_, _, rfl, fun S => is_equal_is (fun neg S => ?_) fun neg S => ?_⟩
    · rw [eqI_ins h h', plan_comm]
    · rw [eqI_ins h' h]
  · exact ⟨_, _, rfl, fun S => is_equal_is (fun neg S => eqI_one rfl) fun neg S => eqI_two rfl⟩
  · exact ⟨_, _, rfl, fun S => is_equal_is (fun neg S => eqI_one rfl) fun neg S => eqI_two rfl⟩
theorem right_ok {n : Nat} {S : Store} (h : Well n S) : Pst (F__law_right [.loc n] S) (fun d S' => d = .bl true ∧ Fr n S S') NoE := by
  have hn := len_of h
  unfold F__law_right b__law_right
  with_reducible refine call_go rfl ?_
  dsimp only [startE, List.map, List.replicate, List.length, List.cons_append, List.nil_append, Nat.reduceAdd, Nat.reduceSub]
  generalize hz1 : (cSeqA (cTup (aCons (cVar 10) (aCons (cVar 11) aNil)))) = p1
  generalize hz2 : (sFor (cSeqA (cVar 5)) (PF.tName 15) _) = p2
  generalize hz3 : (sFor (cSeqA (cTup (aCons (cTup (aCons (cVar 11) (aCons (cK (.bl true)) aNil))) _))) _ _) = p3
  repeat' (first | done | fail)
  refine for_of (fun i ρ S' => ∃ x1 x2 x3 x4 x5 x6 x7 x8 x9 x10 x11 x12 x13 x14 x15 x16 x17 x18 x19, ρ = [some (.loc n), x1, x2, x3, x4, x5, x6, x7, x8, x9, x10, x11, x12, x13, x14, x15, x16, x17, x18, x19] ∧ Fr n S S') ⟨_, _, _, _, _, _, _, _, _, _, _, _, _, _, _, _, _, _, _, rfl, Fr.refl h⟩ (fun _ _ _ _ => rfl) ?_ ?_
  · rintro i d ρ S1 hd ⟨x1, x2, x3, x4, x5, x6, x7, x8, x9, x10, x11, x12, x13, x14, x15, x16, x17, x18, x19, rfl, f1⟩
    obtain ⟨hi, rfl⟩ := ranged_at hd
    have w1 := f1.1
    repeat' (first | done | fail)
    refine Pst.imp (of_any w1 (fun _ => rfl) (by decide) (by decide)) ?_
    rintro dz S2 ⟨hdz, _, f2⟩
    obtain ⟨a, b, c, rfl, hsz⟩ := sizes62 hdz
    clear hdz
    have w2 := f2.1
    repeat' (first | done | fail)
    rename_i top S3 t0 t1 f3 w3
    refine Pst.imp (plan_ok w3 hsz ⟨by omega, by omega⟩) ?_
    rintro _ S5 ⟨ps, cl, ol, res, rfl, ⟨hpl, h59⟩, f5⟩
    have w5 := f5.1
    repeat' (first | done | fail)
    refine Pst.imp (bounds_ok (zs := [6, 9, 3, 9]) w5 rfl (by decide)) ?_
    rintro _ S7 ⟨xs, rfl, hx4, hxs, f7⟩
    obtain ⟨f, l, s, w, rfl, hbd⟩ := four_of hx4 hxs (by decide) (by decide) (by decide) (by decide)
    clear hxs hx4
    have w7 := f7.1
    have hF := ((((f1.trans f2).trans f3).trans f5).trans f7)
    clear f1 f2 f3 f5 f7 w1 w2 w3 w5 hsz
    rw [show planD ps cl ol res [f, l, s, w] = .tup [.tup (ps.map payD), .tup (cl.map twoD), .tup (ol.map twoD), .int res, .tup [.int f, .int l, .int s, .int w]] from rfl]
    repeat' (first | done | fail)
    refine calls_made hpl hbd rfl ?_
    repeat' (first | done | fail)
    refine calls_madeK hpl hbd rfl ?_
    repeat' (first | done | fail)
    refine Pst.imp (bent_ok w7 hpl h59 hbd) ?_
    rintro _ S8 ⟨ps', cl', ol', res', f', l', s', w', rfl, hpl', hbd', f8⟩
    have hF := hF.trans f8
    clear f8 w7
    repeat' (first | done | fail)
    rw [← hz1]
    refine r_eq (a := .items [planI ps cl ol res [f, l, s, w], planI ps cl ol res [f, l, s, w]]) rfl ?_
    refine ⟨_, rfl, ?_⟩
    have hrp := ro_plan hpl hbd
    refine for_of (fun j ρ S' => ∃ y13 y14, ρ = [some (.loc n), some (.int (0 + (i : Int))), some (.tup [.int a, .int b, .int c]), some (.int top), some (.tup [.tup (ps.map payD), .tup (cl.map twoD), .tup (ol.map twoD), .int res, .tup [.int f, .int l, .int s, .int w]]), some (.tup (ps.map payD)), some (.tup (cl.map twoD)), some (.tup (ol.map twoD)), some (.int res), some (.tup [.int f, .int l, .int s, .int w]), some (planI ps cl ol res [f, l, s, w]), some (planI ps cl ol res [f, l, s, w]), some (planD ps' cl' ol' res' [f', l', s', w']), y13, y14, x15, x16, x17, x18, x19] ∧ S' = S8) ⟨_, _, rfl, rfl⟩ (fun _ _ _ _ => rfl) ?_ ?_
    · rintro j d ρ S' hd ⟨y13, y14, rfl, rfl⟩
      have hd' : d = planI ps cl ol res [f, l, s, w] := by
        rcases j with _ | _ | j
        · simp at hd; exact hd.symm
        · simp at hd; exact hd.symm
        · simp at hd
      subst hd'
      repeat' (first | done | fail)
      with_reducible refine propI rfl rfl payers_of ?_
      repeat' (first | done | fail)
      with_reducible refine propI rfl rfl calls_of ?_
      repeat' (first | done | fail)
      with_reducible refine propI rfl rfl outlays_of ?_
      repeat' (first | done | fail)
      with_reducible refine propI rfl rfl reserve_of ?_
      repeat' (first | done | fail)
      with_reducible refine propI rfl rfl bounds_of ?_
      rw [show tI [f, l, s, w] = D.tup [.int f, .int l, .int s, .int w] from rfl]
      repeat' (first | done | fail)
      with_reducible refine propI rfl rfl parts_of ?_
      repeat' (first | done | fail)
      with_reducible refine r_eq (repr_eq hrp) ?_
      repeat' (first | done | fail)
      refine r_eq (repr_eq hrp) ?_
      repeat' (first | done | fail)
      with_reducible refine r_eq ne_same ?_
      repeat' (first | done | fail)
      refine r_eq (truI_eq rfl) ?_
      repeat' (first | done | fail)
    · rintro ρ S' ⟨y13, y14, rfl, rfl⟩
      repeat' (first | done | fail)
      rw [← hz2]
      generalize hz4 : (sSeq (sSet 17 _) _) = p4
      repeat' (first | done | fail)
      refine for_of (fun j ρ S'' => ∃ y15 y16 y17, ρ = [some (.loc n), some (.int (0 + (i : Int))), some (.tup [.int a, .int b, .int c]), some (.int top), some (.tup [.tup (ps.map payD), .tup (cl.map twoD), .tup (ol.map twoD), .int res, .tup [.int f, .int l, .int s, .int w]]), some (.tup (ps.map payD)), some (.tup (cl.map twoD)), some (.tup (ol.map twoD)), some (.int res), some (.tup [.int f, .int l, .int s, .int w]), some (planI ps cl ol res [f, l, s, w]), some (planI ps cl ol res [f, l, s, w]), some (planD ps' cl' ol' res' [f', l', s', w']), y13, y14, y15, y16, y17, x18, x19] ∧ S'' = S') ⟨_, _, _, rfl, rfl⟩ (fun _ _ _ _ => rfl) ?_ ?_
      · rintro j d ρ S'' hd ⟨y15, y16, y17, rfl, rfl⟩
        rw [List.getElem?_map] at hd
        have hd2 := Option.map_eq_some_iff.mp hd
        with_reducible refine Exists.elim hd2 fun x hx2 => ?_
        have hxm := List.mem_of_getElem? hx2.1
        have ex := hx2.2
        clear hd hd2 hx2
        subst ex
        repeat' (first | done | fail)
        have hc8 := hpl.c1
        refine ⟨by rw [List.length_map]; omega, _, rfl, ?_⟩
        refine for_of (fun k ρ S3 => ∃ y16 y17, ρ = [some (.loc n), some (.int (0 + (i : Int))), some (.tup [.int a, .int b, .int c]), some (.int top), some (.tup [.tup (ps.map payD), .tup (cl.map twoD), .tup (ol.map twoD), .int res, .tup [.int f, .int l, .int s, .int w]]), some (.tup (ps.map payD)), some (.tup (cl.map twoD)), some (.tup (ol.map twoD)), some (.int res), some (.tup [.int f, .int l, .int s, .int w]), some (planI ps cl ol res [f, l, s, w]), some (planI ps cl ol res [f, l, s, w]), some (planD ps' cl' ol' res' [f', l', s', w']), y13, y14, some (payD x), y16, y17, x18, x19] ∧ S3 = S'') ⟨_, _, rfl, rfl⟩ (fun _ _ _ _ => rfl) ?_ ?_
        · rintro k d ρ S3 hd ⟨y16, y17, rfl, rfl⟩
          obtain ⟨hk, rfl⟩ := ranged_at hd
          rw [List.length_map, Int.toNat_natCast] at hk
          repeat' (first | done | fail)
          rw [show (0 : Int) + (k : Int) = (k : Int) from Int.zero_add _, ← hz4]
          refine r_eq (owed_body (f := f) (l := l) (s := s) (w := w) hpl hxm hk) ?_
          exact ⟨_, _, rfl, rfl⟩
        · rintro ρ S3 ⟨y16, y17, rfl, rfl⟩
          repeat' (first | done | fail)
      · rintro ρ S'' ⟨y15, y16, y17, rfl, rfl⟩
        repeat' (first | done | fail)
        refine calls_made hpl' hbd' rfl ?_
        repeat' (first | done | fail)
        rw [← hz3]
        have hE1 := eqok_plan (bd := [f', l', s', w']) hpl'
        have hE2 := eqok_plan (bd := [f, l, s, w]) hpl
        repeat' (first | done | fail)
        refine r_eq (eqA_tup hE1 hE2) ?_
        repeat' (first | done | fail)
        refine for_of (fun j ρ S3 => ∃ y17 y19, ρ = [some (.loc n), some (.int (0 + (i : Int))), some (.tup [.int a, .int b, .int c]), some (.int top), some (.tup [.tup (ps.map payD), .tup (cl.map twoD), .tup (ol.map twoD), .int res, .tup [.int f, .int l, .int s, .int w]]), some (.tup (ps.map payD)), some (.tup (cl.map twoD)), some (.tup (ol.map twoD)), some (.int res), some (.tup [.int f, .int l, .int s, .int w]), some (planI ps cl ol res [f, l, s, w]), some (planI ps cl ol res [f, l, s, w]), some (planD ps' cl' ol' res' [f', l', s', w']), y13, y14, y15, y16, y17, some (planI ps' cl' ol' res' [f', l', s', w']), y19] ∧ S3 = S'') ⟨_, _, rfl, rfl⟩ (fun _ _ _ _ => rfl) ?_ ?_
        · rintro j d ρ S3 hd ⟨y17, y19, rfl, rfl⟩
          have hq := things_ok hpl hpl' (List.mem_of_getElem? hd)
          clear hd
          with_reducible refine Exists.elim hq fun y hq => ?_
          with_reducible refine Exists.elim hq fun r hq => ?_
          have ed := hq.1
          have heq := hq.2
          clear hq
          subst ed
          repeat' (first | done | fail)
          with_reducible refine r_eq (heq _) ?_
          repeat' (first | done | fail)
        · rintro ρ S3 ⟨y17, y19, rfl, rfl⟩
          repeat' (first | done | fail)
          exact ⟨_, _, _, _, _, _, _, _, _, _, _, _, _, _, _, _, _, _, _, rfl, hF⟩
  · rintro ρ S1 ⟨x1, x2, x3, x4, x5, x6, x7, x8, x9, x10, x11, x12, x13, x14, x15, x16, x17, x18, x19, rfl, f1⟩
    repeat' (first | done | fail)
    rw [f1.take]
    exact f1
theorem law_ends (ns : List Int) (hl : ns.length ≤ 63) : F_law [.fz (ns.map D.int)] [] = some (.ok (.bl true), []) := by
  refine Pst.eq.mp ?_
  unfold F_law b_law
  refine call_go rfl ?_
  dsimp only [startE, List.map, List.replicate, List.length, List.cons_append, List.nil_append, Nat.reduceAdd, Nat.reduceSub]
  repeat' (first | done | fail)
  with_reducible refine r_comp ?_
  repeat' (first | done | fail)
  refine comp_inv (fun i acc S1 => S1 = [] ∧ acc = (List.replicate i true).map D.bl) rfl ?_ rfl ?_ ⟨rfl, rfl⟩ ?_ ?_
  · rintro i acc S1 ⟨rfl, rfl⟩
    exact ⟨rfl, rfl⟩
  · rw [ranged_len]; show _ ≤ 1000000; omega
  · rintro i d acc S1 hd ⟨rfl, rfl⟩
    obtain ⟨hi, rfl⟩ := ranged_at hd
    dsimp only [wipeE, List.set]
    repeat' (first | done | fail)
    refine ⟨fun _ => ?_, fun hb => by cases hb⟩
    repeat' (first | done | fail)
    refine Pst.imp (urn_ok hl (by omega)) ?_
    rintro _ S2 ⟨⟨g, a, b, rfl⟩, rfl⟩
    repeat' (first | done | fail)
    rename_i m S3 em eS h3
    refine Pst.imp (right_ok (n := m) ⟨g, a, b, h3⟩) ?_
    rintro _ S4 ⟨rfl, f4⟩
    refine ⟨rfl, [], ?_, rfl, rfl, by simp [List.replicate_succ']⟩
    subst em eS
    have hl4 : S4.length = 2 := by rw [f4.2.1]; simp
    have h0 := f4.2.2 0 (by simp)
    match S4, hl4, h0 with
    | [x, y], _, h0 => simp at h0; subst h0; simp
  · rintro acc S1 ⟨rfl, rfl⟩
    repeat' (first | done | fail)
    refine r_eq b_all ?_
    repeat' (first | done | fail)
    simp
end LW
theorem PySem.Challenge.cw_pledgehall_k62_whole_plans_and_what_is_o_holds : PySem.Challenge.rw_pledgehall_k62_whole_plans_and_what_is_o.Holds := by
  exact LW.main_ LW.law_ends
