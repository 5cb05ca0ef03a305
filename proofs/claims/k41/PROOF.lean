import PyProof.Rows.All
import HandS.ForMost
import HandS.ForExc
import HandS.Flow
import HandS.Style
import HandS.ExcInit
import HandS.ExcSuper
import KE.KExcSuper
import KE.KExcIs
import HandS.HeadHook4
import HandS.Conv
import HandS.Wide
import HandS.WideBits
import HandS.Deep
import HandS.IsInst
import HandS.More
import HandS.TupLe
import PyProof.P3In
import PyProof.MaxThree
import HandS.TupSets
import PyProof.ReprRoads
import PyProof.ReprText
import HandS.Property
import HandS.Iter
import HandS.Zip
import HandS.TryOnly
import HandS.TryMany
import HandS.Head2
import HandS.HeadEnd
import HandS.Defaults
import HandS.Words
import HandS.HeadHook2
import HandS.HeadNt
import PyProof.ReprLen
import PySem.Challenge.RW_closechains_k41_residues_of_points
set_option Elab.async false
set_option linter.all false
set_option maxRecDepth 100000
set_option maxHeartbeats 0
/-! Plain data, a store of objects, and how both stand for the layer's values and heap. -/
namespace CC
open PySem L2

/-- plain data; ref l: the object at place l of the store -/
inductive D where
  | non | bl (b : Bool) | int (i : Int) | str (x : Str) | tup (xs : List D) | ref (l : Nat)

/-- objects: a list; a list that is never written; an instance (its class's number, its fields) -/
inductive O where
  | lst (xs : List D) | rol (xs : List D) | ins (c : Nat) (fs : List (Str × D))

abbrev Store := List O
abbrev Exc := Nat × D
abbrev Post := D → Store → Prop
abbrev EPost := Exc → Store → Prop

def O.mut : O → Bool
  | .rol _ => false
  | _ => true

section
variable (K : PySem.W.Frag) (ca : Nat → Addr)

mutual
inductive RelD (ι : List Addr) (H : Hp) : D → V → Prop
  | non : RelD ι H .non .non
  | bl (b : Bool) : RelD ι H (.bl b) (.bl b)
  | int (i : Int) : RelD ι H (.int i) (.int i)
  | str (x : Str) : RelD ι H (.str x) (.str x)
  | tup {ds : List D} {vs : List V} {a : Addr} : SqT K H a vs → RelDs ι H ds vs → RelD ι H (.tup ds) (.ref a)
  | ref {l : Nat} {a : Addr} : ι[l]? = some a → RelD ι H (.ref l) (.ref a)
inductive RelDs (ι : List Addr) (H : Hp) : List D → List V → Prop
  | nil : RelDs ι H [] []
  | cons {d : D} {v : V} {ds : List D} {vs : List V} : RelD ι H d v → RelDs ι H ds vs → RelDs ι H (d :: ds) (v :: vs)
end

/-- the fields of an instance -/
inductive RelF (ι : List Addr) (H : Hp) : List (Str × D) → List (Str × V) → Prop
  | nil : RelF ι H [] []
  | cons {x : Str} {d : D} {v : V} {ds : List (Str × D)} {vs : List (Str × V)} : RelD K ι H d v → RelF ι H ds vs → RelF ι H ((x, d) :: ds) ((x, v) :: vs)

/-- a list that stays: frozen, or of the written part -/
def SqF (H : Hp) (a : Addr) (xs : List V) : Prop :=
  (∃ o, H a = some (.frz o (.lst xs))) ∨
    ∃ (o : Obj) (its : Array Value) (n : Nat), K.lookup a = some o ∧ o.cls = .type "list" ∧ o.dict = none ∧ o.data = .seq its n ∧ its.size ≤ sizeLine ∧ Vals xs its.toList

inductive RelO (ι : List Addr) (H : Hp) : O → Addr → Prop
  | lst {ds : List D} {vs : List V} {a : Addr} : H a = some (.lst vs) → RelDs K ι H ds vs → RelO ι H (.lst ds) a
  | rol {ds : List D} {vs : List V} {a : Addr} : SqF K H a vs → RelDs K ι H ds vs → RelO ι H (.rol ds) a
  | ins {c : Nat} {fs : List (Str × D)} {gs : List (Str × V)} {a dx : Addr} : H a = some (.ins (ca c) dx gs) → H dx = some (.own a) → RelF K ι H fs gs → RelO ι H (.ins c fs) a

structure Rep (ι : List Addr) (S : Store) (H : Hp) : Prop where
  len : ι.length = S.length
  obj : ∀ (l : Nat) (o : O) (a : Addr), S[l]? = some o → ι[l]? = some a → RelO K ca ι H o a
  inj : ∀ (l m : Nat) (o o' : O) (a : Addr), S[l]? = some o → S[m]? = some o' → o.mut = true → o'.mut = true → ι[l]? = some a → ι[m]? = some a → l = m

structure Ext (ι : List Addr) (H : Hp) (ι' : List Addr) (H' : Hp) : Prop where
  pre : ∀ (l : Nat) (a : Addr), ι[l]? = some a → ι'[l]? = some a
  tup : ∀ (a : Addr) (vs : List V), SqT K H a vs → SqT K H' a vs
end

section
variable {K : PySem.W.Frag} {ca : Nat → Addr} {ι ι' ι2 : List Addr} {H H' H2 : Hp} {S S' : Store}
theorem Ext.refl : Ext K ι H ι H := ⟨fun _ _ h => h, fun _ _ h => h⟩
theorem Ext.trans (x : Ext K ι H ι' H') (y : Ext K ι' H' ι2 H2) : Ext K ι H ι2 H2 :=
  ⟨fun l a h => y.pre l a (x.pre l a h), fun a vs h => y.tup a vs (x.tup a vs h)⟩

mutual
theorem RelD.mono (x : Ext K ι H ι' H') : ∀ {d : D} {v : V}, RelD K ι H d v → RelD K ι' H' d v
  | _, _, .non => .non
  | _, _, .bl b => .bl b
  | _, _, .int i => .int i
  | _, _, .str z => .str z
  | _, _, .tup h r => .tup (x.tup _ _ h) (RelDs.mono x r)
  | _, _, .ref h => .ref (x.pre _ _ h)
theorem RelDs.mono (x : Ext K ι H ι' H') : ∀ {ds : List D} {vs : List V}, RelDs K ι H ds vs → RelDs K ι' H' ds vs
  | _, _, .nil => .nil
  | _, _, .cons h r => .cons (RelD.mono x h) (RelDs.mono x r)
end
theorem RelF.mono (x : Ext K ι H ι' H') : ∀ {ds : List (Str × D)} {vs : List (Str × V)}, RelF K ι H ds vs → RelF K ι' H' ds vs
  | _, _, .nil => .nil
  | _, _, .cons h r => .cons (h.mono x) (RelF.mono x r)

theorem RelDs.length : ∀ {ds : List D} {vs : List V}, RelDs K ι H ds vs → ds.length = vs.length
  | _, _, .nil => rfl
  | _, _, .cons _ r => congrArg (· + 1) (RelDs.length r)
theorem RelDs.get : ∀ {ds : List D} {vs : List V} {i : Nat} {d : D}, RelDs K ι H ds vs → ds[i]? = some d → ∃ v, vs[i]? = some v ∧ RelD K ι H d v
  | _, _, _, _, .nil, h => by simp at h
  | _, _, 0, _, .cons r _, h => by simp at h; subst h; exact ⟨_, rfl, r⟩
  | _, _, i + 1, d, .cons _ r, h => by
    obtain ⟨v, e, q⟩ := RelDs.get (i := i) (d := d) r (by simpa using h)
    exact ⟨v, by simpa using e, q⟩
theorem RelDs.append : ∀ {ds es : List D} {vs us : List V}, RelDs K ι H ds vs → RelDs K ι H es us → RelDs K ι H (ds ++ es) (vs ++ us)
  | _, _, _, _, .nil, q => q
  | _, _, _, _, .cons h r, q => .cons h (RelDs.append r q)
theorem RelDs.take : ∀ {ds : List D} {vs : List V} (n : Nat), RelDs K ι H ds vs → RelDs K ι H (ds.take n) (vs.take n)
  | _, _, 0, _ => by simpa using RelDs.nil
  | _, _, _ + 1, .nil => by simpa using RelDs.nil
  | _, _, n + 1, .cons h r => .cons h (RelDs.take n r)
theorem RelDs.drop : ∀ {ds : List D} {vs : List V} (n : Nat), RelDs K ι H ds vs → RelDs K ι H (ds.drop n) (vs.drop n)
  | _, _, 0, q => q
  | _, _, _ + 1, .nil => by simpa using RelDs.nil
  | _, _, n + 1, .cons _ r => RelDs.drop n r
theorem RelDs.erase : ∀ {ds : List D} {vs : List V} (n : Nat), RelDs K ι H ds vs → RelDs K ι H (ds.eraseIdx n) (vs.eraseIdx n)
  | _, _, _, .nil => by simpa using RelDs.nil
  | _, _, 0, .cons _ r => r
  | _, _, n + 1, .cons h r => .cons h (RelDs.erase n r)
theorem RelDs.set {d : D} {v : V} (h : RelD K ι H d v) : ∀ {ds : List D} {vs : List V} (i : Nat), RelDs K ι H ds vs → RelDs K ι H (ds.set i d) (vs.set i v)
  | _, _, _, .nil => .nil
  | _, _, 0, .cons _ r => .cons h r
  | _, _, i + 1, .cons q r => .cons q (RelDs.set h i r)
theorem RelDs.reverse : ∀ {ds : List D} {vs : List V}, RelDs K ι H ds vs → RelDs K ι H ds.reverse vs.reverse
  | _, _, .nil => .nil
  | _, _, .cons h r => by
    rw [List.reverse_cons, List.reverse_cons]
    exact RelDs.append (RelDs.reverse r) (.cons h .nil)
theorem RelDs.ints {ns : List Int} : ∀ {vs : List V}, RelDs K ι H (ns.map D.int) vs → vs = ns.map V.int := by
  induction ns with
  | nil => intro vs h; cases h; rfl
  | cons n r ih =>
    intro vs h
    cases h with
    | cons a b => cases a; rw [ih b]; rfl
theorem RelDs.of_ints (ns : List Int) : RelDs K ι H (ns.map D.int) (ns.map V.int) := by
  induction ns with
  | nil => exact .nil
  | cons n r ih => exact .cons (.int n) ih

theorem SqF.seq {a : Addr} {vs : List V} (h : SqF K H a vs) : SqL K H a vs := by
  rcases h with ⟨o, h⟩ | h
  · exact .inl (.inr ⟨o, h⟩)
  · exact .inr h

/-- a tuple stays when a new object is laid -/
theorem SqT.laid {p : Addr} {o : HO} (hp : H p = none) {a : Addr} {vs : List V} (h : SqT K H a vs) : SqT K (upd H p o) a vs := by
  rcases h with (h | ⟨x, h⟩) | h
  · exact .inl (.inl (by rw [upd_ne (ne_of_none h hp)]; exact h))
  · exact .inl (.inr ⟨x, by rw [upd_ne (ne_of_none h hp)]; exact h⟩)
  · exact .inr h
theorem SqF.laid {p : Addr} {o : HO} (hp : H p = none) {a : Addr} {vs : List V} (h : SqF K H a vs) : SqF K (upd H p o) a vs := by
  rcases h with ⟨x, h⟩ | h
  · exact .inl ⟨x, by rw [upd_ne (ne_of_none h hp)]; exact h⟩
  · exact .inr h
/-- .. and when a list or an instance is written -/
theorem SqT.wrote {p : Addr} {o u : HO} (hp : H p = some u) (hu : Mut (some u)) {a : Addr} {vs : List V} (h : SqT K H a vs) : SqT K (upd H p o) a vs := by
  rcases h with (h | ⟨x, h⟩) | h
  · exact .inl (.inl (by rw [upd_ne (ne_of h hp (fun e => by rw [← e] at hu; exact hu))]; exact h))
  · exact .inl (.inr ⟨x, by rw [upd_ne (ne_of h hp (fun e => by rw [← e] at hu; exact hu))]; exact h⟩)
  · exact .inr h
theorem SqF.wrote {p : Addr} {o u : HO} (hp : H p = some u) (hu : Mut (some u)) {a : Addr} {vs : List V} (h : SqF K H a vs) : SqF K (upd H p o) a vs := by
  rcases h with ⟨x, h⟩ | h
  · exact .inl ⟨x, by rw [upd_ne (ne_of h hp (fun e => by rw [← e] at hu; exact hu))]; exact h⟩
  · exact .inr h

theorem Ext.laid {p : Addr} {o : HO} (hp : H p = none) : Ext K ι H ι (upd H p o) := ⟨fun _ _ h => h, fun _ _ h => SqT.laid hp h⟩
theorem Ext.push {p q : Addr} {o : HO} (hp : H p = none) : Ext K ι H (ι ++ [q]) (upd H p o) :=
  ⟨fun l a h => by rw [List.getElem?_append_left (List.getElem?_eq_some_iff.mp h).1]; exact h, fun _ _ h => SqT.laid hp h⟩
theorem Ext.wrote {p : Addr} {o u : HO} (hp : H p = some u) (hu : Mut (some u)) : Ext K ι H ι (upd H p o) := ⟨fun _ _ h => h, fun _ _ h => SqT.wrote hp hu h⟩

/-- a new object that the store does not know is laid -/
theorem Rep.laid (R : Rep K ca ι S H) {p : Addr} {o : HO} (hp : H p = none) : Rep K ca ι S (upd H p o) where
  len := R.len
  obj := fun l ob a h1 h2 => by
    have x : Ext K ι H ι (upd H p o) := Ext.laid hp
    cases R.obj l ob a h1 h2 with
    | lst e r => exact .lst (by rw [upd_ne (ne_of_none e hp)]; exact e) (r.mono x)
    | rol e r => exact .rol (SqF.laid hp e) (r.mono x)
    | ins e f r => exact .ins (by rw [upd_ne (ne_of_none e hp)]; exact e) (by rw [upd_ne (ne_of_none f hp)]; exact f) (r.mono x)
  inj := R.inj
/-- the mutable objects of the store are tracked -/
theorem Rep.there (R : Rep K ca ι S H) {l : Nat} {o : O} {a : Addr} (h1 : S[l]? = some o) (h2 : ι[l]? = some a) (m : o.mut = true) : ∃ u, H a = some u ∧ Mut (some u) := by
  cases R.obj l o a h1 h2 with
  | lst e r => exact ⟨_, e, trivial⟩
  | rol e r => cases m
  | ins e f r => exact ⟨_, e, trivial⟩
/-- a new list is laid, the store knows it -/
theorem Rep.pushLst (R : Rep K ca ι S H) {p : Addr} (hp : H p = none) {ds : List D} {vs : List V} (r : RelDs K ι H ds vs) : Rep K ca (ι ++ [p]) (S ++ [.lst ds]) (upd H p (.lst vs)) where
  len := by simp [R.len]
  obj := fun l ob a h1 h2 => by
    have x : Ext K ι H (ι ++ [p]) (upd H p (.lst vs)) := Ext.push hp
    by_cases hl : l < S.length
    · rw [List.getElem?_append_left hl] at h1
      rw [List.getElem?_append_left (by rw [R.len]; exact hl)] at h2
      cases R.obj l ob a h1 h2 with
      | lst e r => exact .lst (by rw [upd_ne (ne_of_none e hp)]; exact e) (r.mono x)
      | rol e r => exact .rol (SqF.laid hp e) (r.mono x)
      | ins e f r => exact .ins (by rw [upd_ne (ne_of_none e hp)]; exact e) (by rw [upd_ne (ne_of_none f hp)]; exact f) (r.mono x)
    · rw [List.getElem?_append_right (by omega)] at h1
      rw [List.getElem?_append_right (by rw [R.len]; omega)] at h2
      obtain ⟨_, e1⟩ := List.getElem?_eq_some_iff.mp h1
      obtain ⟨_, e2⟩ := List.getElem?_eq_some_iff.mp h2
      simp at e1 e2
      subst e1 e2
      exact .lst upd_same (r.mono x)
  inj := fun l m o o' a h1 h2 m1 m2 h3 h4 => by
    have key : ∀ {l : Nat} {o : O}, (S ++ [O.lst ds])[l]? = some o → o.mut = true → (ι ++ [p])[l]? = some a → (l < S.length ∧ S[l]? = some o ∧ ι[l]? = some a ∧ a ≠ p) ∨ (l = S.length ∧ a = p) := fun {l o} h1 m1 h3 => by
      by_cases hl : l < S.length
      · rw [List.getElem?_append_left hl] at h1
        rw [List.getElem?_append_left (by rw [R.len]; exact hl)] at h3
        obtain ⟨u, e, _⟩ := R.there h1 h3 m1
        exact .inl ⟨hl, h1, h3, ne_of_none e hp⟩
      · have hz := (List.getElem?_eq_some_iff.mp h1).1
        rw [List.length_append, List.length_singleton] at hz
        have : l = S.length := by omega
        rw [List.getElem?_append_right (by rw [R.len]; omega), this, R.len] at h3
        simp at h3
        exact .inr ⟨this, h3.symm⟩
    rcases key h1 m1 h3 with ⟨_, a1, a2, a3⟩ | ⟨a1, a2⟩ <;> rcases key h2 m2 h4 with ⟨_, b1, b2, b3⟩ | ⟨b1, b2⟩
    · exact R.inj l m o o' a a1 b1 m1 m2 a2 b2
    · exact absurd b2 a3
    · exact absurd a2 b3
    · rw [a1, b1]
/-- a list of the store is written -/
theorem Rep.setLst (R : Rep K ca ι S H) {l : Nat} {a : Addr} {ds0 ds : List D} {vs : List V} (h1 : S[l]? = some (.lst ds0)) (h2 : ι[l]? = some a) (r : RelDs K ι H ds vs) : Rep K ca ι (S.set l (.lst ds)) (upd H a (.lst vs)) := by
  obtain ⟨u, hu, mu⟩ := R.there h1 h2 rfl
  have hl : l < S.length := (List.getElem?_eq_some_iff.mp h1).1
  have x : Ext K ι H ι (upd H a (.lst vs)) := Ext.wrote hu mu
  have low : ∀ {m : Nat} {o : O}, (S.set l (.lst ds))[m]? = some o → (m = l ∧ o = .lst ds) ∨ (m ≠ l ∧ S[m]? = some o) := fun {m o} h => by
    by_cases e : m = l
    · subst e
      rw [List.getElem?_set_self hl] at h
      exact .inl ⟨rfl, (Option.some.inj h).symm⟩
    · rw [List.getElem?_set_ne (Ne.symm e)] at h
      exact .inr ⟨e, h⟩
  refine ⟨by rw [List.length_set]; exact R.len, fun m ob b h3 h4 => ?_, fun m n o o' b h3 h4 m1 m2 h5 h6 => ?_⟩
  · rcases low h3 with ⟨e1, e2⟩ | ⟨e1, e2⟩
    · subst e1 e2
      rw [h2] at h4
      cases h4
      exact .lst upd_same (r.mono x)
    · have ne : ∀ w, H b = some w → ob.mut = true → b ≠ a := fun w hw hm z => by
        subst z
        exact e1 (R.inj m l ob (.lst ds0) b e2 h1 hm rfl h4 h2)
      cases R.obj m ob b e2 h4 with
      | lst e r => exact .lst (by rw [upd_ne (ne _ e rfl)]; exact e) (r.mono x)
      | rol e r => exact .rol (SqF.wrote hu mu e) (r.mono x)
      | @ins c fs gs _ dx e f r =>
        exact .ins (by rw [upd_ne (ne _ e rfl)]; exact e) (by rw [upd_ne (fun z => by subst z; rw [hu] at f; cases f; exact mu)]; exact f) (r.mono x)
  · rcases low h3 with ⟨e1, e2⟩ | ⟨e1, e2⟩ <;> rcases low h4 with ⟨f1, f2⟩ | ⟨f1, f2⟩
    · rw [e1, f1]
    · subst e1
      exact R.inj m n (.lst ds0) o' b h1 f2 rfl m2 h5 h6
    · subst f1
      exact R.inj m n o (.lst ds0) b e2 h1 m1 rfl h5 h6
    · exact R.inj m n o o' b e2 f2 m1 m2 h5 h6
/-- a new instance: its dict at dx, it at p -/
theorem Ext.pushIns {p dx q : Addr} {o o' : HO} (hp : H p = none) (hd : H dx = none) : Ext K ι H (ι ++ [q]) (upd (upd H dx o) p o') :=
  ⟨fun l a h => by rw [List.getElem?_append_left (List.getElem?_eq_some_iff.mp h).1]; exact h, fun a vs h => by
    by_cases e : p = dx
    · subst e
      have : upd (upd H p o) p o' = upd H p o' := by
        funext b
        by_cases hb : b = p
        · rw [hb, upd_same, upd_same]
        · rw [upd_ne hb, upd_ne hb, upd_ne hb]
      rw [this]
      exact SqT.laid hp h
    · exact SqT.laid (by rw [upd_ne e]; exact hp) (SqT.laid hd h)⟩
theorem Rep.pushIns (R : Rep K ca ι S H) {c : Nat} {p dx : Addr} (hp : H p = none) (hd : H dx = none) (ne : dx ≠ p) : Rep K ca (ι ++ [p]) (S ++ [.ins c []]) (upd (upd H dx (.own p)) p (.ins (ca c) dx [])) where
  len := by simp [R.len]
  obj := fun l ob a h1 h2 => by
    have R1 : Rep K ca ι S (upd H dx (.own p)) := R.laid hd
    have hp1 : (upd H dx (.own p)) p = none := by rw [upd_ne (Ne.symm ne)]; exact hp
    have R2 : Rep K ca ι S (upd (upd H dx (.own p)) p (.ins (ca c) dx [])) := R1.laid hp1
    by_cases hl : l < S.length
    · rw [List.getElem?_append_left hl] at h1
      rw [List.getElem?_append_left (by rw [R.len]; exact hl)] at h2
      have x : Ext K ι (upd (upd H dx (.own p)) p (.ins (ca c) dx [])) (ι ++ [p]) (upd (upd H dx (.own p)) p (.ins (ca c) dx [])) := ⟨fun l a h => by rw [List.getElem?_append_left (List.getElem?_eq_some_iff.mp h).1]; exact h, fun _ _ h => h⟩
      cases R2.obj l ob a h1 h2 with
      | lst e r => exact .lst e (r.mono x)
      | rol e r => exact .rol e (r.mono x)
      | ins e f r => exact .ins e f (r.mono x)
    · rw [List.getElem?_append_right (by omega)] at h1
      rw [List.getElem?_append_right (by rw [R.len]; omega)] at h2
      obtain ⟨_, e1⟩ := List.getElem?_eq_some_iff.mp h1
      obtain ⟨_, e2⟩ := List.getElem?_eq_some_iff.mp h2
      simp at e1 e2
      subst e1 e2
      exact .ins upd_same (by rw [upd_ne ne, upd_same]) .nil
  inj := fun l m o o' a h1 h2 m1 m2 h3 h4 => by
    have key : ∀ {l : Nat} {o : O}, (S ++ [O.ins c []])[l]? = some o → o.mut = true → (ι ++ [p])[l]? = some a → (l < S.length ∧ S[l]? = some o ∧ ι[l]? = some a ∧ a ≠ p) ∨ (l = S.length ∧ a = p) := fun {l o} h1 m1 h3 => by
      by_cases hl : l < S.length
      · rw [List.getElem?_append_left hl] at h1
        rw [List.getElem?_append_left (by rw [R.len]; exact hl)] at h3
        obtain ⟨u, e, _⟩ := R.there h1 h3 m1
        exact .inl ⟨hl, h1, h3, ne_of_none e hp⟩
      · have hz := (List.getElem?_eq_some_iff.mp h1).1
        rw [List.length_append, List.length_singleton] at hz
        have : l = S.length := by omega
        rw [List.getElem?_append_right (by rw [R.len]; omega), this, R.len] at h3
        simp at h3
        exact .inr ⟨this, h3.symm⟩
    rcases key h1 m1 h3 with ⟨_, a1, a2, a3⟩ | ⟨a1, a2⟩ <;> rcases key h2 m2 h4 with ⟨_, b1, b2, b3⟩ | ⟨b1, b2⟩
    · exact R.inj l m o o' a a1 b1 m1 m2 a2 b2
    · exact absurd b2 a3
    · exact absurd a2 b3
    · rw [a1, b1]
def putD (f : Str) (v : D) : List (Str × D) → List (Str × D)
  | [] => [(f, v)]
  | (g, x) :: r => if g = f then (g, v) :: r else (g, x) :: putD f v r
theorem RelF.put {f : Str} {d : D} {v : V} (h : RelD K ι H d v) : ∀ {fs : List (Str × D)} {gs : List (Str × V)}, RelF K ι H fs gs → RelF K ι H (putD f d fs) (putF f v gs)
  | _, _, .nil => .cons h .nil
  | _, _, .cons (x := x) a r => by
    unfold putD putF
    by_cases e : x = f
    · rw [if_pos e, if_pos e]
      exact .cons h r
    · rw [if_neg e, if_neg e]
      exact .cons a (RelF.put h r)
theorem RelF.look {f : Str} {d : D} : ∀ {fs : List (Str × D)} {gs : List (Str × V)}, RelF K ι H fs gs → fs.lookup f = some d → ∃ v, gs.lookup f = some v ∧ RelD K ι H d v
  | _, _, .nil, h => by cases h
  | _, _, .cons (x := x) a r, h => by
    rw [List.lookup_cons] at h ⊢
    cases e : f == x with
    | true =>
      rw [e] at h
      cases h
      exact ⟨_, rfl, a⟩
    | false =>
      rw [e] at h
      exact RelF.look r h
theorem RelF.length : ∀ {fs : List (Str × D)} {gs : List (Str × V)}, RelF K ι H fs gs → fs.length = gs.length
  | _, _, .nil => rfl
  | _, _, .cons _ r => congrArg (· + 1) (RelF.length r)
/-- an instance of the store is written -/
theorem Rep.setIns (R : Rep K ca ι S H) {l c : Nat} {a dx : Addr} {fs0 fs : List (Str × D)} {gs0 gs : List (Str × V)} (h1 : S[l]? = some (.ins c fs0)) (h2 : ι[l]? = some a) (h3 : H a = some (.ins (ca c) dx gs0)) (h4 : H dx = some (.own a)) (r : RelF K ι H fs gs) : Rep K ca ι (S.set l (.ins c fs)) (upd H a (.ins (ca c) dx gs)) := by
  have hl : l < S.length := (List.getElem?_eq_some_iff.mp h1).1
  have mu : Mut (some (HO.ins (ca c) dx gs0)) := trivial
  have x : Ext K ι H ι (upd H a (.ins (ca c) dx gs)) := Ext.wrote h3 mu
  have low : ∀ {m : Nat} {o : O}, (S.set l (.ins c fs))[m]? = some o → (m = l ∧ o = .ins c fs) ∨ (m ≠ l ∧ S[m]? = some o) := fun {m o} h => by
    by_cases e : m = l
    · subst e
      rw [List.getElem?_set_self hl] at h
      exact .inl ⟨rfl, (Option.some.inj h).symm⟩
    · rw [List.getElem?_set_ne (Ne.symm e)] at h
      exact .inr ⟨e, h⟩
  refine ⟨by rw [List.length_set]; exact R.len, fun m ob b h5 h6 => ?_, fun m n o o' b h5 h6 m1 m2 h7 h8 => ?_⟩
  · rcases low h5 with ⟨e1, e2⟩ | ⟨e1, e2⟩
    · subst e1 e2
      rw [h2] at h6
      cases h6
      refine .ins upd_same ?_ (r.mono x)
      rw [upd_ne (fun z => by rw [z] at h4; rw [h3] at h4; cases h4)]
      exact h4
    · have ne : ∀ w, H b = some w → ob.mut = true → b ≠ a := fun w hw hm z => by
        subst z
        exact e1 (R.inj m l ob (.ins c fs0) b e2 h1 hm rfl h6 h2)
      cases R.obj m ob b e2 h6 with
      | lst e r => exact .lst (by rw [upd_ne (ne _ e rfl)]; exact e) (r.mono x)
      | rol e r => exact .rol (SqF.wrote h3 mu e) (r.mono x)
      | ins e f r => exact .ins (by rw [upd_ne (ne _ e rfl)]; exact e) (by rw [upd_ne (fun z => by rw [z] at f; rw [h3] at f; cases f)]; exact f) (r.mono x)
  · rcases low h5 with ⟨e1, e2⟩ | ⟨e1, e2⟩ <;> rcases low h6 with ⟨f1, f2⟩ | ⟨f1, f2⟩
    · rw [e1, f1]
    · subst e1
      exact R.inj m n (.ins c fs0) o' b h1 f2 rfl m2 h7 h8
    · subst f1
      exact R.inj m n o (.ins c fs0) b e2 h1 m1 rfl h7 h8
    · exact R.inj m n o o' b e2 f2 m1 m2 h7 h8
/-- what an instance of the store is -/
def insAt (d : D) (S : Store) : Option (Nat × List (Str × D)) := match d with
  | .ref l => (match S[l]? with
    | some (.ins c fs) => some (c, fs)
    | _ => none)
  | _ => none
theorem Rep.ins (R : Rep K ca ι S H) {d : D} {c : Nat} {fs : List (Str × D)} {v : V} (h : insAt d S = some (c, fs)) (r : RelD K ι H d v) : ∃ l a dx gs, d = .ref l ∧ S[l]? = some (.ins c fs) ∧ v = .ref a ∧ ι[l]? = some a ∧ H a = some (.ins (ca c) dx gs) ∧ H dx = some (.own a) ∧ RelF K ι H fs gs := by
  unfold insAt at h
  split at h
  · rename_i l
    split at h
    · rename_i c' fs' e
      cases h
      cases r with
      | ref e1 =>
        cases R.obj l _ _ e e1 with
        | ins e2 e3 e4 => exact ⟨l, _, _, _, rfl, e, rfl, e1, e2, e3, e4⟩
    · cases h
  · cases h
/-- what a list of the store is -/
theorem Rep.lst (R : Rep K ca ι S H) {l : Nat} {ds : List D} {v : V} (h : S[l]? = some (.lst ds)) (r : RelD K ι H (.ref l) v) : ∃ a vs, v = .ref a ∧ ι[l]? = some a ∧ H a = some (.lst vs) ∧ RelDs K ι H ds vs := by
  cases r with
  | ref e =>
    cases R.obj l _ _ h e with
    | lst q r => exact ⟨_, _, rfl, e, q, r⟩
/-- the items of a list or of a list that stays -/
def seqAt (S : Store) (l : Nat) : Option (List D) := match S[l]? with
  | some (.lst ds) => some ds
  | some (.rol ds) => some ds
  | _ => none
theorem Rep.seq (R : Rep K ca ι S H) {l : Nat} {ds : List D} {v : V} (h : seqAt S l = some ds) (r : RelD K ι H (.ref l) v) : ∃ a vs, v = .ref a ∧ SqL K H a vs ∧ RelDs K ι H ds vs := by
  cases r with
  | ref e =>
    unfold seqAt at h
    cases q : S[l]? with
    | none => rw [q] at h; cases h
    | some o =>
      rw [q] at h
      cases R.obj l _ _ q e with
      | lst z r => cases h; exact ⟨_, _, rfl, SqL.of z, r⟩
      | rol z r => cases h; exact ⟨_, _, rfl, z.seq, r⟩
      | ins z f r => cases h
end
end CC
/-! What an except suite says of the caught error: which classes it is of, its value, in a list. -/
namespace CC
open PySem
inductive Hi where
  | bl (b : Bool) | str (s : Str) | val
inductive HV where
  | one (h : Hi) | lst (hs : List Hi)
mutual
inductive Hx where
  | isE (ns : List Str) | val | var (i : Nat) | str (s : Str) | orE (a b : Hx) | notE (a : Hx) | ite (c a b : Hx) | rep (s : Str) (a : Hx) | add (a b : Hx) | lst (xs : Hxs)
inductive Hxs where
  | nil | cons (a : Hx) (r : Hxs)
end
inductive Hs where
  | set (j : Nat) (a : Hx) (r : Hs) | ret (a : Hx)
/-- the own errors by number -/
def exNames : List Str := ["ChainError", "InvalidNumber", "InvalidPoint", "Bent", "NotPair", "NotOne", "InvalidPrime", "TooFar", "NothingToUndo", "Unreadable"]
def exNm (c : Nat) : Str := (exNames[c - 500000]?).getD ""
/-- class nm is class n, or lies under it -/
def isSub (nm n : Str) : Bool := decide (n = nm) || decide (n = ("ChainError" : Str)) || decide (n = ("ValueError" : Str))
mutual
def hev (nm : Str) (ρ : List (Option HV)) : Hx → Option HV
  | .isE ns => some (.one (.bl (ns.any (isSub nm))))
  | .val => some (.one .val)
  | .var i => (match ρ[i]? with
    | some (some h) => some h
    | _ => none)
  | .str s => some (.one (.str s))
  | .orE a b => (match hev nm ρ a with
    | some (.one (.bl true)) => some (.one (.bl true))
    | some (.one (.bl false)) => hev nm ρ b
    | _ => none)
  | .notE a => (match hev nm ρ a with
    | some (.one (.bl b)) => some (.one (.bl (!b)))
    | _ => none)
  | .ite c a b => (match hev nm ρ c with
    | some (.one (.bl true)) => hev nm ρ a
    | some (.one (.bl false)) => hev nm ρ b
    | _ => none)
  | .rep s a => (match hev nm ρ a with
    | some (.one (.bl true)) => some (.one (.str s))
    | some (.one (.bl false)) => some (.one (.str Str.empty))
    | _ => none)
  | .add a b => (match hev nm ρ a, hev nm ρ b with
    | some (.one (.str x)), some (.one (.str y)) => if x.length + y.length ≤ 1000 then some (.one (.str (x ++ y))) else none
    | some (.lst x), some (.lst y) => if x.length + y.length ≤ 1000 then some (.lst (x ++ y)) else none
    | _, _ => none)
  | .lst xs => (match hevs nm ρ xs with
    | some hs => if hs.length ≤ 1000 then some (.lst hs) else none
    | none => none)
def hevs (nm : Str) (ρ : List (Option HV)) : Hxs → Option (List Hi)
  | .nil => some []
  | .cons a r => (match hev nm ρ a, hevs nm ρ r with
    | some (.one h), some hs => some (h :: hs)
    | _, _ => none)
end
/-- what the suite's list holds -/
def hgo (nm : Str) (ρ : List (Option HV)) : Hs → Option (List Hi)
  | .set j a r => (match hev nm ρ a with
    | some h => hgo nm (ρ.set j (some h)) r
    | none => none)
  | .ret a => (match hev nm ρ a with
    | some (.lst hs) => some hs
    | _ => none)
def hiD (d : D) : Hi → D
  | .bl b => .bl b
  | .str s => .str s
  | .val => d
end CC
/-! An own exception made: its __init__ says super().__init__(value), then self.value = value. -/
namespace CX
open PySem PySem.Spec PyProof.Rows PySem.W PySem.Calls
section
variable {prog : Program} {w : World} {A : Around} {E : Value → Shared → Prop} {h : Heap} {g : Array GenState} {d : Drawn} {t : Nat} {os : OsState}
variable {nm q : Str} {C N : Addr} {bs bm : List Value} {hdct : Bool} {sn : List Str} {sub : List Value} {ab : Bool} {col : Option Bool} {dd : Option Addr} {k0 k1 k2 k3 k5 : Option Value}
theorem call_mw {u e t0 : Addr} {rest : List Value} {Q : Value → Shared → Prop}
    (hC : h.get? C = some (excClassObj nm q C N bs bm hdct sn sub ab col dd k0 k1 k2 k3 k5 "ValueError.__new__")) (he : h.get? e = some (HandSPX.excO C t0)) (hu : h.get? u = some (kxs_mw "ValueError.__init__" e)) (hrest : rest.length ≤ sizeLine)
    (hq : ∀ h' t1, (∀ b o, b ≠ e → h.get? b = some o → h'.get? b = some o) → h'.get? e = some (HandSPX.excO C t1) → Q .none ⟨h', g, d, t, os⟩) :
    wpAny (model prog w) A (call (.ref u) rest) Q E ⟨h, g, d, t, os⟩ := by
  refine wpAny_call (codeAny_of_tree ?_)
  show wpAny _ A.in1 (callAny (.ref u) ⟨rest, []⟩) _ _ _
  simp only [callAny]
  refine wpAny_bind (wpAny_load hu ?_)
  simp only [kxs_mw, show (Value.type "method-wrapper" == Value.type "method" || Value.type "method-wrapper" == Value.type "builtin_function_or_method" || Value.type "method-wrapper" == Value.type "method-wrapper") = true by decide, if_true]
  refine W.KFB.if_so (by decide) ?_
  refine wpAny_bind (ESX.check_bound F.excBase_ValueError hC he rfl ?_)
  refine wpAny_bind (wpAny_pure (wpAny_pure ?_))
  refine ⟨Code.quiet_builtin _ (by decide +kernel), codeAny_builtin F.excBase_ValueError.initEntry ?_⟩
  rw [Around.under_plainId F.excBase_ValueError.init.plain _]
  wp_walk
  refine hq _ h.objs.size (fun b o hb ho => ?_) ?_
  · rw [Heap.get?_update_other _ _ (Ne.symm hb)]
    exact Heap.get?_push_of_some _ ho
  · rw [Heap.get?_update_self _ (Heap.get?_push_of_some _ he) rfl]
    rfl
end

/-- the __init__'s record -/
abbrev initFn (fn fq : Str) (q1 q2 : Pos) (p0 p1 p2 p3 p4 p5 p6 p7 p8 p9 : Pos) (names : List (Str × NameKind)) (more : List (Str × Const)) (cc : Addr) (doc pm : Value) (an : Option Addr) (cda : Addr) (ct : Value) : FuncData :=
  { name := fn, qualname := fq, params := { posonlyargs := [], args := [{ arg := "self", annotation := none, pos := q1 }, { arg := "value", annotation := none, pos := q2 }], vararg := none, kwonlyargs := [], kw_defaults := [], kwarg := none, defaults := [] },
    body := .stmts [.Expr (.Call (.Attribute (.Call (.Name "super" p0) [] [] p1) "__init__" p2) [.Name "value" p3] [] p4) p5, .Assign [.Attribute (.Name "self" p6) "value" p7] (.Name "value" p8) p9],
    scope := { kind := .function, names := names, isGenerator := false, isCoroutine := false, more := more }, globals := mainGlobals, closure := [("__class__", cc)], defaults := .none, kwdefaults := .none, doc := doc, pyModule := pm, annotations := an, code := .ref cda, closureTuple := ct, builtins := builtinsNs }
/-- what the written part says of the class and of the __init__ that it has -/
structure ExcF (K : Frag) (prog : Program) (C fI : Addr) : Prop where
  cls : ∃ nm q N bs bm sn sub ab col dd k0 k1 k2 k3 k5, K.lookup C = some (excClassObj nm q C N bs bm true sn sub ab col dd k0 k1 k2 k3 k5 "ValueError.__new__") ∧ HandSPX.refsVE bm = true
  sa : findIn K (.ref C) "__setattr__" = some (some (.builtin "object.__setattr__"))
  ini : findIn K (.ref C) "__init__" = some (some (.ref fI))
  typ : typeIn K (.ref fI) = some (.type "function")
  noV : findIn K (.ref C) "value" = some none
  hlp : nsIn K cStatics "thirdparty.any" = some none
  isV : subIn K (.ref C) (.type "ValueError") = some true
  fn : ∃ (oc : Value) (od : Option Addr) (osl : Array (Option Value)) (fn fq : Str) (q1 q2 p0 p1 p2 p3 p4 p5 p6 p7 p8 p9 : Pos) (names : List (Str × NameKind)) (more : List (Str × Const)) (cc : Addr) (doc pm : Value) (an : Option Addr) (cda : Addr) (ct : Value) (D : Addr) (ccl cl : Value) (cdd cld : Option Addr) (ccs csl : Array (Option Value)) (vs : Array Value) (file : Str) (tf : Tok) (cdD : ClassData),
    K.lookup fI = some ⟨oc, od, .func (initFn fn fq q1 q2 p0 p1 p2 p3 p4 p5 p6 p7 p8 p9 names more cc doc pm an cda ct), osl⟩ ∧ (p2.endLine == p4.line) = true ∧ codeIn K (.ref cda) fq = true ∧
    (∀ x ∈ names, x.2 ≠ .cell) ∧ names.lookup ("super" : Str) = some .globalImplicit ∧ names.lookup ("__class__" : Str) = some .free ∧ names.lookup ("self" : Str) = some .local ∧ names.lookup ("value" : Str) = some .local ∧
    K.lookup cda = some ⟨ccl, cdd, .fields vs, ccs⟩ ∧ vs[2]? = some (.str file tf) ∧ ((prog.main.file : Str) == file) = true ∧ (prog.main.scope.names.lookup ("super" : Str)).isSome = false ∧
    K.lookup cc = some ⟨cl, cld, .cell (some (.ref D)), csl⟩ ∧ clsIn K D = some cdD ∧ mroIn K C (.ref D) = some true ∧ ks_superIn K C D "__init__" = some (some (.builtin "ValueError.__init__")) ∧ nsIn K mainGlobals "super" = some none

theorem one_size (v : Value) : [v].length ≤ sizeLine := by
  rw [sizeLine_eq]
  exact (by decide : 1 ≤ 16777216)
section
variable {prog : Program} {w : World} {A : Around} {R : Result → Shared → Prop} {hp : Heap} {g : Array GenState} {d : Drawn} {t : Nat} {os : OsState} {K : Frag} {mg mb : Str → Option Value}
theorem init_raw {C fI e t0 : Addr} {v : Value} (T : ExcF K prog C fI) (X : K.In hp) (hg : hp.Ns mainGlobals mg) (hb : hp.Ns builtinsNs mb) (hbb : ∀ x : Str, x ≠ "__name__" → mb x = bootBuiltins x) (hlim : hp.NoLimit) (hroom : A.depth < recursionLimit)
    (he : hp.get? e = some (HandSPX.excO C t0)) (hke : K.lookup e = none)
    (hq : ∀ h' tk' dx t1, (∀ b o, b ≠ e → hp.get? b = some o → h'.get? b = some o) → hp.objs.size ≤ dx → dx ≠ e → h'.get? e = some { cls := .ref C, dict := some dx, data := .fields #[.ref t1, .none, .none, .none, .bool false, .none] } →
      h'.Ns1 dx (fun y => if y = "value" then some v else none) → R (.ok (.ret .none)) ⟨h', g, d, tk', os⟩) :
    codeAny (model prog w) A (.call (.ref fI) ⟨[.ref e, v], []⟩) R ⟨hp, g, d, t, os⟩ := by
  obtain ⟨oc, od, osl, fn, fq, q1, q2, p0, p1, p2, p3, p4, p5, p6, p7, p8, p9, names, more, cc, doc, pm, an, cda, ct, D, ccl, cl, cdd, cld, ccs, csl, vs, file, tf, cdD, f1, fln, f4, f8, f12, f13, f14, f15, f19, f20, f21, f22, f23, f24, f25, f26, f27⟩ := T.fn
  obtain ⟨cnm, cq, cN, cbs, cbm, csn, csub, cab, ccol, cdd2, k0, k1, k2, k3, k5, hC, hbm⟩ := T.cls
  refine ks_codeAny_call_defAt (fd := initFn fn fq q1 q2 p0 p1 p2 p3 p4 p5 p6 p7 p8 p9 names more cc doc pm an cda ct) (binds := [("self", .ref e), ("value", v)]) hroom (X _ _ f1) rfl hlim (codeRec_of X f4) rfl (BindsTo.of_eq rfl) f8 (fun x hx => ?_) (fun h₀ hns hk0 => ?_) rfl rfl rfl
  · simp only [List.mem_cons, List.not_mem_nil, or_false] at hx
    rcases hx with rfl | rfl
    · exact f14
    · exact f15
  have el : hp.objs.size ≠ e := Nat.ne_of_gt (Heap.lt_size he)
  have he0 := hk0 _ _ he
  have X0 : K.In h₀ := X.keeps hk0
  have hlt : hp.objs.size < h₀.objs.size := hns.lt
  generalize hL : hp.objs.size = L at hns el hlt ⊢
  have hcl : clsIn K C = some { name := cnm, bases := cbs, mro := .ref C :: cbm, ns := cN, qualname := cq, hasDict := true, slotNames := csn, subclasses := csub, abstract := cab, collection := ccol, hasDel := false } := by unfold clsIn; rw [hC] <;> rfl
  obtain ⟨oD, hD1, hD2⟩ : ∃ oD, h₀.get? D = some oD ∧ oD.data = .cls cdD := by
    unfold clsIn at f24
    split at f24
    · rename_i c d cd' sl ho
      cases f24
      exact ⟨_, X0 _ _ ho, rfl⟩
    · cases f24
  refine ks_wpAt_execs_cons (ks_wpAt_Expr_any ?_ rfl rfl)
  generalize hE : callEnv (initFn fn fq q1 q2 p0 p1 p2 p3 p4 p5 p6 p7 p8 p9 names more cc doc pm an cda ct) L fI = env at hns ⊢
  have hmp : methodCallPos true (.Call (.Name "super" p0) [] [] p1) env p2 p4 = pure p4 := by
    unfold methodCallPos
    rw [fln]
    rfl
  have hme : eval (.Call (.Attribute (.Call (.Name "super" p0) [] [] p1) "__init__" p2) [.Name "value" p3] [] p4) env = (do
      let ov ← attributeBase (.Call (.Name "super" p0) [] [] p1) "__init__" env (eval (.Call (.Name "super" p0) [] [] p1) env)
      standAt p2.atName
      let (f, first) ← holding [ov] (getMethod ov "__init__" (do return (← importBound (.Call (.Name "super" p0) [] [] p1) env).getD true))
      callWith p4 f first (backTo p4 (starEach [.Name "value" p3] env)) []) := by
    show (do
      let ov ← attributeBase (.Call (.Name "super" p0) [] [] p1) "__init__" env (eval (.Call (.Name "super" p0) [] [] p1) env)
      standAt p2.atName
      let (f, first) ← holding [ov] (getMethod ov "__init__" (do return (← importBound (.Call (.Name "super" p0) [] [] p1) env).getD true))
      let cp ← methodCallPos true (.Call (.Name "super" p0) [] [] p1) env p2 p4
      callWith cp f first (backTo p4 (starEach [.Name "value" p3] env)) []) = _
    rw [hmp]
    rfl
  subst hE
  refine ks_wpAt_MethodCall ?_ hme
  refine ks_wpAt_super_base f12 f13 (by decide) rfl (X0 _ _ f1) rfl rfl rfl (X0 _ _ f19) rfl f20 f21 f22 ?_
  refine ks_loadName_global rfl f12 (loadGlobal_builtin (hg.keeps hk0) (mg_none_of X hg f27) (hb.keeps hk0) ((hbb _ (by decide +kernel)).trans (by first | rfl | kernel_rfl)) ⟨rfl, ?_⟩)
  refine wpAny_loadName_free rfl f13 rfl ⟨_, X0 _ _ f23, rfl⟩ ?_
  refine wpAny_loadName_local rfl f14 hns (by rfl) ?_
  refine ks_wpAny_isType_cls hD1 hD2 ⟨rfl, ?_⟩
  refine ks_wpAny_call_super hD1 hD2 he0 rfl (fun c z => nomatch z) (looks_mroIn X0 f25) (fun h1 ho1 hk1 => ?_)
  have X1 : K.In h1 := X0.keeps hk1
  have he1 := hk1 _ _ he0
  have hIs : Looks (model prog w) h1 (isInstance (.ref e) (.type "ValueError")) true := (show Looks (model prog w) h1 (typeOf (.ref e)) (.ref C) from fun A Q E s k q => wpAny_typeOf_ref (k _ _ he1) q).andThen (looks_subIn X1 T.isV)
  have f26' := f26
  unfold ks_superIn at f26'
  rw [hcl] at f26'
  have heC : e ≠ C := fun z => by rw [z, hC] at hke; cases hke
  refine kxs_getMethod kxs_ValueError ho1 (looks_opaque X1 T.hlp) (l₀ := .ref C :: cbm) (fun A Q E s k q => wpAny_bind ((looks_clsIn X1 hcl) A _ E s k (wpAny_pure q))) rfl X1 f26' hIs heC (by decide) ?_
  have hE0 : starEach [.Name "value" p3] (callEnv (initFn fn fq q1 q2 p0 p1 p2 p3 p4 p5 p6 p7 p8 p9 names more cc doc pm an cda ct) L fI) = [(false, eval (.Name "value" p3) (callEnv (initFn fn fq q1 q2 p0 p1 p2 p3 p4 p5 p6 p7 p8 p9 names more cc doc pm an cda ct) L fI))] := rfl
  rw [hE0]
  refine kxs_callWith (i := "ValueError.__init__") (x := e) rfl ?_
  obtain ⟨oL, es, ep, hL0, hr0⟩ := hns
  refine evalArgs_plain (spliced_cons (ldc (v := v) rfl f15 ⟨oL, es, ep, Heap.get?_push_of_some _ (hk1 _ _ hL0), hr0⟩ (by rfl) ?_))
  refine wpAny_pure ?_
  have hk2 : ∀ b o, hp.get? b = some o → (h1.push (kxs_mw "ValueError.__init__" e)).get? b = some o := fun b o z => Heap.get?_push_of_some _ (hk1 _ _ (hk0 _ _ z))
  refine ⟨Heap.get?_push_at rfl rfl, call_mw (hk2 _ _ (X _ _ hC)) (hk2 _ _ he) (Heap.get?_push_at rfl rfl) (one_size v) (fun h2 t1 k2 e2 => ?_)⟩
  have Xe : ∀ b o, K.lookup b = some o → b ≠ e := fun b o z y => by rw [y, hke] at z; cases z
  have X2 : K.In h2 := fun b o z => k2 b o (Xe b o z) (hk2 b o (X b o z))
  have hL2 : h2.get? L = some oL := k2 _ _ el (Heap.get?_push_of_some _ (hk1 _ _ hL0))
  show _root_.PySem.wpAt _ _ _ (execs _ _) _ _ _
  refine ks_wpAt_execs_cons (ks_wpAt_Assign_Attr (wpAt_of_wpAny ?_) rfl)
  refine ldc (v := v) rfl f15 ⟨oL, es, ep, hL2, hr0⟩ (by rfl) (ldc (v := .ref e) rfl f14 ⟨oL, es, ep, hL2, hr0⟩ (by rfl) ?_)
  refine set_plain X2 (ox := HandSPX.excO C t1) (od := none) ⟨e2, rfl, rfl, trivial⟩ T.sa ?_
  refine HandSPX.exc_osa X2 e2 hcl (show HandSPX.refsVE (.ref C :: cbm) = true from hbm) rfl T.noV (fun h₃ tk₃ dx k₃ dn dne hx₃ hn₃ => ?_)
  show _root_.PySem.wpAt _ _ _ (execs [] _) _ _ _
  exact wpAt_of_wpAny (wpAny_execs_nil (hq h₃ tk₃ dx t1 (fun b o hb z => k₃ b o hb (k2 b o hb (hk2 b o z))) (Nat.le_of_lt (Nat.lt_of_lt_of_le (hL ▸ Heap.lt_size hL2) dn)) dne hx₃ hn₃))

/-- a made exception -/
structure OwnMade (h h' : Heap) (e C d : Addr) (v : Value) : Prop where
  keep : ∀ b o, h.get? b = some o → h'.get? b = some o
  new : h.objs.size ≤ e
  obj : ∃ oe vs, h'.get? e = some oe ∧ oe.cls = .ref C ∧ oe.dict = some d ∧ oe.data = .fields vs ∧ vs[1]? = some .none
  dbig : h.objs.size ≤ d
  dne : d ≠ e
  ns : h'.Ns1 d (fun y => if y = "value" then some v else none)
theorem exc_made {C fI : Addr} {v : Value} (T : ExcF K prog C fI) (X : K.In hp) (hg : hp.Ns mainGlobals mg) (hb : hp.Ns builtinsNs mb) (hbb : ∀ x : Str, x ≠ "__name__" → mb x = bootBuiltins x) (hlim : hp.NoLimit) (hroom : A.depth + 1 < recursionLimit)
    (hq : ∀ h' tk e d', OwnMade hp h' e C d' v → R (.ok (.ret (.ref e))) ⟨h', g, d, tk, os⟩) :
    codeAny (model prog w) A (.call (.ref C) ⟨[v], []⟩) R ⟨hp, g, d, t, os⟩ := by
  obtain ⟨nm, q, N, bs, bm, sn, sub, ab, col, dd, k0, k1, k2, k3, k5, hC, hbm⟩ := T.cls
  have k : ∀ b o, hp.get? b = some o → ((hp.push (kdv_tup [v])).push (HandSPX.excO C hp.objs.size)).get? b = some o := fun b o e => Heap.get?_push_of_some _ (Heap.get?_push_of_some _ e)
  have hget : ((hp.push (kdv_tup [v])).push (HandSPX.excO C hp.objs.size)).get? (hp.objs.size + 1) = some (HandSPX.excO C hp.objs.size) := by heap_get
  have hnx : K.lookup (hp.objs.size + 1) = none := by
    cases e : K.lookup (hp.objs.size + 1) with
    | none => rfl
    | some o =>
      have z : hp.get? (hp.objs.size + 1) = some o := X _ _ e
      exact absurd (Nat.lt_of_succ_lt (Heap.lt_size z)) (Nat.lt_irrefl _)
  refine HandSPX.call_own F.excBase_ValueError (fun X => HandSPX.refsVE_contains X bm hbm) (X _ _ hC) (looks_findIn X T.ini) (fun self => PySem.W.bind_fn X self T.typ) (one_size v) ?_
  refine init_raw T (X.keeps k) (hg.keeps k) (hb.keeps k) hbb (hlim.keeps k) ?_ hget hnx fun h' tk' dx t1 k' dn dne hx hns => ?_
  · show A.depth + 1 < recursionLimit
    exact hroom
  · have old : ∀ b o, hp.get? b = some o → h'.get? b = some o := fun b o e => k' b o (Nat.ne_of_lt (Nat.lt_succ_of_lt (Heap.lt_size e))) (k b o e)
    have z : hp.objs.size + 1 + 1 ≤ dx := by
      first
        | (simpa only [Heap.size_push] using dn)
        | exact dn
        | (have q := dn; rw [Heap.size_push, Heap.size_push] at q; exact q)
    exact ⟨rfl, hq h' tk' (hp.objs.size + 1) dx ⟨old, Nat.le_succ _, ⟨_, _, hx, rfl, rfl, rfl, rfl⟩, Nat.le_trans (Nat.le_trans (Nat.le_succ _) (Nat.le_succ _)) z, dne, hns⟩⟩
end
end CX
namespace L2
open PySem PySem.Spec PyProof.Rows
theorem relO_val {v : V} {v' : Value} (r : RelV v v') (f : Str) : RelO (List.lookup f [(("value" : Str), v)]) (if f = "value" then some v' else none) := by
  by_cases hw : f = "value"
  · subst hw
    rw [if_pos rfl]
    have q : List.lookup ("value" : Str) [(("value" : Str), v)] = some v := by simp [List.lookup]
    rw [q]
    exact r
  · rw [if_neg hw]
    have qw : (f == ("value" : Str)) = false := by simpa using hw
    have q2 : List.lookup f [(("value" : Str), v)] = none := by simp [List.lookup, qw]
    rw [q2]
    trivial
/-- a class of own errors -/
structure ExcC2 (K : PySem.W.Frag) (prog : Program) (C fI : Addr) : Prop where
  f : CX.ExcF K prog C fI
  keep : PySem.W.keepIn K (.ref C) = true
  sub : PySem.W.subIn K (.ref C) (.type "BaseException") = some true
  typ : PySem.W.typeIn K (.ref C) = some (.type "type")
section
variable {X : Cx} {C fI : Addr}
/-- C(e) -/
def tMkE (C : Addr) (ta : TA) : St → Hp → XK → Prop := fun σ H Q => ta σ H fun vs H1 => ∃ v, vs = [v] ∧ ∀ d, H1 d = none → Q (.ref C) (some d) (upd H1 d (.xd [(("value" : Str), v)]))
theorem pmk_exc {x : Str} {a : Expr} {ta : TA} {p pos : Pos} {k : Nat} (T : ExcC2 X.K X.prog C fI) (hm : X.mg x = some (.ref C)) (hr : Room k X.A) (ha : PA X [a] ta) (hg : Gl X x) (hd : (x == ("__debug__" : Str)) = false)
    (he : starEach (a :: []) X.env = (false, eval a X.env) :: starEach [] X.env := by rfl) (hpl : (backTo pos (starEach [] X.env)).any (·.1) = false := by rfl) :
    PMk X (.Call (.Name x p) [a] [] pos) (tMkE C ta) := by
  intro pins s σ H Q I h
  refine wpAny_Call_Name_kw (ld_glob I hg hm ?_ hd)
  refine PySem.W.callWith_K (h₀ := X.base) I.ok.mod.kin T.keep (thn (ha.run pos pins s σ H _ I h) fun us s1 hh => ?_) he hpl
  obtain ⟨vs, H1, I1, r1, v, ev, q1⟩ := hh
  subst ev
  refine ⟨I1.kIn, ?_⟩
  cases r1 with
  | cons rv rn =>
    rename_i v' us'
    cases rn
    show wpAny _ _ (call (.ref C) [v']) _ _ _
    have hlim := I1.nolimit
    obtain ⟨mb, b1, b2⟩ := I1.mod.blt
    have b1' := b1.keeps I1.bk
    have g1' := I1.mod.glob.keeps I1.bk
    have kin := I1.kIn
    obtain ⟨hp, g, dr, tk, os⟩ := s1
    refine wpAny_call (CX.exc_made T.f kin g1' b1' b2 hlim (by have := hr.dp; omega) fun h' tk' e d M => ?_)
    show MkP X pins σ Q (.ref e) ⟨h', g, dr, tk', os⟩
    obtain ⟨oe, fv, hoe, hc, hd, hdat, h1⟩ := M.obj
    have hns := M.ns
    obtain ⟨G', g1, g2⟩ := restrict h' fun b => decide (b ≠ e)
    have gk : ∀ b, b ≠ e → G'.get? b = h'.get? b := fun b hb => g1 b (decide_eq_true hb)
    have ge : G'.get? e = none := g2 e (by simp)
    have old : ∀ b o, hp.get? b = some o → G'.get? b = some o := fun b o q => (gk b (Nat.ne_of_lt (Nat.lt_of_lt_of_le (Heap.lt_size q) M.new))).trans (M.keep b o q)
    have ob : ObjOk X.prog X.w (upd H1 d (.xd [(("value" : Str), v)])) G' d (.xd [(("value" : Str), v)]) :=
      ⟨_, hns.at (fun o q => (gk d M.dne).trans q), fun f => relO_val rv f⟩
    have J : Inv X pins σ (upd H1 d (.xd [(("value" : Str), v)])) ⟨G', g, dr, tk', os⟩ := I1.laid (t' := tk') old M.dbig ob
    refine ⟨e, oe, fv, ⟨G', g, dr, tk', os⟩, _, .ref C, some d, rfl, J, fun b o q => ?_, ge, hoe, ⟨hc, hd⟩, hdat, h1, ?_, rfl, I1.bare, raises_own T.sub T.typ, q1 d (I1.hok.fresh M.dbig)⟩
    · by_cases hb : b = e
      · have q' : G'.get? b = some o := q
        rw [hb, ge] at q'; cases q'
      · exact (gk b hb).symm.trans q
    · rw [upd_ne (Ne.symm M.dne)]
      exact I1.hok.fresh M.new
end
end L2
/-! What the written part says of the own errors. -/
namespace CC
open L2 PySem PySem.Spec PyProof.Rows
/-- the written part tells enough of the class at D -/
structure ExcQ (K : PySem.W.Frag) (D : Addr) : Prop where
  cl : (PySem.W.clsIn K D).isSome = true
  hg : PySem.W.findIn K (.ref D) "__getattribute__" = some (some (.builtin "BaseException.__getattribute__"))
  hk : PySem.W.findIn K (.ref D) "__getattr__" = some none
  hs : PySem.W.subIn K (.ref D) (.type "BaseException") = some true
  hd : PySem.W.hasDictIn K D = true
  ha : PySem.W.findIn K (.ref D) "__class__" = some (some (.builtin "object.__class__"))
  hn : PySem.W.specialIn K (.builtin "object.__class__") "__get__" = some (some (.builtin "getset_descriptor.__get__"))
  ht : PySem.W.takesIn K (.builtin "object.__class__") = some true
  hm : PySem.W.mroIn K D (.type "object") = some true
  nv : PySem.W.findIn K (.ref D) "value" = some none
/-- error number c -/
structure ExF (K : PySem.W.Frag) (prog : Program) (mg : Str → Option Value) (ca : Nat → Addr) (exs : Nat → Bool) (c : Nat) : Prop where
  mg : mg (exNm c) = some (.ref (ca c))
  c2 : ∃ fI, ExcC2 K prog (ca c) fI
  q : ExcQ K (ca c)
  kit : ∀ c', exs c' = true → PySem.W.kitOne K (.ref (ca c)) (.ref (ca c')) = some (isSub (exNm c) (exNm c'))
  exm : ∀ c', exs c' = true → PySem.W.exmOne K (.ref (ca c)) (.ref (ca c')) = some (isSub (exNm c) (exNm c'))
  ve : PySem.W.kitOne K (.ref (ca c)) (.type "ValueError") = some true

/-! ### looked at -/
def bodyB : List Stmt → Bool
  | [.Expr (.Call (.Attribute (.Call (.Name n1 _) [] [] _) n2 p2) [.Name n3 _] [] p4) _, .Assign [.Attribute (.Name n4 _) n5 _] (.Name n6 _) _] =>
    decide (n1 = ("super" : Str)) && decide (n2 = ("__init__" : Str)) && decide (n3 = ("value" : Str)) && decide (n4 = ("self" : Str)) && decide (n5 = ("value" : Str)) && decide (n6 = ("value" : Str)) && (p2.endLine == p4.line)
  | _ => false
theorem bodyB_ok {b : List Stmt} (h : bodyB b = true) : ∃ p0 p1 p2 p3 p4 p5 p6 p7 p8 p9, b = [.Expr (.Call (.Attribute (.Call (.Name "super" p0) [] [] p1) "__init__" p2) [.Name "value" p3] [] p4) p5, .Assign [.Attribute (.Name "self" p6) "value" p7] (.Name "value" p8) p9] ∧ (p2.endLine == p4.line) = true := by
  unfold bodyB at h
  split at h
  · simp only [Bool.and_eq_true, decide_eq_true_eq] at h
    obtain ⟨⟨⟨⟨⟨⟨rfl, rfl⟩, rfl⟩, rfl⟩, rfl⟩, rfl⟩, h7⟩ := h
    exact ⟨_, _, _, _, _, _, _, _, _, _, rfl, h7⟩
  · cases h
def argB : List Arg → Bool
  | [a, b] => decide (a.arg = ("self" : Str)) && a.annotation.isNone && decide (b.arg = ("value" : Str)) && b.annotation.isNone
  | _ => false
theorem argB_ok {l : List Arg} (h : argB l = true) : ∃ q1 q2, l = [{ arg := "self", annotation := none, pos := q1 }, { arg := "value", annotation := none, pos := q2 }] := by
  unfold argB at h
  split at h
  · rename_i a b
    obtain ⟨a1, a2, a3⟩ := a
    obtain ⟨b1, b2, b3⟩ := b
    simp only [Bool.and_eq_true, decide_eq_true_eq, Option.isNone_iff_eq_none] at h
    obtain ⟨⟨⟨rfl, rfl⟩, rfl⟩, rfl⟩ := h
    exact ⟨_, _, rfl⟩
  · cases h
def paramB (a : Arguments) : Bool := a.posonlyargs.isEmpty && argB a.args && a.vararg.isNone && a.kwonlyargs.isEmpty && a.kw_defaults.isEmpty && a.kwarg.isNone && a.defaults.isEmpty
theorem paramB_ok {a : Arguments} (h : paramB a = true) : ∃ q1 q2, a = { posonlyargs := [], args := [{ arg := "self", annotation := none, pos := q1 }, { arg := "value", annotation := none, pos := q2 }], vararg := none, kwonlyargs := [], kw_defaults := [], kwarg := none, defaults := [] } := by
  obtain ⟨a1, a2, a3, a4, a5, a6, a7⟩ := a
  unfold paramB at h
  simp only [Bool.and_eq_true, Option.isNone_iff_eq_none, List.isEmpty_iff] at h
  obtain ⟨⟨⟨⟨⟨⟨rfl, h2⟩, rfl⟩, rfl⟩, rfl⟩, rfl⟩, rfl⟩ := h
  obtain ⟨q1, q2, rfl⟩ := argB_ok h2
  exact ⟨_, _, rfl⟩
def kindB (ns : List (Str × NameKind)) : Bool := (ns.all fun x => !decide (x.2 = .cell)) && decide (ns.lookup ("super" : Str) = some .globalImplicit) && decide (ns.lookup ("__class__" : Str) = some .free) && decide (ns.lookup ("self" : Str) = some .local) && decide (ns.lookup ("value" : Str) = some .local)
def fileB (mf : Str) (o : Option Value) : Bool := match o with
  | some (.str file _) => mf == file
  | _ => false
def fnB (K : PySem.W.Frag) (mf : Str) (C : Addr) (fd : FuncData) : Bool := paramB fd.params && (match fd.body with
    | .stmts b => bodyB b
    | _ => false) && decide (fd.scope.kind = .function) && !fd.scope.isGenerator && !fd.scope.isCoroutine && kindB fd.scope.names && decide (fd.globals = mainGlobals) && decide (fd.builtins = builtinsNs) && decide (fd.defaults = .none) && decide (fd.kwdefaults = .none) && (match fd.closure, fd.code with
    | [(x, cc)], .ref cda => decide (x = ("__class__" : Str)) && PySem.W.codeIn K (.ref cda) fd.qualname && (match K.lookup cda with
      | some ⟨_, _, .fields vs, _⟩ => fileB mf vs[2]?
      | _ => false) && (match K.lookup cc with
      | some ⟨_, _, .cell (some (.ref D)), _⟩ => (PySem.W.clsIn K D).isSome && decide (PySem.W.mroIn K C (.ref D) = some true) && decide (PySem.W.ks_superIn K C D "__init__" = some (some (.builtin "ValueError.__init__")))
      | _ => false)
    | _, _ => false)
def clsB (K : PySem.W.Frag) (C : Addr) : Bool := match K.lookup C with
  | some ⟨.type "type", _, .cls cd, sl⟩ => (match cd.mro, sl.toList with
    | .ref C' :: bm, [_, _, _, _, some (.builtin n), _] => C' == C && n == "ValueError.__new__" && !cd.hasDel && cd.hasDict && HandSPX.refsVE bm
    | _, _ => false)
  | _ => false
theorem clsB_ok {K : PySem.W.Frag} {C : Addr} (h : clsB K C = true) : ∃ nm q N bs bm sn sub ab col dd k0 k1 k2 k3 k5, K.lookup C = some (excClassObj nm q C N bs bm true sn sub ab col dd k0 k1 k2 k3 k5 "ValueError.__new__") ∧ HandSPX.refsVE bm = true := by
  unfold clsB at h
  split at h
  · rename_i dd cd sl ho
    split at h
    · rename_i C' bm k0 k1 k2 k3 n k5 hm hs
      simp only [Bool.and_eq_true, beq_iff_eq, Bool.not_eq_true'] at h
      obtain ⟨⟨⟨⟨rfl, rfl⟩, hdel⟩, hdc⟩, ht⟩ := h
      obtain ⟨nm, bs, mro, ns, qn, hd, sn, sub, ab, col, del⟩ := cd
      dsimp only at hm hdel hdc
      subst hm hdel hdc
      have hsl : sl = #[k0, k1, k2, k3, some (.builtin "ValueError.__new__"), k5] := by
        obtain ⟨l⟩ := sl
        simp only at hs
        rw [hs]
      rw [hsl] at ho
      exact ⟨nm, qn, ns, bs, bm, sn, sub, ab, col, dd, k0, k1, k2, k3, k5, ho, ht⟩
    · cases h
  · cases h
def excB (K : PySem.W.Frag) (mf : Str) (C : Addr) : Bool := clsB K C && decide (PySem.W.findIn K (.ref C) "__setattr__" = some (some (.builtin "object.__setattr__"))) && decide (PySem.W.findIn K (.ref C) "__init__" = some (some (.ref (He.ma K C "__init__")))) && decide (PySem.W.typeIn K (.ref (He.ma K C "__init__")) = some (.type "function")) && decide (PySem.W.findIn K (.ref C) "value" = some none) &&
  decide (PySem.W.nsIn K cStatics "thirdparty.any" = some none) && decide (PySem.W.subIn K (.ref C) (.type "ValueError") = some true) && decide (PySem.W.nsIn K mainGlobals "super" = some none) && (match K.lookup (He.ma K C "__init__") with
    | some ⟨_, _, .func fd, _⟩ => fnB K mf C fd
    | _ => false) && PySem.W.keepIn K (.ref C) && decide (PySem.W.subIn K (.ref C) (.type "BaseException") = some true) && decide (PySem.W.typeIn K (.ref C) = some (.type "type"))
theorem excB_ok {K : PySem.W.Frag} {prog : Program} {mf : Str} {C : Addr} (hmf : prog.main.file = mf) (hsu : (prog.main.scope.names.lookup ("super" : Str)).isSome = false) (h : excB K mf C = true) : ExcC2 K prog C (He.ma K C "__init__") := by
  unfold excB at h
  simp only [Bool.and_eq_true, decide_eq_true_eq] at h
  obtain ⟨⟨⟨⟨⟨⟨⟨⟨⟨⟨⟨h1, h2⟩, h3⟩, h4⟩, h5⟩, h6⟩, h7⟩, h8⟩, h9⟩, h10⟩, h11⟩, h12⟩ := h
  refine ⟨⟨clsB_ok h1, h2, h3, h4, h5, h6, h7, ?_⟩, h10, h11, h12⟩
  split at h9
  · rename_i oc od fd osl ho
    obtain ⟨fn, fq, fpar, fbody, fsc, fglob, fclo, fdef, fkw, fdoc, fpm, fann, fcode, fct, fblt⟩ := fd
    obtain ⟨skind, snames, sgen, scor, smore⟩ := fsc
    unfold fnB at h9
    simp only [Bool.and_eq_true, decide_eq_true_eq, Bool.not_eq_true'] at h9
    obtain ⟨⟨⟨⟨⟨⟨⟨⟨⟨⟨a1, a2⟩, a3⟩, a4⟩, a5⟩, a6⟩, a7⟩, a8⟩, a9⟩, a10⟩, a11⟩ := h9
    subst a3 a4 a5 a7 a8 a9 a10
    obtain ⟨q1, q2, rfl⟩ := paramB_ok a1
    split at a2
    · rename_i b
      obtain ⟨p0, p1, p2, p3, p4, p5, p6, p7, p8, p9, rfl, hln⟩ := bodyB_ok a2
      split at a11
      · rename_i x cc cda
        simp only [Bool.and_eq_true, decide_eq_true_eq] at a11
        obtain ⟨⟨⟨rfl, b2⟩, b3⟩, b4⟩ := a11
        unfold kindB at a6
        simp only [Bool.and_eq_true, decide_eq_true_eq, List.all_eq_true, Bool.not_eq_true', decide_eq_false_iff_not] at a6
        obtain ⟨⟨⟨⟨c1, c2⟩, c3⟩, c4⟩, c5⟩ := a6
        split at b3
        · rename_i ccl cdd vs ccs hcode
          unfold fileB at b3
          split at b3
          · rename_i file tf hvs
            split at b4
            · rename_i cl cld D csl hcell
              simp only [Bool.and_eq_true, decide_eq_true_eq] at b4
              obtain ⟨⟨d1, d2⟩, d3⟩ := b4
              obtain ⟨cdD, d1⟩ := Option.isSome_iff_exists.mp d1
              exact ⟨oc, od, osl, fn, fq, q1, q2, p0, p1, p2, p3, p4, p5, p6, p7, p8, p9, snames, smore, cc, fdoc, fpm, fann, cda, fct, D, ccl, cl, cdd, cld, ccs, csl, vs, file, tf, cdD, ho, hln, b2, c1, c2, c3, c4, c5, hcode, hvs, by rw [hmf]; exact b3, hsu, hcell, d1, d2, d3, h8⟩
            · cases b4
          · cases b3
        · cases b3
      · cases a11
    · cases a2
  · cases h9
def excqB (K : PySem.W.Frag) (D : Addr) : Bool := (PySem.W.clsIn K D).isSome && decide (PySem.W.findIn K (.ref D) "__getattribute__" = some (some (.builtin "BaseException.__getattribute__"))) && decide (PySem.W.findIn K (.ref D) "__getattr__" = some none) && decide (PySem.W.subIn K (.ref D) (.type "BaseException") = some true) && PySem.W.hasDictIn K D &&
  decide (PySem.W.findIn K (.ref D) "__class__" = some (some (.builtin "object.__class__"))) && decide (PySem.W.specialIn K (.builtin "object.__class__") "__get__" = some (some (.builtin "getset_descriptor.__get__"))) && decide (PySem.W.takesIn K (.builtin "object.__class__") = some true) && decide (PySem.W.mroIn K D (.type "object") = some true) && decide (PySem.W.findIn K (.ref D) "value" = some none)
theorem excqB_ok {K : PySem.W.Frag} {D : Addr} (h : excqB K D = true) : ExcQ K D := by
  unfold excqB at h
  simp only [Bool.and_eq_true, decide_eq_true_eq] at h
  obtain ⟨⟨⟨⟨⟨⟨⟨⟨⟨h1, h2⟩, h3⟩, h4⟩, h5⟩, h6⟩, h7⟩, h8⟩, h9⟩, h10⟩ := h
  exact ⟨h1, h2, h3, h4, h5, h6, h7, h8, h9, h10⟩
/-- all errors of the list -/
def exAll (K : PySem.W.Frag) (mf : Str) (exs : List Nat) : Bool := exs.all fun c => excB K mf (He.ga K (exNm c)) && excqB K (He.ga K (exNm c)) && decide (PySem.W.nsIn K mainGlobals (exNm c) = some (some (.ref (He.ga K (exNm c))))) && decide (PySem.W.nsIn K mainGlobals "ValueError" = some none) && decide (PySem.W.kitOne K (.ref (He.ga K (exNm c))) (.type "ValueError") = some true) &&
  exs.all fun c' => decide (PySem.W.kitOne K (.ref (He.ga K (exNm c))) (.ref (He.ga K (exNm c'))) = some (isSub (exNm c) (exNm c'))) && decide (PySem.W.exmOne K (.ref (He.ga K (exNm c))) (.ref (He.ga K (exNm c'))) = some (isSub (exNm c) (exNm c')))
theorem exAll_ok {K : PySem.W.Frag} {prog : Program} {mf : Str} {exs : List Nat} {mg : Str → Option Value} {h : Heap} {ca : Nat → Addr} (kin : K.In h) (ns : h.Ns mainGlobals mg) (hmf : prog.main.file = mf) (hsu : (prog.main.scope.names.lookup ("super" : Str)).isSome = false)
    (hca : ∀ c ∈ exs, ca c = He.ga K (exNm c)) (q : exAll K mf exs = true) {c : Nat} (hc : exs.contains c = true) : ExF K prog mg ca exs.contains c ∧ mg "ValueError" = none := by
  have hc' : c ∈ exs := by simpa using hc
  have z := List.all_eq_true.mp q c hc'
  simp only [Bool.and_eq_true, decide_eq_true_eq] at z
  obtain ⟨⟨⟨⟨⟨z1, z2⟩, z3⟩, z4⟩, z5⟩, z6⟩ := z
  rw [← hca c hc'] at z1 z2 z3 z5 z6
  have z7 : ∀ c', exs.contains c' = true → PySem.W.kitOne K (.ref (ca c)) (.ref (ca c')) = some (isSub (exNm c) (exNm c')) ∧ PySem.W.exmOne K (.ref (ca c)) (.ref (ca c')) = some (isSub (exNm c) (exNm c')) := fun c' h' => by
    have h'' : c' ∈ exs := by simpa using h'
    have y := List.all_eq_true.mp z6 c' h''
    simp only [Bool.and_eq_true, decide_eq_true_eq] at y
    rw [hca c' h'']
    exact y
  exact ⟨⟨PySem.W.mg_of kin ns z3, ⟨_, excB_ok hmf hsu z1⟩, excqB_ok z2, fun c' h' => (z7 c' h').1, fun c' h' => (z7 c' h').2, z5⟩, PySem.W.mg_none_of kin ns z4⟩
end CC
/-! The little language over plain data: what its operations give, what a run of it wants. -/
namespace CC
open PySem L2

/-! ### reading data out of the store -/
def denL (f : D → Option PyData) : List D → Option (List PyData)
  | [] => some []
  | d :: ds => (match f d, denL f ds with
    | some e, some es => some (e :: es)
    | _, _ => none)
def den : Nat → Store → D → Option PyData
  | 0, _, d => (match d with
    | .non => some .none
    | .bl b => some (.bool b)
    | .int i => some (.int i)
    | .str x => some (.str x)
    | _ => none)
  | n + 1, S, d => (match d with
    | .non => some .none
    | .bl b => some (.bool b)
    | .int i => some (.int i)
    | .str x => some (.str x)
    | .tup ds => (match denL (den n S) ds with
      | some es => some (.tuple es)
      | none => none)
    | .ref l => (match seqAt S l with
      | some ds => (match denL (den n S) ds with
        | some es => some (.list es)
        | none => none)
      | none => none))

/-- a value's truth -/
def truth (d : D) (S : Store) : Option Bool := match d with
  | .non => some false
  | .bl b => some b
  | .int i => some (i != 0)
  | .tup ds => some !ds.isEmpty
  | .ref l => (match seqAt S l with
    | some ds => some !ds.isEmpty
    | none => none)
  | .str _ => none

/-- what an operation gives: what it wants, its value, the store behind it -/
structure Out where
  c : Prop
  d : D
  S : Store

def newL (c : Prop) (xs : List D) (S : Store) : Option Out := some ⟨c, .ref S.length, S ++ [.lst xs]⟩

def DivOk (i j : Int) : Prop := Builtin.divisionGoesByPylong i j = false

def binR (op : Operator) (x y : D) (S : Store) : Option Out := match op, x, y with
  | .Add, .int i, .int j => some ⟨True, .int (i + j), S⟩
  | .Add, .ref l, .ref m => (match S[l]?, S[m]? with
    | some (.lst a), some (.lst b) => newL (a.length + b.length ≤ sizeLine) (a ++ b) S
    | _, _ => none)
  | .Add, .str a, .str b => some ⟨a.length + b.length ≤ sizeLine, .str (a ++ b), S⟩
  | .Sub, .int i, .int j => some ⟨True, .int (i - j), S⟩
  | .Mult, .int i, .int j => some ⟨IntMulOk i j, .int (i * j), S⟩
  | .Mult, .ref l, .int k => (match S[l]? with
    | some (.lst a) => newL (-(2 ^ 63) ≤ k ∧ k < 2 ^ 63 ∧ a.length * k.toNat ≤ sizeLine) (List.replicate k.toNat a).flatten S
    | _ => none)
  | .FloorDiv, .int i, .int j => some ⟨j ≠ 0 ∧ DivOk i j, .int (i.fdiv j), S⟩
  | .Mod, .int i, .int j => some ⟨j ≠ 0, .int (i.fmod j), S⟩
  | .Pow, .int i, .int j => some ⟨0 ≤ j ∧ (Builtin.Int.intBits i : Int) * j ≤ 2 ^ 27, .int (i ^ j.toNat), S⟩
  | .LShift, .int i, .int j => some ⟨0 ≤ j ∧ (Builtin.Int.intBits i : Int) + j ≤ 2 ^ 27, .int (i * 2 ^ j.toNat), S⟩
  | _, _, _ => none

def isNon : D → Bool
  | .non => true
  | _ => false
/-- how deep data may be -/
abbrev deep : Nat := 8
def cmpR (op : CmpOp) (x y : D) (S : Store) : Option Out := match op with
  | .Eq => (match x, y with
    | .str a, .str b => some ⟨True, .bl (decide (a = b)), S⟩
    | x, y => (match den deep S x, den deep S y with
      | some a, some b => some ⟨SeqAt.shaped a = true ∧ SeqAt.shaped b = true, .bl (PyData.eqv a b), S⟩
      | _, _ => none))
  | .NotEq => (match x, y with
    | .str a, .str b => some ⟨True, .bl (!decide (a = b)), S⟩
    | x, y => (match den deep S x, den deep S y with
      | some a, some b => some ⟨SeqAt.shaped a = true ∧ SeqAt.shaped b = true, .bl (!PyData.eqv a b), S⟩
      | _, _ => none))
  | .Lt => (match x, y with
    | .int i, .int j => some ⟨True, .bl (decide (i < j)), S⟩
    | _, _ => none)
  | .LtE => (match x, y with
    | .int i, .int j => some ⟨True, .bl (decide (i ≤ j)), S⟩
    | _, _ => none)
  | .Gt => (match x, y with
    | .int i, .int j => some ⟨True, .bl (decide (j < i)), S⟩
    | _, _ => none)
  | .GtE => (match x, y with
    | .int i, .int j => some ⟨True, .bl (decide (j ≤ i)), S⟩
    | _, _ => none)
  | .Is => (match x, y with
    | x, .non => some ⟨True, .bl (isNon x), S⟩
    | .bl a, .bl b => some ⟨True, .bl (decide (a = b)), S⟩
    | _, _ => none)
  | .IsNot => (match x, y with
    | x, .non => some ⟨True, .bl (!isNon x), S⟩
    | .bl a, .bl b => some ⟨True, .bl (!decide (a = b)), S⟩
    | _, _ => none)
  | .In => (match den deep S x, den deep S y with
    | some a, some (.list bs) => some ⟨SeqAt.shaped a = true ∧ SeqAt.shaped (.list bs) = true, .bl (bs.any fun z => PyData.eqv z a), S⟩
    | some a, some (.tuple bs) => some ⟨SeqAt.shaped a = true ∧ SeqAt.shaped (.tuple bs) = true, .bl (bs.any fun z => PyData.eqv z a), S⟩
    | _, _ => none)
  | .NotIn => (match den deep S x, den deep S y with
    | some a, some (.list bs) => some ⟨SeqAt.shaped a = true ∧ SeqAt.shaped (.list bs) = true, .bl (!bs.any fun z => PyData.eqv z a), S⟩
    | some a, some (.tuple bs) => some ⟨SeqAt.shaped a = true ∧ SeqAt.shaped (.tuple bs) = true, .bl (!bs.any fun z => PyData.eqv z a), S⟩
    | _, _ => none)

/-- the items of a list or a tuple -/
def seqD (S : Store) : D → Option (List D)
  | .tup ds => some ds
  | .ref l => seqAt S l
  | _ => none

def intsOf : List D → Option (List Int)
  | [] => some []
  | .int i :: r => (match intsOf r with
    | some is => some (i :: is)
    | none => none)
  | _ => none
def boolsOf : List D → Option (List Bool)
  | [] => some []
  | .bl i :: r => (match boolsOf r with
    | some is => some (i :: is)
    | none => none)
  | _ => none

/-- the order of pairs -/
def ltP (p q : Int × Int) : Prop := p.1 < q.1 ∨ p.1 = q.1 ∧ p.2 < q.2
instance (p q : Int × Int) : Decidable (ltP p q) := inferInstanceAs (Decidable (_ ∨ _))
def pairD (p : Int × Int) : D := .tup [.int p.1, .int p.2]
def prsOf : List D → Option (List (Int × Int))
  | [] => some []
  | .tup [.int a, .int b] :: r => (match prsOf r with
    | some ps => some ((a, b) :: ps)
    | none => none)
  | _ => none
/-- pairs, each once, in order -/
def insP (p : Int × Int) : List (Int × Int) → List (Int × Int)
  | [] => [p]
  | q :: r => if p = q then q :: r else if ltP p q then p :: q :: r else q :: insP p r
def setP : List (Int × Int) → List (Int × Int)
  | [] => []
  | p :: r => insP p (setP r)

/-- pairs in order -/
def insQ (p : Int × Int) : List (Int × Int) → List (Int × Int)
  | [] => [p]
  | q :: r => if ltP q p then q :: insQ p r else p :: q :: r
def ordP : List (Int × Int) → List (Int × Int)
  | [] => []
  | p :: r => insQ p (ordP r)

inductive Blt where
  | len | abs | int | max1 | max2 | min2 | list | tuple | sum | all | max4 | any | sorted
  deriving DecidableEq
inductive Ty where
  | int | bool | tuple
  deriving DecidableEq

def maxOf : List Int → Int
  | [] => 0
  | i :: r => r.foldl (fun a b => if b > a then b else a) i

def insI (i : Int) : List Int → List Int
  | [] => [i]
  | j :: r => if i ≤ j then i :: j :: r else j :: insI i r
def sortI : List Int → List Int
  | [] => []
  | i :: r => insI i (sortI r)
def bltR (b : Blt) (ds : List D) (S : Store) : Option Out := match b, ds with
  | .len, [x] => (match seqD S x with
    | some xs => some ⟨True, .int xs.length, S⟩
    | none => none)
  | .abs, [.int i] => some ⟨True, .int (if i < 0 then -i else i), S⟩
  | .int, [.int i] => some ⟨True, .int i, S⟩
  | .int, [.bl k] => some ⟨True, .int (if k then 1 else 0), S⟩
  | .max2, [.int i, .int j] => some ⟨True, .int (if j > i then j else i), S⟩
  | .min2, [.int i, .int j] => some ⟨True, .int (if j < i then j else i), S⟩
  | .max1, [.ref l] => (match seqAt S l with
    | some xs => (match intsOf xs with
      | some (i :: is) => some ⟨True, .int (maxOf (i :: is)), S⟩
      | _ => none)
    | none => none)
  | .sum, [.ref l] => (match seqAt S l with
    | some xs => (match intsOf xs with
      | some is => some ⟨True, .int is.sum, S⟩
      | none => none)
    | none => none)
  | .all, [.ref l] => (match seqAt S l with
    | some xs => (match boolsOf xs with
      | some bs => some ⟨True, .bl (bs.all id), S⟩
      | none => none)
    | none => none)
  | .list, [x] => (match seqD S x with
    | some xs => newL True xs S
    | none => none)
  | .tuple, [x] => (match seqD S x with
    | some xs => some ⟨True, .tup xs, S⟩
    | none => none)
  | .max4, [.int i, .int j, .int k, .int l] => some ⟨True, .int (maxOf [i, j, k, l]), S⟩
  | .any, [.ref l] => (match seqAt S l with
    | some xs => (match intsOf xs with
      | some is => some ⟨True, .bl (is.any (· != 0)), S⟩
      | none => none)
    | none => none)
  | .sorted, [.ref l] => (match seqAt S l with
    | some xs => (match intsOf xs with
      | some is => newL (is.length < 64) ((sortI is).map .int) S
      | none => (match prsOf xs with
        | some ps => newL (ps.length < 64) ((ordP ps).map pairD) S
        | none => none))
    | none => none)
  | _, _ => none

def isaR (t : Ty) (x : D) : Option Bool := match t, x with
  | .int, .int _ => some true
  | .int, .bl _ => some true
  | .int, .ref _ => none
  | .int, _ => some false
  | .bool, .bl _ => some true
  | .bool, .ref _ => none
  | .bool, _ => some false
  | .tuple, .tup _ => some true
  | .tuple, .ref _ => none
  | .tuple, _ => some false

inductive Prim where
  | bin (op : Operator) | neg | cmp (op : CmpOp) | tup | lst | idx | slc (lo hi : Bool) | rev | blt (b : Blt) | isa (t : Ty) | app | ins | pop | ext | isl | repr | bits | rng | sset
  deriving DecidableEq

/-- xs[lo:hi] -/
def cutD (xs : List D) (lo hi : Option Int) : List D := (xs.drop (HT.sIx xs.length 0 lo)).take (HT.sIx xs.length xs.length hi - HT.sIx xs.length 0 lo)
def slcR (x : D) (lo hi : Option Int) (S : Store) : Option Out := match x with
  | .ref l => (match seqAt S l with
    | some xs => newL True (cutD xs lo hi) S
    | none => none)
  | .tup ds => if HT.sIx ds.length 0 lo = 0 ∧ HT.sIx ds.length ds.length hi = ds.length then none else some ⟨True, .tup (cutD ds lo hi), S⟩
  | _ => none

def rangeL : Int → Nat → List D
  | _, 0 => []
  | lo, n + 1 => .int lo :: rangeL (lo + 1) n
/-- whether repr is known to give the text of plain data -/
def primR (g : Bool) (p : Prim) (ds : List D) (S : Store) : Option Out := match p, ds with
  | .bin op, [x, y] => binR op x y S
  | .cmp op, [x, y] => cmpR op x y S
  | .neg, [.int i] => some ⟨True, .int (-i), S⟩
  | .tup, ds => some ⟨ds.length ≤ sizeLine, .tup ds, S⟩
  | .lst, ds => newL (ds.length ≤ sizeLine) ds S
  | .idx, [x, .int i] => (match seqD S x with
    | some xs => (match atI xs i with
      | some d => some ⟨True, d, S⟩
      | none => none)
    | none => none)
  | .slc false false, [x] => slcR x none none S
  | .slc true false, [x, .int i] => slcR x (some i) none S
  | .slc false true, [x, .int j] => slcR x none (some j) S
  | .slc true true, [x, .int i, .int j] => slcR x (some i) (some j) S
  | .rev, [.ref l] => (match seqAt S l with
    | some xs => newL True xs.reverse S
    | none => none)
  | .blt b, ds => bltR b ds S
  | .isa t, [x] => (match isaR t x with
    | some b => some ⟨True, .bl b, S⟩
    | none => none)
  | .app, [.ref l, y] => (match S[l]? with
    | some (.lst xs) => some ⟨xs.length < sizeLine, .non, S.set l (.lst (xs ++ [y]))⟩
    | _ => none)
  | .ins, [.ref l, .int i, y] => (match S[l]? with
    | some (.lst xs) => some ⟨xs.length < sizeLine ∧ 0 ≤ i ∧ i < 2 ^ 63, .non, S.set l (.lst (xs.take i.toNat ++ [y] ++ xs.drop i.toNat))⟩
    | _ => none)
  | .pop, [.ref l, .int i] => (match S[l]? with
    | some (.lst xs) => (match ixN xs.length i with
      | some k => (match xs[k]? with
        | some y => some ⟨-(2 ^ 63) ≤ i ∧ i < 2 ^ 63, y, S.set l (.lst (xs.eraseIdx k))⟩
        | none => none)
      | none => none)
    | _ => none)
  | .ext, [.ref l, .ref m] => (match S[l]?, S[m]? with
    | some (.lst a), some (.lst b) => some ⟨a.length + b.length ≤ sizeLine, .non, S.set l (.lst (a ++ b))⟩
    | _, _ => none)
  | .isl, [.ref l] => (match S[l]? with
    | some (.lst _) => some ⟨True, .bl true, S⟩
    | _ => none)
  | .repr, [x] => if g then (match den deep S x with
      | some a => some ⟨SeqAt.shaped a = true ∧ PyData.showable a = true ∧ a.shown.length ≤ sizeLine, .str a.shown, S⟩
      | none => none) else none
  | .bits, [.int i] => some ⟨True, .int (Builtin.Int.intBits i : Nat), S⟩
  | .rng, [.int j] => newL (RgOk 0 j) (rangeL 0 j.toNat) S
  | .rng, [.int i, .int j] => newL (RgOk i j) (rangeL i (j - i).toNat) S
  | .sset, [.ref l] => (match seqAt S l with
    | some xs => (match prsOf xs with
      | some ps => newL (ps.length < 64) ((setP ps).map pairD) S
      | none => none)
    | none => none)
  | _, _ => none
def primW (g : Bool) (p : Prim) (ds : List D) (S : Store) (Q : Post) : Prop := match primR g p ds S with
  | some o => o.c ∧ Q o.d o.S
  | none => False

/-! ### what is walked -/
inductive ItK where
  | seq | range | zip | enum
  deriving DecidableEq
/-- the items; the lists that have to stay as they are -/
structure Src where
  xs : List D
  hold : List (Nat × List D)
def Src.ok (w : Src) (S : Store) : Prop := ∀ p ∈ w.hold, seqAt S p.1 = some p.2
def holdOf (S : Store) : D → List (Nat × List D)
  | .ref l => (match seqAt S l with
    | some ds => [(l, ds)]
    | none => [])
  | _ => []
def iterR (k : ItK) (ds : List D) (S : Store) : Option (Prop × Src) := match k with
  | .seq => (match ds with
    | [x] => (match seqD S x with
      | some xs => some (True, ⟨xs, holdOf S x⟩)
      | none => none)
    | _ => none)
  | .range => (match ds with
    | [.int j] => some (-(2 ^ 62) ≤ j ∧ j < 2 ^ 62, ⟨rangeL 0 j.toNat, []⟩)
    | [.int i, .int j] => some (-(2 ^ 62) ≤ i ∧ i < 2 ^ 62 ∧ -(2 ^ 62) ≤ j ∧ j < 2 ^ 62, ⟨rangeL i (j - i).toNat, []⟩)
    | _ => none)
  | .zip => (match ds with
    | [.ref l, .ref m] => (match seqAt S l, seqAt S m with
      | some xs, some ys => some (True, ⟨(xs.zip ys).map fun p => .tup [p.1, p.2], [(l, xs), (m, ys)]⟩)
      | _, _ => none)
    | [.tup xs, .tup ys] => some (True, ⟨(xs.zip ys).map fun p => .tup [p.1, p.2], []⟩)
    | _ => none)
  | .enum => (match ds with
    | [.ref l] => (match seqAt S l with
      | some xs => some (True, ⟨(xs.zipIdx).map fun p => .tup [.int p.2, p.1], [(l, xs)]⟩)
      | none => none)
    | _ => none)

def isI (d : D) : Bool := match d with
  | .int _ => true
  | _ => false
/-- a list that may be written -/
def isL (d : D) (S : Store) : Bool := match d with
  | .ref l => (match S[l]? with
    | some (.lst _) => true
    | _ => false)
  | _ => false
/-! ### the language -/
mutual
inductive Ex where
  | var (i : Nat)
  | const (d : D)
  | glob (x : Str) (d : D)
  | prim (p : Prim) (es : Exs)
  | meth (p : Prim) (o : Ex) (es : Exs)
  | notE (a : Ex)
  | cut (a b c : Ex)
  | fld (cs : List Nat) (o : Ex) (x : Str)
  | prop (tb : List (Nat × Nat)) (o : Ex) (x : Str)
  | eqm (neg : Bool) (tb : List (Nat × Nat)) (es : Exs)
  | isM (c : Nat) (x : Str) (o : Ex)
  | make (c f : Nat) (es : Exs)
  | makek (c f : Nat) (es : Exs) (ks : List Str) (kes : Exs) (perm : List Nat)
  | andE (a b : Ex) | orE (a b : Ex) | one (a : Ex)
  | ite (c a b : Ex)
  | chain (op op' : CmpOp) (a b c : Ex)
  | call (f : Nat) (es : Exs)
  | callk (f : Nat) (es : Exs) (ks : List Str) (kes : Exs) (perm : List Nat)
  | comp (elt : Ex) (tg : Tg) (k : ItK) (src : Exs) (cond : Exs) (own : List (Str × Nat))
  | comp2 (elt : Ex) (tg : Tg) (k : ItK) (src : Exs) (tg1 : Tg) (k1 : ItK) (src1 : Exs) (cond : Exs) (own own1 : List (Str × Nat))
inductive Exs where
  | nil | cons (a : Ex) (r : Exs)
inductive Tg where
  | name (i : Nat) | tup (ts : Tgs) | sub (o i : Ex)
inductive Tgs where
  | nil | cons (a : Tg) (r : Tgs)
end

abbrev Sd := List (Option D)
def tgsLen : Tgs → Nat
  | .nil => 0
  | .cons _ r => tgsLen r + 1
/-- values by place -/
def pick {α : Type} (xs : List α) : List Nat → Option (List α)
  | [] => some []
  | i :: is => (match xs[i]?, pick xs is with
    | some x, some r => some (x :: r)
    | _, _ => none)
def wipeD (σ : Sd) : List Nat → Sd
  | [] => σ
  | v :: vs => (wipeD σ vs).set v none

/-- what a call of a function wants: number, arguments, store, what is wanted of its value, of an exception -/
abbrev Phi := Nat → List D → Store → Post → EPost → Prop

/-- [.. for .. in items ..], L the new list -/
def compW (w : Src) (L : Nat) (Q : Post) (turn : D → Store → (D → Store → Prop) → (Store → Prop) → Prop) : List D → Store → Prop
  | [], S => w.ok S ∧ Q (.ref L) S
  | x :: xs, S => w.ok S ∧ turn x S (fun d S2 => ∃ acc, S2[L]? = some (.lst acc) ∧ acc.length < sizeLine ∧ compW w L Q turn xs (S2.set L (.lst (acc ++ [d])))) (compW w L Q turn xs)

/-- [.. for .. in items for .. in ..] -/
def comp2W (w : Src) (L : Nat) (Q : Post) (turn : D → Store → (Store → Prop) → Prop) : List D → Store → Prop
  | [], S => w.ok S ∧ Q (.ref L) S
  | x :: xs, S => w.ok S ∧ turn x S (comp2W w L Q turn xs)

/-- the right side of ==: an instance of the class, or a value of a built-in type -/
def eqRt (c : Nat) (y : D) (S : Store) : Bool := match y with
  | .ref l => (match S[l]? with
    | some (.ins c2 _) => decide (c2 = c)
    | some (.lst _) => true
    | _ => false)
  | _ => true
/-- whether it is an instance of the class -/
def isMv (c : Nat) (y : D) (S : Store) : Option Bool := match y with
  | .ref l => (match S[l]? with
    | some (.ins c2 _) => if c2 = c then some true else none
    | some (.lst _) => some false
    | _ => none)
  | _ => some false
/-- ==, != of an instance of a class with its own __eq__ -/
def eqmW (φ : Phi) (neg : Bool) (tb : List (Nat × Nat)) (ds : List D) (S : Store) (Q : Post) : Prop :=
  ∃ x y c fs f, ds = [x, y] ∧ insAt x S = some (c, fs) ∧ eqRt c y S = true ∧ tb.lookup c = some f ∧ φ f [x, y] S (fun d S2 => ∃ b, d = .bl b ∧ Q (.bl (neg != b)) S2) (fun _ _ => False)

mutual
def wpE (g : Bool) (φ : Phi) : Ex → Sd → Store → Post → EPost → Prop
  | .var i, σ, S, Q, _ => (match σ[i]? with
    | some (some d) => Q d S
    | _ => False)
  | .const d, _, S, Q, _ => Q d S
  | .glob _ d, _, S, Q, _ => Q d S
  | .prim p es, σ, S, Q, E => wpAs g φ es σ S (fun ds S1 => primW g p ds S1 Q) E
  | .meth p o es, σ, S, Q, E => wpE g φ o σ S (fun d S1 => isL d S1 = true ∧ wpAs g φ es σ S1 (fun ds S2 => primW g p (d :: ds) S2 Q) E) E
  | .cut a b c, σ, S, Q, E => wpE g φ a σ S (fun x S1 => wpE g φ b σ S1 (fun y S2 => isI y = true ∧ wpE g φ c σ S2 (fun z S3 => primW g (.slc true true) [x, y, z] S3 Q) E) E) E
  | .fld cs o x, σ, S, Q, E => wpE g φ o σ S (fun d S1 => match insAt d S1 with
    | some (c, fs) => cs.contains c = true ∧ (match fs.lookup x with
      | some v => Q v S1
      | none => False)
    | none => False) E
  | .prop tb o _, σ, S, Q, E => wpE g φ o σ S (fun d S1 => match insAt d S1 with
    | some (c, _) => (match tb.lookup c with
      | some f => φ f [d] S1 Q (fun _ _ => False)
      | none => False)
    | none => False) E
  | .eqm neg tb es, σ, S, Q, E => wpAs g φ es σ S (fun ds S1 => eqmW φ neg tb ds S1 Q) E
  | .isM c _ o, σ, S, Q, E => wpE g φ o σ S (fun d S1 => ∃ b, isMv c d S1 = some b ∧ Q (.bl b) S1) E
  | .make c f es, σ, S, Q, E => wpAs g φ es σ S (fun ds S1 => φ f (.ref S1.length :: ds) (S1 ++ [.ins c []]) (fun d S2 => d = .non ∧ Q (.ref S1.length) S2) E) E
  | .makek c f es _ kes perm, σ, S, Q, E => wpAs g φ es σ S (fun ds S1 => wpAs g φ kes σ S1 (fun ks S2 => match pick (ds ++ ks) perm with
    | some rs => φ f (.ref S2.length :: rs) (S2 ++ [.ins c []]) (fun d S3 => d = .non ∧ Q (.ref S2.length) S3) E
    | none => False) E) E
  | .notE a, σ, S, Q, E => wpE g φ a σ S (fun d S1 => match truth d S1 with
    | some b => Q (.bl (!b)) S1
    | none => False) E
  | .andE a b, σ, S, Q, E => wpE g φ a σ S (fun d S1 => match truth d S1 with
    | some true => wpE g φ b σ S1 Q E
    | some false => Q d S1
    | none => False) E
  | .orE a b, σ, S, Q, E => wpE g φ a σ S (fun d S1 => match truth d S1 with
    | some true => Q d S1
    | some false => wpE g φ b σ S1 Q E
    | none => False) E
  | .one a, σ, S, Q, E => wpE g φ a σ S Q E
  | .ite c a b, σ, S, Q, E => wpE g φ c σ S (fun d S1 => match truth d S1 with
    | some true => wpE g φ a σ S1 Q E
    | some false => wpE g φ b σ S1 Q E
    | none => False) E
  | .chain op op' a b c, σ, S, Q, E => wpE g φ a σ S (fun x S1 => wpE g φ b σ S1 (fun y S2 => primW g (.cmp op) [x, y] S2 fun z S3 => match z with
    | .bl true => wpE g φ c σ S3 (fun w S4 => primW g (.cmp op') [y, w] S4 Q) E
    | .bl false => Q (.bl false) S3
    | _ => False) E) E
  | .call f es, σ, S, Q, E => wpAs g φ es σ S (fun ds S1 => φ f ds S1 Q E) E
  | .callk f es _ kes perm, σ, S, Q, E => wpAs g φ es σ S (fun ds S1 => wpAs g φ kes σ S1 (fun ks S2 => match pick (ds ++ ks) perm with
    | some rs => φ f rs S2 Q E
    | none => False) E) E
  | .comp elt tg k src cond own, σ, S, Q, E => wpAs g φ src σ S (fun ds S1 => match iterR k ds S1 with
    | some (c, w) => c ∧ compW w S1.length Q (fun x S2 yes no => wpTg g φ tg x (wipeD σ (own.map (·.2))) S2 (fun σ2 S3 => wpAs g φ cond σ2 S3 (fun bs S4 => match bs with
        | [] => wpE g φ elt σ2 S4 yes (fun _ _ => False)
        | [b] => (match truth b S4 with
          | some true => wpE g φ elt σ2 S4 yes (fun _ _ => False)
          | some false => no S4
          | none => False)
        | _ => False) (fun _ _ => False)) (fun _ _ => False)) w.xs (S1 ++ [.lst []])
    | none => False) E
  | .comp2 elt tg k src tg1 k1 src1 cond own own1, σ, S, Q, E => wpAs g φ src σ S (fun ds S1 => match iterR k ds S1 with
    | some (c, w) => c ∧ comp2W w S1.length Q (fun x S2 more => wpTg g φ tg x (wipeD σ (own.map (·.2))) S2 (fun σ2 S3 => wpAs g φ src1 σ2 S3 (fun ds1 S4 => match iterR k1 ds1 S4 with
        | some (c1, w1) => c1 ∧ compW w1 S1.length (fun _ S5 => more S5) (fun x1 S5 yes no => wpTg g φ tg1 x1 (wipeD σ2 (own1.map (·.2))) S5 (fun σ3 S6 => wpAs g φ cond σ3 S6 (fun bs S7 => match bs with
            | [] => wpE g φ elt σ3 S7 yes (fun _ _ => False)
            | [b] => (match truth b S7 with
              | some true => wpE g φ elt σ3 S7 yes (fun _ _ => False)
              | some false => no S7
              | none => False)
            | _ => False) (fun _ _ => False)) (fun _ _ => False)) w1.xs S4
        | none => False) (fun _ _ => False)) (fun _ _ => False)) w.xs (S1 ++ [.lst []])
    | none => False) E
def wpAs (g : Bool) (φ : Phi) : Exs → Sd → Store → (List D → Store → Prop) → EPost → Prop
  | .nil, _, S, Q, _ => Q [] S
  | .cons a r, σ, S, Q, E => wpE g φ a σ S (fun d S1 => wpAs g φ r σ S1 (fun ds S2 => Q (d :: ds) S2) E) E
def wpTg (g : Bool) (φ : Phi) : Tg → D → Sd → Store → (Sd → Store → Prop) → EPost → Prop
  | .name i, d, σ, S, Q, _ => Q (σ.set i (some d)) S
  | .tup ts, d, σ, S, Q, E => (match seqD S d with
    | some ds => ds.length = tgsLen ts ∧ wpTgs g φ ts ds σ S Q E
    | none => False)
  | .sub o i, d, σ, S, Q, _ => wpE g φ o σ S (fun x S1 => wpE g φ i σ S1 (fun y S2 => match x, y with
    | .ref l, .int k => (match S2[l]? with
      | some (.lst xs) => (match ixN xs.length k with
        | some j => Q σ (S2.set l (.lst (xs.set j d)))
        | none => False)
      | _ => False)
    | _, _ => False) (fun _ _ => False)) (fun _ _ => False)
def wpTgs (g : Bool) (φ : Phi) : Tgs → List D → Sd → Store → (Sd → Store → Prop) → EPost → Prop
  | .nil, [], σ, S, Q, _ => Q σ S
  | .cons t r, d :: ds, σ, S, Q, E => wpTg g φ t d σ S (fun σ1 S1 => wpTgs g φ r ds σ1 S1 Q E) E
  | _, _, _, _, _, _ => False
end

/-! ### statements -/
structure EndsD where
  nx : Sd → Store → Prop
  rt : Post
  bk : Sd → Store → Prop := fun _ _ => False
  ct : Sd → Store → Prop := fun _ _ => False
  ex : Exc → Sd → Store → Prop := fun _ _ _ => False

mutual
inductive Sm where
  | expr (e : Ex)
  | asg (t : Tg) (e : Ex)
  | setc (i : Nat) (e : Ex)
  | par2 (i j : Nat) (es : Exs)
  | par3 (i j l : Nat) (es : Exs)
  | aug (i : Nat) (op : Operator) (e : Ex)
  | ret (e : Ex) | retN
  | setf (cs : List Nat) (o : Ex) (x : Str) (e : Ex)
  | pass
  | rais (c : Nat) (e : Ex)
  | tryr (i : Nat) (cs : List Nat) (b : Sms) (h : Hs)
  | ifs (c : Ex) (a b : Sms)
  | whil (c : Ex) (b : Sms)
  | fors (t : Tg) (k : ItK) (src : Exs) (b : Sms)
  | never
inductive Sms where
  | nil | cons (a : Sm) (r : Sms)
end

/-- a loop over items -/
def forW (w : Src) (nx : Sd → Store → Prop) (turn : D → Sd → Store → (Sd → Store → Prop) → Prop) : List D → Sd → Store → Prop
  | [], σ, S => w.ok S ∧ nx σ S
  | x :: xs, σ, S => w.ok S ∧ turn x σ S (forW w nx turn xs)
/-- a while, so many turns at most -/
def whileW (nx : Sd → Store → Prop) (turn : Sd → Store → (Sd → Store → Prop) → (Sd → Store → Prop) → Prop) : Nat → Sd → Store → Prop
  | 0, _, _ => False
  | n + 1, σ, S => turn σ S (whileW nx turn n) nx

mutual
def wpS (g : Bool) (φ : Phi) : Sm → EndsD → Sd → Store → Prop
  | .expr e, D, σ, S => wpE g φ e σ S (fun _ S1 => D.nx σ S1) (fun x S1 => D.ex x σ S1)
  | .asg t e, D, σ, S => wpE g φ e σ S (fun d S1 => wpTg g φ t d σ S1 D.nx (fun x S2 => D.ex x σ S2)) (fun x S1 => D.ex x σ S1)
  | .setc i e, D, σ, S => wpE g φ e σ S (fun d S1 => D.nx (σ.set i (some d)) S1) (fun x S1 => D.ex x σ S1)
  | .par2 i j es, D, σ, S => wpAs g φ es σ S (fun ds S1 => match ds with
    | [a, b] => D.nx ((σ.set i (some a)).set j (some b)) S1
    | _ => False) (fun x S1 => D.ex x σ S1)
  | .par3 i j l es, D, σ, S => wpAs g φ es σ S (fun ds S1 => match ds with
    | [a, b, c] => D.nx (((σ.set i (some a)).set j (some b)).set l (some c)) S1
    | _ => False) (fun x S1 => D.ex x σ S1)
  | .aug i op e, D, σ, S => (match σ[i]? with
    | some (some x) => wpE g φ e σ S (fun y S1 => match op, x, y with
      | .Add, .int a, .int b => D.nx (σ.set i (some (.int (a + b)))) S1
      | .Sub, .int a, .int b => D.nx (σ.set i (some (.int (a - b)))) S1
      | .Mult, .int a, .int b => IntMulOk a b ∧ D.nx (σ.set i (some (.int (a * b)))) S1
      | _, _, _ => False) (fun x S1 => D.ex x σ S1)
    | _ => False)
  | .ret e, D, σ, S => wpE g φ e σ S D.rt (fun x S1 => D.ex x σ S1)
  | .retN, D, σ, S => D.rt .non S
  | .ifs c a b, D, σ, S => wpE g φ c σ S (fun d S1 => match truth d S1 with
    | some true => wpSs g φ a D σ S1
    | some false => wpSs g φ b D σ S1
    | none => False) (fun x S1 => D.ex x σ S1)
  | .whil c b, D, σ, S => ∃ n, whileW D.nx (fun σ S more nx => wpE g φ c σ S (fun d S1 => match truth d S1 with
    | some true => wpSs g φ b { D with nx := more, ct := more, bk := D.nx } σ S1
    | some false => nx σ S1
    | none => False) (fun x S1 => D.ex x σ S1)) n σ S
  | .fors t k src b, D, σ, S => wpAs g φ src σ S (fun ds S1 => match iterR k ds S1 with
    | some (c, w) => c ∧ forW w D.nx (fun x σ S more => wpTg g φ t x σ S (fun σ2 S2 => wpSs g φ b { D with nx := more, ct := more, bk := D.nx } σ2 S2) (fun x S1 => D.ex x σ S1)) w.xs σ S1
    | none => False) (fun x S1 => D.ex x σ S1)
  | .setf cs o x e, D, σ, S => wpE g φ e σ S (fun v S1 => wpE g φ o σ S1 (fun d S2 => match d with
    | .ref l => (match S2[l]? with
      | some (.ins c fs) => cs.contains c = true ∧ fs.length < 1000 ∧ D.nx σ (S2.set l (.ins c (putD x v fs)))
      | _ => False)
    | _ => False) (fun y S2 => D.ex y σ S2)) (fun y S1 => D.ex y σ S1)
  | .pass, D, σ, S => D.nx σ S
  | .rais c e, D, σ, S => wpE g φ e σ S (fun d S1 => D.ex (c, d) σ S1) (fun x S1 => D.ex x σ S1)
  | .tryr i cs b h, D, σ, S => wpSs g φ b { D with ex := fun x σ1 S1 => cs.contains x.1 = true ∧ i < σ1.length ∧ ∃ hs, hgo (exNm x.1) (List.replicate σ1.length none) h = some hs ∧ D.rt (.ref S1.length) (S1 ++ [.lst (hs.map (hiD x.2))]) } σ S
  | .never, _, _, _ => False
def wpSs (g : Bool) (φ : Phi) : Sms → EndsD → Sd → Store → Prop
  | .nil, D, σ, S => D.nx σ S
  | .cons a r, D, σ, S => wpS g φ a { D with nx := fun σ1 S1 => wpSs g φ r D σ1 S1 } σ S
end

/-! ### functions -/
structure Fn where
  name : Str
  ps : List Str
  N : List Str
  g : Bool
  body : Sms
  cls : Option Str := none
  prop : Bool := false
def startD (n : Nat) (ds : List D) : Sd := ds.map some ++ List.replicate (n - ds.length) none
def wpF (T : Nat → Option Fn) : Nat → Phi
  | 0 => fun _ _ _ _ _ => False
  | k + 1 => fun f ds S Q E => match T f with
    | some fn => ds.length = fn.ps.length ∧ wpSs fn.g (wpF T k) fn.body { nx := fun _ S1 => Q .non S1, rt := Q, ex := fun x _ S1 => E x S1 } (startD fn.N.length ds) S
    | none => False
end CC
/-! What is wanted may be weakened. -/
namespace CC
open PySem L2

def PhiMono (φ : Phi) : Prop := ∀ (f : Nat) (ds : List D) (S : Store) (Q Q' : Post) (E E' : EPost), (∀ d S1, Q d S1 → Q' d S1) → (∀ x S1, E x S1 → E' x S1) → φ f ds S Q E → φ f ds S Q' E'

theorem primW_mono {g : Bool} {p : Prim} {ds : List D} {S : Store} {Q Q' : Post} (h : ∀ d S1, Q d S1 → Q' d S1) (w : primW g p ds S Q) : primW g p ds S Q' := by
  unfold primW at w ⊢
  split at w
  · exact ⟨w.1, h _ _ w.2⟩
  · exact w

theorem compW_mono {w : Src} {L : Nat} {Q Q' : Post} {t t' : D → Store → (D → Store → Prop) → (Store → Prop) → Prop} (hQ : ∀ d S1, Q d S1 → Q' d S1)
    (ht : ∀ x S y y' n n', (∀ d S1, y d S1 → y' d S1) → (∀ S1, n S1 → n' S1) → t x S y n → t' x S y' n') : ∀ (xs : List D) (S : Store), compW w L Q t xs S → compW w L Q' t' xs S
  | [], S, h => ⟨h.1, hQ _ _ h.2⟩
  | x :: xs, S, h => ⟨h.1, ht x S _ _ _ _ (fun d S1 ⟨acc, a, b, c⟩ => ⟨acc, a, b, compW_mono hQ ht xs _ c⟩) (fun S1 c => compW_mono hQ ht xs _ c) h.2⟩

theorem comp2W_mono {w : Src} {L : Nat} {Q Q' : Post} {t t' : D → Store → (Store → Prop) → Prop} (hQ : ∀ d S1, Q d S1 → Q' d S1)
    (ht : ∀ x S n n', (∀ S1, n S1 → n' S1) → t x S n → t' x S n') : ∀ (xs : List D) (S : Store), comp2W w L Q t xs S → comp2W w L Q' t' xs S
  | [], S, h => ⟨h.1, hQ _ _ h.2⟩
  | x :: xs, S, h => ⟨h.1, ht x S _ _ (fun S1 c => comp2W_mono hQ ht xs _ c) h.2⟩

section
variable {g : Bool} {φ : Phi} (hφ : PhiMono φ)
include hφ
mutual
theorem wpE_mono : ∀ (m : Ex) {σ : Sd} {S : Store} {Q Q' : Post} {E E' : EPost}, (∀ d S1, Q d S1 → Q' d S1) → (∀ x S1, E x S1 → E' x S1) → wpE g φ m σ S Q E → wpE g φ m σ S Q' E'
  | .var i, σ, S, Q, Q', E, E', hQ, hE, h => by
    simp only [wpE] at h ⊢
    split at h
    · exact hQ _ _ h
    · exact h
  | .const d, σ, S, Q, Q', E, E', hQ, hE, h => by
    simp only [wpE] at h ⊢
    exact hQ _ _ h
  | .glob x d, σ, S, Q, Q', E, E', hQ, hE, h => by
    simp only [wpE] at h ⊢
    exact hQ _ _ h
  | .prim p es, σ, S, Q, Q', E, E', hQ, hE, h => by
    simp only [wpE] at h ⊢
    exact wpAs_mono es (fun ds S1 q => primW_mono hQ q) hE h
  | .meth p o es, σ, S, Q, Q', E, E', hQ, hE, h => by
    simp only [wpE] at h ⊢
    exact wpE_mono o (fun d S1 q => ⟨q.1, wpAs_mono es (fun ds S2 q => primW_mono hQ q) hE q.2⟩) hE h
  | .cut a b c, σ, S, Q, Q', E, E', hQ, hE, h => by
    simp only [wpE] at h ⊢
    exact wpE_mono a (fun x S1 q => wpE_mono b (fun y S2 q => ⟨q.1, wpE_mono c (fun z S3 q => primW_mono hQ q) hE q.2⟩) hE q) hE h
  | .fld cs o x, σ, S, Q, Q', E, E', hQ, hE, h => by
    simp only [wpE] at h ⊢
    refine wpE_mono o (fun d S1 q => ?_) hE h
    split at q
    · refine ⟨q.1, ?_⟩
      have q := q.2
      split at q
      · exact hQ _ _ q
      · exact q
    · exact q
  | .prop tb o x, σ, S, Q, Q', E, E', hQ, hE, h => by
    simp only [wpE] at h ⊢
    refine wpE_mono o (fun d S1 q => ?_) hE h
    split at q
    · split at q
      · exact hφ _ _ _ _ _ _ _ hQ (fun _ _ z => z) q
      · exact q
    · exact q
  | .eqm neg tb es, σ, S, Q, Q', E, E', hQ, hE, h => by
    simp only [wpE] at h ⊢
    refine wpAs_mono es (fun ds S1 q => ?_) hE h
    obtain ⟨x, y, c, fs, f, h1, h2, h3, h4, q⟩ := q
    exact ⟨x, y, c, fs, f, h1, h2, h3, h4, hφ _ _ _ _ _ _ _ (fun d S2 ⟨b, z1, z2⟩ => ⟨b, z1, hQ _ _ z2⟩) (fun _ _ z => z) q⟩
  | .isM c x o, σ, S, Q, Q', E, E', hQ, hE, h => by
    simp only [wpE] at h ⊢
    exact wpE_mono o (fun d S1 ⟨b, z1, z2⟩ => ⟨b, z1, hQ _ _ z2⟩) hE h
  | .make c f es, σ, S, Q, Q', E, E', hQ, hE, h => by
    simp only [wpE] at h ⊢
    exact wpAs_mono es (fun ds S1 q => hφ _ _ _ _ _ _ _ (fun d S2 q => ⟨q.1, hQ _ _ q.2⟩) hE q) hE h
  | .makek c f es ks kes perm, σ, S, Q, Q', E, E', hQ, hE, h => by
    simp only [wpE] at h ⊢
    refine wpAs_mono es (fun ds S1 q => wpAs_mono kes (fun ks S2 q => ?_) hE q) hE h
    split at q
    · exact hφ _ _ _ _ _ _ _ (fun d S2 q => ⟨q.1, hQ _ _ q.2⟩) hE q
    · exact q
  | .notE a, σ, S, Q, Q', E, E', hQ, hE, h => by
    simp only [wpE] at h ⊢
    refine wpE_mono a (fun d S1 q => ?_) hE h
    split at q
    · exact hQ _ _ q
    · exact q
  | .andE a b, σ, S, Q, Q', E, E', hQ, hE, h => by
    simp only [wpE] at h ⊢
    refine wpE_mono a (fun d S1 q => ?_) hE h
    split at q
    · exact wpE_mono b hQ hE q
    · exact hQ _ _ q
    · exact q
  | .orE a b, σ, S, Q, Q', E, E', hQ, hE, h => by
    simp only [wpE] at h ⊢
    refine wpE_mono a (fun d S1 q => ?_) hE h
    split at q
    · exact hQ _ _ q
    · exact wpE_mono b hQ hE q
    · exact q
  | .one a, σ, S, Q, Q', E, E', hQ, hE, h => by
    simp only [wpE] at h ⊢
    exact wpE_mono a hQ hE h
  | .ite c a b, σ, S, Q, Q', E, E', hQ, hE, h => by
    simp only [wpE] at h ⊢
    refine wpE_mono c (fun d S1 q => ?_) hE h
    split at q
    · exact wpE_mono a hQ hE q
    · exact wpE_mono b hQ hE q
    · exact q
  | .chain op op' a b c, σ, S, Q, Q', E, E', hQ, hE, h => by
    simp only [wpE] at h ⊢
    refine wpE_mono a (fun x S1 q => wpE_mono b (fun y S2 q => primW_mono (fun z S3 q => ?_) q) hE q) hE h
    split at q
    · exact wpE_mono c (fun w S4 q => primW_mono hQ q) hE q
    · exact hQ _ _ q
    · exact q
  | .call f es, σ, S, Q, Q', E, E', hQ, hE, h => by
    simp only [wpE] at h ⊢
    exact wpAs_mono es (fun ds S1 q => hφ _ _ _ _ _ _ _ hQ hE q) hE h
  | .callk f es ks kes perm, σ, S, Q, Q', E, E', hQ, hE, h => by
    simp only [wpE] at h ⊢
    refine wpAs_mono es (fun ds S1 q => wpAs_mono kes (fun ks S2 q => ?_) hE q) hE h
    split at q
    · exact hφ _ _ _ _ _ _ _ hQ hE q
    · exact q
  | .comp elt tg k src cond own, σ, S, Q, Q', E, E', hQ, hE, h => by
    simp only [wpE] at h ⊢
    refine wpAs_mono src (fun ds S1 q => ?_) hE h
    split at q
    · refine ⟨q.1, compW_mono hQ (fun x S2 y y' n n' hy hn t => ?_) _ _ q.2⟩
      refine wpTg_mono tg (fun σ2 S3 t => wpAs_mono cond (fun bs S4 t => ?_) (fun _ _ z => z) t) (fun _ _ z => z) t
      split at t
      · exact wpE_mono elt hy (fun _ _ z => z) t
      · split at t
        · exact wpE_mono elt hy (fun _ _ z => z) t
        · exact hn _ t
        · exact t
      · exact t
    · exact q
  | .comp2 elt tg k src tg1 k1 src1 cond own own1, σ, S, Q, Q', E, E', hQ, hE, h => by
    simp only [wpE] at h ⊢
    refine wpAs_mono src (fun ds S1 q => ?_) hE h
    split at q
    · refine ⟨q.1, comp2W_mono hQ (fun x S2 n n' hn t => ?_) _ _ q.2⟩
      refine wpTg_mono tg (fun σ2 S3 t => wpAs_mono src1 (fun ds1 S4 t => ?_) (fun _ _ z => z) t) (fun _ _ z => z) t
      split at t
      · refine ⟨t.1, compW_mono (fun _ S5 z => hn _ z) (fun x1 S5 y y' m m' hy hm t => ?_) _ _ t.2⟩
        refine wpTg_mono tg1 (fun σ3 S6 t => wpAs_mono cond (fun bs S7 t => ?_) (fun _ _ z => z) t) (fun _ _ z => z) t
        split at t
        · exact wpE_mono elt hy (fun _ _ z => z) t
        · split at t
          · exact wpE_mono elt hy (fun _ _ z => z) t
          · exact hm _ t
          · exact t
        · exact t
      · exact t
    · exact q
theorem wpAs_mono : ∀ (es : Exs) {σ : Sd} {S : Store} {Q Q' : List D → Store → Prop} {E E' : EPost}, (∀ d S1, Q d S1 → Q' d S1) → (∀ x S1, E x S1 → E' x S1) → wpAs g φ es σ S Q E → wpAs g φ es σ S Q' E'
  | .nil, σ, S, Q, Q', E, E', hQ, hE, h => by
    simp only [wpAs] at h ⊢
    exact hQ _ _ h
  | .cons a r, σ, S, Q, Q', E, E', hQ, hE, h => by
    simp only [wpAs] at h ⊢
    exact wpE_mono a (fun d S1 q => wpAs_mono r (fun ds S2 q => hQ _ _ q) hE q) hE h
theorem wpTg_mono : ∀ (t : Tg) {d : D} {σ : Sd} {S : Store} {Q Q' : Sd → Store → Prop} {E E' : EPost}, (∀ σ1 S1, Q σ1 S1 → Q' σ1 S1) → (∀ x S1, E x S1 → E' x S1) → wpTg g φ t d σ S Q E → wpTg g φ t d σ S Q' E'
  | .name i, d, σ, S, Q, Q', E, E', hQ, hE, h => by
    simp only [wpTg] at h ⊢
    exact hQ _ _ h
  | .tup ts, d, σ, S, Q, Q', E, E', hQ, hE, h => by
    simp only [wpTg] at h ⊢
    split at h
    · exact ⟨h.1, wpTgs_mono ts hQ hE h.2⟩
    · exact h
  | .sub o i, d, σ, S, Q, Q', E, E', hQ, hE, h => by
    simp only [wpTg] at h ⊢
    refine wpE_mono o (fun x S1 q => wpE_mono i (fun y S2 q => ?_) (fun _ _ z => z) q) (fun _ _ z => z) h
    split at q
    · split at q
      · split at q
        · exact hQ _ _ q
        · exact q
      · exact q
    · exact q
theorem wpTgs_mono : ∀ (t : Tgs) {ds : List D} {σ : Sd} {S : Store} {Q Q' : Sd → Store → Prop} {E E' : EPost}, (∀ σ1 S1, Q σ1 S1 → Q' σ1 S1) → (∀ x S1, E x S1 → E' x S1) → wpTgs g φ t ds σ S Q E → wpTgs g φ t ds σ S Q' E'
  | .nil, [], σ, S, Q, Q', E, E', hQ, hE, h => by
    simp only [wpTgs] at h ⊢
    exact hQ _ _ h
  | .cons t r, d :: ds, σ, S, Q, Q', E, E', hQ, hE, h => by
    simp only [wpTgs] at h ⊢
    exact wpTg_mono t (fun σ1 S1 q => wpTgs_mono r hQ hE q) hE h
  | .nil, _ :: _, σ, S, Q, Q', E, E', hQ, hE, h => by simp only [wpTgs] at h
  | .cons _ _, [], σ, S, Q, Q', E, E', hQ, hE, h => by simp only [wpTgs] at h
end

/-- what is wanted behind a statement is less -/
structure EndsD.Le (D D' : EndsD) : Prop where
  nx : ∀ σ S, D.nx σ S → D'.nx σ S
  rt : ∀ d S, D.rt d S → D'.rt d S
  bk : ∀ σ S, D.bk σ S → D'.bk σ S
  ct : ∀ σ S, D.ct σ S → D'.ct σ S
  ex : ∀ x σ S, D.ex x σ S → D'.ex x σ S

omit hφ in
theorem forW_mono {w : Src} {nx nx' : Sd → Store → Prop} {t t' : D → Sd → Store → (Sd → Store → Prop) → Prop} (hn : ∀ σ S, nx σ S → nx' σ S)
    (ht : ∀ x σ S m m', (∀ σ1 S1, m σ1 S1 → m' σ1 S1) → t x σ S m → t' x σ S m') : ∀ (xs : List D) (σ : Sd) (S : Store), forW w nx t xs σ S → forW w nx' t' xs σ S
  | [], σ, S, h => ⟨h.1, hn _ _ h.2⟩
  | x :: xs, σ, S, h => ⟨h.1, ht x σ S _ _ (fun σ1 S1 q => forW_mono hn ht xs σ1 S1 q) h.2⟩
omit hφ in
theorem whileW_mono {nx nx' : Sd → Store → Prop} {t t' : Sd → Store → (Sd → Store → Prop) → (Sd → Store → Prop) → Prop} (hn : ∀ σ S, nx σ S → nx' σ S)
    (ht : ∀ σ S m m' n n', (∀ σ1 S1, m σ1 S1 → m' σ1 S1) → (∀ σ1 S1, n σ1 S1 → n' σ1 S1) → t σ S m n → t' σ S m' n') : ∀ (k : Nat) (σ : Sd) (S : Store), whileW nx t k σ S → whileW nx' t' k σ S
  | 0, _, _, h => h
  | k + 1, σ, S, h => ht σ S _ _ _ _ (fun σ1 S1 q => whileW_mono hn ht k σ1 S1 q) hn h

mutual
theorem wpS_mono : ∀ (m : Sm) {D D' : EndsD} {σ : Sd} {S : Store}, D.Le D' → wpS g φ m D σ S → wpS g φ m D' σ S
  | .expr e, D, D', σ, S, l, h => by
    simp only [wpS] at h ⊢
    exact wpE_mono hφ e (fun _ _ q => l.nx _ _ q) (fun _ _ q => l.ex _ _ _ q) h
  | .asg t e, D, D', σ, S, l, h => by
    simp only [wpS] at h ⊢
    exact wpE_mono hφ e (fun _ _ q => wpTg_mono hφ t l.nx (fun _ _ q => l.ex _ _ _ q) q) (fun _ _ q => l.ex _ _ _ q) h
  | .setc i e, D, D', σ, S, l, h => by
    simp only [wpS] at h ⊢
    exact wpE_mono hφ e (fun _ _ q => l.nx _ _ q) (fun _ _ q => l.ex _ _ _ q) h
  | .par2 i j es, D, D', σ, S, l, h => by
    simp only [wpS] at h ⊢
    refine wpAs_mono hφ es (fun ds S1 q => ?_) (fun _ _ q => l.ex _ _ _ q) h
    split at q
    · exact l.nx _ _ q
    · exact q
  | .par3 i j k es, D, D', σ, S, l, h => by
    simp only [wpS] at h ⊢
    refine wpAs_mono hφ es (fun ds S1 q => ?_) (fun _ _ q => l.ex _ _ _ q) h
    split at q
    · exact l.nx _ _ q
    · exact q
  | .aug i op e, D, D', σ, S, l, h => by
    simp only [wpS] at h ⊢
    split at h
    · refine wpE_mono hφ e (fun y S1 q => ?_) (fun _ _ q => l.ex _ _ _ q) h
      split at q
      · exact l.nx _ _ q
      · exact l.nx _ _ q
      · exact ⟨q.1, l.nx _ _ q.2⟩
      · exact q
    · exact h
  | .ret e, D, D', σ, S, l, h => by
    simp only [wpS] at h ⊢
    exact wpE_mono hφ e l.rt (fun _ _ q => l.ex _ _ _ q) h
  | .retN, D, D', σ, S, l, h => by
    simp only [wpS] at h ⊢
    exact l.rt _ _ h
  | .ifs c a b, D, D', σ, S, l, h => by
    simp only [wpS] at h ⊢
    refine wpE_mono hφ c (fun d S1 q => ?_) (fun _ _ q => l.ex _ _ _ q) h
    split at q
    · exact wpSs_mono a l q
    · exact wpSs_mono b l q
    · exact q
  | .whil c b, D, D', σ, S, l, h => by
    simp only [wpS] at h ⊢
    obtain ⟨n, h⟩ := h
    refine ⟨n, whileW_mono l.nx (fun σ S m m' nx nx' hm hn t => ?_) n σ S h⟩
    refine wpE_mono hφ c (fun d S1 q => ?_) (fun _ _ q => l.ex _ _ _ q) t
    split at q
    · refine wpSs_mono b ?_ q
      exact ⟨hm, l.rt, l.nx, hm, l.ex⟩
    · exact hn _ _ q
    · exact q
  | .fors t k src b, D, D', σ, S, l, h => by
    simp only [wpS] at h ⊢
    refine wpAs_mono hφ src (fun ds S1 q => ?_) (fun _ _ q => l.ex _ _ _ q) h
    split at q
    · refine ⟨q.1, forW_mono l.nx (fun x σ S m m' hm t' => ?_) _ _ _ q.2⟩
      exact wpTg_mono hφ t (fun σ2 S2 q => by
        refine wpSs_mono b ?_ q
        exact ⟨hm, l.rt, l.nx, hm, l.ex⟩) (fun _ _ q => l.ex _ _ _ q) t'
    · exact q
  | .setf cs o x e, D, D', σ, S, l, h => by
    simp only [wpS] at h ⊢
    refine wpE_mono hφ e (fun v S1 q => wpE_mono hφ o (fun d S2 q => ?_) (fun _ _ q => l.ex _ _ _ q) q) (fun _ _ q => l.ex _ _ _ q) h
    split at q
    · split at q
      · exact ⟨q.1, q.2.1, l.nx _ _ q.2.2⟩
      · exact q
    · exact q
  | .pass, D, D', σ, S, l, h => by
    simp only [wpS] at h ⊢
    exact l.nx _ _ h
  | .rais c e, D, D', σ, S, l, h => by
    simp only [wpS] at h ⊢
    exact wpE_mono hφ e (fun _ _ q => l.ex _ _ _ q) (fun _ _ q => l.ex _ _ _ q) h
  | .tryr i cs b hd, D, D', σ, S, l, h => by
    simp only [wpS] at h ⊢
    refine wpSs_mono b ?_ h
    exact ⟨l.nx, l.rt, l.bk, l.ct, fun x σ S ⟨q1, q0, hs, q2, q3⟩ => ⟨q1, q0, hs, q2, l.rt _ _ q3⟩⟩
  | .never, D, D', σ, S, l, h => by simp only [wpS] at h
theorem wpSs_mono : ∀ (m : Sms) {D D' : EndsD} {σ : Sd} {S : Store}, D.Le D' → wpSs g φ m D σ S → wpSs g φ m D' σ S
  | .nil, D, D', σ, S, l, h => by
    simp only [wpSs] at h ⊢
    exact l.nx _ _ h
  | .cons a r, D, D', σ, S, l, h => by
    simp only [wpSs] at h ⊢
    refine wpS_mono a ?_ h
    exact ⟨fun _ _ q => wpSs_mono r l q, l.rt, l.bk, l.ct, l.ex⟩
end
end

theorem wpF_mono (T : Nat → Option Fn) : ∀ k, PhiMono (wpF T k)
  | 0 => fun _ _ _ _ _ _ _ _ _ h => h
  | k + 1 => fun f ds S Q Q' E E' hQ hE h => by
    simp only [wpF] at h ⊢
    split at h
    · refine ⟨h.1, wpSs_mono (wpF_mono T k) _ ?_ h.2⟩
      exact ⟨fun _ S q => hQ _ _ q, hQ, fun _ _ q => q, fun _ _ q => q, fun x _ S q => hE _ _ q⟩
    · exact h
end CC
/-! The operations are those of the model. -/
namespace CC
open L2 PySem PySem.Spec PyProof.Rows

/-- what is wanted of a value of the layer, as what is wanted of plain data -/
def QL (K : PySem.W.Frag) (ca : Nat → Addr) (Q : VK) (ι : List Addr) (H : Hp) : Post := fun d S' =>
  ∀ ι' H' v, Ext K ι H ι' H' → Rep K ca ι' S' H' → RelD K ι' H' d v → Q v H'
theorem QL.of {K : PySem.W.Frag} {ca : Nat → Addr} {Q : VK} {ι ι' : List Addr} {H H' : Hp} (x : Ext K ι H ι' H') {d : D} {S : Store} (h : QL K ca Q ι H d S) : QL K ca Q ι' H' d S :=
  fun ι2 H2 v y R r => h ι2 H2 v (x.trans y) R r

/-- an operation, by values of the layer -/
def rP (K : PySem.W.Frag) (ca : Nat → Addr) (g : Bool) (p : Prim) : List V → Hp → VK → Prop := fun xs H Q =>
  ∃ ι S ds o, Rep K ca ι S H ∧ RelDs K ι H ds xs ∧ primR g p ds S = some o ∧ o.c ∧ QL K ca Q ι H o.d o.S

section
variable {K : PySem.W.Frag} {ca : Nat → Addr} {ι : List Addr} {H : Hp} {S : Store} {Q : VK} {d : D} {v : V}
/-- a value in the same store -/
theorem QL.same (h : QL K ca Q ι H d S) (R : Rep K ca ι S H) (r : RelD K ι H d v) : Q v H := h ι H v Ext.refl R r
/-- a new list -/
theorem QL.new {ds : List D} {vs : List V} (h : QL K ca Q ι H (.ref S.length) (S ++ [.lst ds])) (R : Rep K ca ι S H) (r : RelDs K ι H ds vs) : ∀ p, H p = none → Q (.ref p) (upd H p (.lst vs)) := fun p hp =>
  h (ι ++ [p]) _ _ (Ext.push hp) (R.pushLst hp r) (.ref (by rw [← R.len]; simp))
/-- a new tuple -/
theorem QL.newT {ds : List D} {vs : List V} (h : QL K ca Q ι H (.tup ds) S) (R : Rep K ca ι S H) (r : RelDs K ι H ds vs) : ∀ p, H p = none → Q (.ref p) (upd H p (.tup vs)) := fun p hp =>
  h ι _ _ (Ext.laid hp) (R.laid hp) (.tup (.inl (.inl upd_same)) (r.mono (Ext.laid hp)))
/-- a list written -/
theorem QL.wrote {l : Nat} {a : Addr} {ds0 ds : List D} {vs vs0 : List V} (h : QL K ca Q ι H d (S.set l (.lst ds))) (R : Rep K ca ι S H) (h1 : S[l]? = some (.lst ds0)) (h2 : ι[l]? = some a) (h3 : H a = some (.lst vs0)) (r : RelDs K ι H ds vs) (rd : RelD K ι H d v) : Q v (upd H a (.lst vs)) :=
  h ι _ v (Ext.wrote h3 trivial) (R.setLst h1 h2 r) (rd.mono (Ext.wrote h3 trivial))
theorem RelDs.flat {ds : List D} {vs : List V} (r : RelDs K ι H ds vs) : ∀ k : Nat, RelDs K ι H (List.replicate k ds).flatten (List.replicate k vs).flatten
  | 0 => .nil
  | k + 1 => by
    rw [List.replicate_succ, List.replicate_succ, List.flatten_cons, List.flatten_cons]
    exact r.append (RelDs.flat r k)

/-! ### data -/
theorem dpAll_of {f : D → Option PyData} (h : ∀ d v pd, f d = some pd → RelD K ι H d v → Dp K H v pd) : ∀ {ds : List D} {vs : List V} {es : List PyData}, denL f ds = some es → RelDs K ι H ds vs → DpAll K H vs es
  | [], _, _, e, .nil => by
    cases e
    exact .nil
  | d :: ds, _, es, e, .cons a b => by
    unfold denL at e
    split at e
    · rename_i e1 e2 h1 h2
      cases e
      exact .cons (h _ _ _ h1 a) (dpAll_of h h2 b)
    · cases e
theorem dp_of (R : Rep K ca ι S H) : ∀ (n : Nat) (d : D) (v : V) (pd : PyData), den n S d = some pd → RelD K ι H d v → Dp K H v pd
  | 0, d, v, pd, e, r => by
    unfold den at e
    cases r with
    | non => cases e; exact .non
    | bl b => cases e; exact .bl b
    | int i => cases e; exact .int i
    | str x => cases e; exact .str x
    | tup _ _ => cases e
    | ref _ => cases e
  | n + 1, d, v, pd, e, r => by
    unfold den at e
    cases r with
    | non => cases e; exact .non
    | bl b => cases e; exact .bl b
    | int i => cases e; exact .int i
    | str x => cases e; exact .str x
    | tup h a =>
      dsimp only at e
      split at e
      · rename_i es h1
        cases e
        exact .tup h (dpAll_of (dp_of R n) h1 a)
      · cases e
    | @ref l a h =>
      dsimp only at e
      split at e
      · rename_i ds h1
        split at e
        · rename_i es h2
          cases e
          obtain ⟨b, vs, e1, e2, e3⟩ := R.seq h1 (.ref h)
          cases e1
          exact .lst e2 (dpAll_of (dp_of R n) h2 e3)
        · cases e
      · cases e
end

section
variable {X : Cx} {ca : Nat → Addr} {g : Bool}
abbrev rP2 (K : PySem.W.Frag) (ca : Nat → Addr) (g : Bool) (p : Prim) : R2 := fun x y H Q => rP K ca g p [x, y] H Q

theorem op_bin (op : Operator) : OpR X (binaryOp op) (rP2 X.K ca g (.bin op)) := by
  intro pins s σ H x y v u Q I rx ry ⟨ι, S, ds, o, R, r, ho, hc, hq⟩
  cases r with
  | cons r1 r =>
    cases r with
    | cons r2 r =>
      cases r
      simp only [primR] at ho
      unfold binR at ho
      split at ho
      · cases ho; cases r1; cases r2
        exact op_add pins s σ H _ _ v u Q I rx ry ⟨_, _, rfl, rfl, hq.same R (.int _)⟩
      · split at ho
        · rename_i l m a b h1 h2
          cases ho
          obtain ⟨p1, v1, rfl, _, e1, f1⟩ := R.lst h1 r1
          obtain ⟨p2, v2, rfl, _, e2, f2⟩ := R.lst h2 r2
          exact op_cat pins s σ H _ _ v u Q I rx ry ⟨_, _, _, _, rfl, rfl, e1, e2, by rw [← f1.length, ← f2.length]; exact hc, hq.new R (f1.append f2)⟩
        · cases ho
      · cases ho; cases r1; cases r2
        exact op_add_str pins s σ H _ _ v u Q I rx ry ⟨_, _, rfl, rfl, hc, hq.same R (.str _)⟩
      · cases ho; cases r1; cases r2
        exact op_sub pins s σ H _ _ v u Q I rx ry ⟨_, _, rfl, rfl, hq.same R (.int _)⟩
      · cases ho; cases r1; cases r2
        exact (opI (C := IntMulOk) (g := fun i j => i * j) fun i j t u Q s E hc q => mul_int q hc) pins s σ H _ _ v u Q I rx ry ⟨_, _, rfl, rfl, hc, hq.same R (.int _)⟩
      · split at ho
        · rename_i l k a h1
          cases ho; cases r2
          obtain ⟨p1, v1, rfl, _, e1, f1⟩ := R.lst h1 r1
          exact op_rep pins s σ H _ _ v u Q I rx ry ⟨_, _, _, rfl, rfl, e1, hc.1, hc.2.1, by rw [← f1.length]; exact hc.2.2, hq.new R (f1.flat _)⟩
        · cases ho
      · cases ho; cases r1; cases r2
        exact (opI (C := fun i j => j ≠ 0 ∧ DivOk i j) (g := fun i j => i.fdiv j) fun i j t u Q s E hc q => floordiv_int hc.1 q (.inl hc.2)) pins s σ H _ _ v u Q I rx ry ⟨_, _, rfl, rfl, hc, hq.same R (.int _)⟩
      · cases ho; cases r1; cases r2
        exact op_modN pins s σ H _ _ v u Q I rx ry ⟨_, _, rfl, rfl, hc, hq.same R (.int _)⟩
      · cases ho; cases r1; cases r2
        exact (opI (C := fun i j => 0 ≤ j ∧ (Builtin.Int.intBits i : Int) * j ≤ 2 ^ 27) (g := fun i j => i ^ j.toNat) fun i j t u Q s E hc q => pow_int hc.1 hc.2 q) pins s σ H _ _ v u Q I rx ry ⟨_, _, rfl, rfl, hc, hq.same R (.int _)⟩
      · cases ho; cases r1; cases r2
        exact op_shlW pins s σ H _ _ v u Q I rx ry ⟨_, _, rfl, rfl, hc, hq.same R (.int _)⟩
      · cases ho
end
end CC
/-! max of four, any of ints. -/
namespace CC
open PyProof.Rows PySem PySem.Spec L2
section
variable {prog : Program} {w : World} {A : Around} {E : Value → Shared → Prop} {s : Shared}
theorem args_max4 (a b c d : Value) : argsOk "max" ⟨[a, b, c, d], []⟩ := by unfold argsOk; kernel_rfl
theorem max_four {a b c d : Value} {Q : Value → Shared → Prop}
    (h : wpAny (model prog w) A.in1 (pyIter (.ref s.heap.objs.size)) (fun it s₂ => ∃ I fp wr n P St bt, it = .ref I ∧ Walks prog w A.in1 I fp wr n P St ∧ St 0 s₂.heap ∧ (∀ b ∈ fp, b < s₂.heap.objs.size) ∧ 0 < n ∧ CmpOf prog w A.in1 .Gt P bt ∧
      ∀ v h' tk, P (argBest bt (n - 1)) v → (∀ b o, b ∉ wr → s₂.heap.get? b = some o → h'.get? b = some o) → Q v { s₂ with heap := h', toks := tk }) E
      { s with heap := s.heap.push { cls := .type "tuple", data := .seq #[a, b, c, d] } }) :
    wpAny (model prog w) A (call (.builtin "max") [a, b, c, d]) Q E s := by
  have hl : (toString "max" ++ toString ".loop" : String) = "max.loop" := by decide
  refine call_function_tree F.kind_max F.plain_max F.entry_max (args_max4 a b c d) ?_
  show wpAny _ A.in1 (Builtin.Builtins.bindParams "max" ["key", "default"] 0 ⟨[], []⟩ >>= _) _ _ s
  refine wpAny_bind (wpAny_of_eq (show Builtin.Builtins.bindParams "max" ["key", "default"] 0 ⟨[], []⟩ = pure [none, none] from rfl) ?_)
  show wpAny _ A.in1 (newTuple [a, b, c, d] >>= _) _ _ s
  refine wpAny_bind (wpAny_newObj_type (wpAny_bind (wpAny_mono h (fun it s₂ h₂ => ?_) fun _ _ e => e)))
  obtain ⟨I, fp, wr, n, P, St, bt, rfl, W, hst, hfp, hn, hcmp, hQ⟩ := h₂
  refine wpAny_bind (wpAny_newObj_type ?_)
  have hS : s₂.heap.objs.size ∉ fp := fun hm => Nat.lt_irrefl _ (hfp _ hm)
  rw [hl]
  exact wpAny_pure ⟨plainId_quiet F.plain_max_loop _, codeAny_max_loop_first W bt hcmp s₂.heap.objs.size hS hn (W.frame _ _ _ hst fun b _ o e => Heap.get?_push_of_some _ e) (Heap.get?_push_size _ rfl) fun v h' tk hP hk =>
    hQ v h' tk hP fun b o hb e => hk b o hb (Nat.ne_of_lt (Heap.lt_size e)) (Heap.get?_push_of_some _ e)⟩
theorem max_ints4 {a b c d : Int} {t u x y : Tok} {Q : Value → Shared → Prop} (hh : A.handled = none)
    (h : ∀ h' tk M t', (∀ d o, s.heap.get? d = some o → h'.get? d = some o) → (M = a ∨ M = b ∨ M = c ∨ M = d) → a ≤ M → b ≤ M → c ≤ M → d ≤ M → Q (.int M t') { s with heap := h', toks := tk }) :
    wpAny (model prog w) A (call (.builtin "max") [.int a t, .int b u, .int c x, .int d y]) Q E s := by
  have hT : (s.heap.push { cls := .type "tuple", data := .seq #[.int a t, .int b u, .int c x, .int d y] }).IsTuple s.heap.objs.size (intItems #[(a, t), (b, u), (c, x), (d, y)]) := ⟨_, Heap.get?_push_size _ rfl, rfl, 0, by simp [intItems]⟩
  refine max_four (wpAny_pyIter_tuple hT ?_)
  have hsz : (s.heap.push { cls := .type "tuple", data := .seq #[.int a t, .int b u, .int c x, .int d y] }).objs.size = s.heap.objs.size + 1 := Heap.size_push ..
  refine ⟨_, [_, s.heap.objs.size], [_], _, _, _, _, rfl, Walks.tuple (A := A.in1) hh _ s.heap.objs.size (by rw [hsz]; exact Nat.ne_of_lt (Nat.lt_succ_self _)) (intItems #[(a, t), (b, u), (c, x), (d, y)]),
    ⟨⟨_, Heap.get?_push_size _ rfl, rfl, rfl⟩, hT.push _⟩, fun d hd => ?_, by simp [intItems], CmpOf.ints_gt (numAt #[(a, t), (b, u), (c, x), (d, y)]) (fun _ _ => intItems_at), fun v h' tk hP hk => ?_⟩
  · show d < ((s.heap.push _).push _).objs.size
    rw [Heap.size_push, hsz]
    simp only [List.mem_cons, List.not_mem_nil, or_false] at hd
    rcases hd with rfl | rfl
    · rw [hsz]
      exact Nat.lt_succ_self _
    · exact Nat.lt_succ_of_lt (Nat.lt_succ_self _)
  · have old : ∀ d o, s.heap.get? d = some o → h'.get? d = some o := fun d o e => by
      refine hk d o (fun hm => ?_) (Heap.get?_push_of_some _ (Heap.get?_push_of_some _ e))
      have e2 := Heap.lt_size e
      simp only [List.mem_cons, List.not_mem_nil, or_false] at hm
      rw [hm, hsz] at e2
      exact Nat.lt_irrefl _ (Nat.lt_of_succ_lt e2)
    obtain ⟨t', rfl⟩ := intItems_at hP
    obtain ⟨h1, h2⟩ := argBest_gt (numAt #[(a, t), (b, u), (c, x), (d, y)]) ((intItems #[(a, t), (b, u), (c, x), (d, y)]).size - 1)
    have hs : (intItems #[(a, t), (b, u), (c, x), (d, y)]).size - 1 = 3 := by simp [intItems]
    rw [hs] at h1 h2 ⊢
    generalize argBest (fun i j => decide (numAt #[(a, t), (b, u), (c, x), (d, y)] i > numAt #[(a, t), (b, u), (c, x), (d, y)] j)) 3 = m at h1 h2 ⊢
    refine h h' tk _ t' old ?_ (h2 0 (by omega)) (h2 1 (by omega)) (h2 2 (by omega)) (h2 3 (by omega))
    match m, h1 with
    | 0, _ => exact .inl rfl
    | 1, _ => exact .inr (.inl rfl)
    | 2, _ => exact .inr (.inr (.inl rfl))
    | 3, _ => exact .inr (.inr (.inr rfl))
    | n + 4, h => omega
theorem ints_at : ∀ {its : List Value} {ns : List Int} {i : Nat} {v : Value}, IntsAre its ns → its[i]? = some v → ∃ n t, ns[i]? = some n ∧ v = .int n t
  | _, _, 0, _, .cons n t r, h => ⟨n, t, rfl, by simpa using h.symm⟩
  | _, _, i + 1, v, .cons n t r, h => by
    obtain ⟨m, u, e1, e2⟩ := ints_at (i := i) (v := v) r (by simpa using h)
    exact ⟨m, u, by simpa using e1, e2⟩
theorem truth_nums {ns : List Int} {its : List Value} (e : IntsAre its ns) :
    TruthOf prog w A (fun i v => its.toArray[i]? = some v) (fun i => ns.getD i 0 != 0) := fun i v s Q E hv hq => by
  have hv' : its[i]? = some v := by simpa using hv
  obtain ⟨n, t, e1, rfl⟩ := ints_at e hv'
  have hg : ns.getD i 0 = n := by rw [List.getD_eq_getElem?_getD, e1]; rfl
  have hq : Q (ns.getD i 0 != 0) s := hq
  rw [hg] at hq
  exact PySem.P.truthy_int hq
end
theorem any_nums : ∀ ns : List Int, (List.range ns.length).any (fun i => ns.getD i 0 != 0) = ns.any (· != 0)
  | [] => rfl
  | b :: bs => by
    rw [List.length_cons, List.range_succ_eq_map, List.any_cons, List.any_map, List.any_cons, ← any_nums bs]
    rfl
section
variable {X : Cx}
theorem call_max4 (hc : X.calm = true) : CallR X (.builtin "max") (fun xs H Q => ∃ i j k l, xs = [.int i, .int j, .int k, .int l] ∧ ∀ m, (m = i ∨ m = j ∨ m = k ∨ m = l) → i ≤ m → j ≤ m → k ≤ m → l ≤ m → Q (.int m) H) := by
  intro pins s σ H xs us Q I r h
  obtain ⟨i, j, k, l, rfl, q⟩ := h
  cases r with
  | cons r1 r =>
    cases r with
    | cons r2 r =>
      cases r with
      | cons r3 r =>
        cases r with
        | cons r4 r =>
          cases r
          obtain ⟨t1, rfl⟩ := r1
          obtain ⟨t2, rfl⟩ := r2
          obtain ⟨t3, rfl⟩ := r3
          obtain ⟨t4, rfl⟩ := r4
          exact max_ints4 (I.ok.hd hc) fun h' tk M t' old e a b c d => ⟨.int M, H, I.kept old, ⟨_, rfl⟩, q M e a b c d⟩
theorem call_anyI (hc : X.calm = true) : CallR X (.builtin "any") (fun vs H Q => ∃ (a : Addr) (ns : List Int), vs = [V.ref a] ∧ SqL X.K H a (ns.map V.int) ∧ Q (.bl (ns.any (· != 0))) H) := by
  intro pins s σ H vs us Q I r h
  obtain ⟨a, ns, rfl, hs, q⟩ := h
  obtain ⟨its, rv, hl, _⟩ := I.list hs
  rw [Vals.ref1 r]
  have hb := rv.ints
  refine call_any_walk (iter_any hl.isList fun s₂ e2 st hne => ?_)
  subst e2
  refine ⟨_, _, _, _, _, _, _, rfl, Walks.list (A := X.A.in1) (I.ok.hd hc) _ a hne its.toArray, st, truth_nums hb, fun h' tk hk => ?_⟩
  refine ⟨.bl _, H, I.kept fun b o eo => hk b o (fun hm => ?_) (Heap.get?_push_of_some _ eo), ?_, q⟩
  · rcases List.mem_cons.mp hm with e1 | hm
    · exact absurd (e1 ▸ Heap.lt_size eo) (Nat.lt_irrefl _)
    · cases hm
  · show Value.bool _ = Value.bool _
    rw [← any_nums, List.size_toArray, hb.length]
end
end CC
/-! A set of pairs of ints, sorted: the pairs' order whatever their signs. -/
namespace CC
open L2 PySem PySem.Spec PyProof.Rows

theorem ltP_tri {p q : Int × Int} (h : p ≠ q) : ltP p q ∨ ltP q p := by
  obtain ⟨a, b⟩ := p
  obtain ⟨c, d⟩ := q
  unfold ltP
  simp only [ne_eq, Prod.mk.injEq, not_and] at h ⊢
  omega
/-- a number for a pair: the second part within M -/
def rkP (M : Int) (p : Int × Int) : Int := p.1 * (2 * M + 1) + p.2
theorem rk_of_lt {M : Int} {p q : Int × Int} (hp : -M ≤ p.2 ∧ p.2 ≤ M) (hq : -M ≤ q.2 ∧ q.2 ≤ M) (h : ltP p q) : rkP M p < rkP M q := by
  unfold rkP
  rcases h with h | ⟨h, h2⟩
  · have := Int.mul_le_mul_of_nonneg_right (a := p.1 + 1) (b := q.1) (c := 2 * M + 1) (by omega) (by omega)
    rw [Int.add_mul, Int.one_mul] at this
    generalize p.1 * (2 * M + 1) = X at this ⊢
    generalize q.1 * (2 * M + 1) = Y at this ⊢
    omega
  · rw [h]; omega
theorem rk_lt {M : Int} {p q : Int × Int} (hp : -M ≤ p.2 ∧ p.2 ≤ M) (hq : -M ≤ q.2 ∧ q.2 ≤ M) : rkP M p < rkP M q ↔ ltP p q := by
  refine ⟨fun h => ?_, rk_of_lt hp hq⟩
  rcases Classical.em (p = q) with e | e
  · subst e; omega
  · rcases ltP_tri e with z | z
    · exact z
    · have := rk_of_lt hq hp z; omega
/-- a bound of the second parts -/
theorem exM : ∀ ps : List (Int × Int), ∃ M : Int, ∀ p ∈ ps, -M ≤ p.2 ∧ p.2 ≤ M
  | [] => ⟨0, fun p h => nomatch h⟩
  | p :: ps => by
    obtain ⟨M, h⟩ := exM ps
    refine ⟨max M (max p.2 (-p.2)), fun q hq => ?_⟩
    rcases List.mem_cons.mp hq with rfl | hq
    · omega
    · have := h q hq; omega
/-- the pair of two ints -/
def prL : List Int → Int × Int
  | [x, y] => (x, y)
  | _ => (0, 0)

section
variable {prog : Program} {w : World} {A : Around} {E : Value → Shared → Prop} {s : Shared}
theorem lexP {b : Bool} {xs ys : List Value} {x y x' y' : Int} {Q : Bool → Shared → Prop} (hx : IntsAre xs [x, y]) (hy : IntsAre ys [x', y']) (h : Q (decide (ltP (x, y) (x', y'))) s) :
    PySem.W.KatLex prog w A b false Q (xs.zip ys) 0 s := by
  cases hx with
  | cons _ t1 hx =>
    cases hx with
    | cons _ t2 hx =>
      cases hx
      cases hy with
      | cons _ u1 hy =>
        cases hy with
        | cons _ u2 hy =>
          cases hy
          show PySem.W.KatLex prog w A b false Q ((Value.int x t1, Value.int x' u1) :: (Value.int y t2, Value.int y' u2) :: []) 0 s
          refine PySem.W.kat_cons (wpAny_eqBool_int ?_)
          by_cases e : x = x'
          · subst e
            rw [beq_self_eq_true]
            refine PySem.W.kat_yes (PySem.W.kat_cons (wpAny_eqBool_int ?_))
            by_cases e : y = y'
            · subst e
              rw [beq_self_eq_true]
              refine PySem.W.kat_yes (PySem.W.kat_nil ?_)
              have : decide (ltP (x, y) (x, y)) = false := decide_eq_false (by unfold ltP; simp)
              rw [this] at h
              exact h
            · rw [show (y == y') = false from beq_eq_false_iff_ne.mpr e]
              refine PySem.W.kat_no (TS.oneLt_ints _ ?_)
              have : decide (ltP (x, y) (x, y')) = decide (y < y') := decide_eq_decide.mpr (by unfold ltP; simp)
              rw [this] at h
              exact h
          · rw [show (x == x') = false from beq_eq_false_iff_ne.mpr e]
            refine PySem.W.kat_no (TS.oneLt_ints _ ?_)
            have : decide (ltP (x, y) (x', y')) = decide (x < x') := decide_eq_decide.mpr (by unfold ltP; simp [e])
            rw [this] at h
            exact h
/-- pairs of ints, all -/
def PairsOk (h : Heap) (M : Int) (vs : List Value) : Prop := ∀ v ∈ vs, ∃ p : Int × Int, TS.TupInts h v [p.1, p.2] ∧ -M ≤ p.2 ∧ p.2 ≤ M
theorem PairsOk.keeps {h h' : Heap} {M : Int} {vs : List Value} (x : PairsOk h M vs) (k : ∀ b o, h.get? b = some o → o.cls = .type "tuple" → h'.get? b = some o) : PairsOk h' M vs := fun v hv =>
  let ⟨p, t, r⟩ := x v hv; ⟨p, t.keeps k, r⟩
theorem firstsP {h : Heap} {M : Int} : ∀ vs : List Value, PairsOk h M vs → ∃ fs, PySem.W.KatTups h vs fs ∧ fs.length = vs.length ∧ ∀ f ∈ fs, ∃ n t, f = Value.int n t
  | [], _ => ⟨[], PySem.W.KatTups.nil, rfl, fun f hf => nomatch hf⟩
  | v :: vs, x => by
    obtain ⟨fs, k, hl, hi⟩ := firstsP vs fun u hu => x u (List.mem_cons_of_mem _ hu)
    obtain ⟨p, ⟨a, xs, rfl, ⟨o, ho, hc, n, hd⟩, i⟩, _⟩ := x v List.mem_cons_self
    obtain ⟨l⟩ := xs
    cases i with
    | cons _ t r =>
      refine ⟨_ :: fs, PySem.W.KatTups.cons ho hc hd rfl k, by simp [hl], fun f hf => ?_⟩
      rcases List.mem_cons.mp hf with rfl | hf
      · exact ⟨_, _, rfl⟩
      · exact hi f hf
def rkV (M : Int) (h : Heap) (v : Value) : Int := rkP M (prL (TS.intsOf h v))
theorem rkV_of {M : Int} {h : Heap} {v : Value} {p : Int × Int} (t : TS.TupInts h v [p.1, p.2]) : rkV M h v = rkP M p := by
  unfold rkV
  rw [t.ints] <;> rfl
theorem kindP {M : Int} {vs : List Value} (h2 : 2 ≤ vs.length) (x : PairsOk s.heap M vs) (r : Value → Int) (hr : ∀ v ∈ vs, ∀ p : Int × Int, TS.TupInts s.heap v [p.1, p.2] → r v = rkP M p) (Q : SortKind → Shared → Prop)
    (h : ∀ κ, TS.Cmp prog w A s κ (pairsOf vs) r → Q κ s) : wpAny (model prog w) A (keyKind' vs.toArray) Q E s := by
  obtain ⟨fs, k, hl, hi⟩ := firstsP vs x
  refine PySem.W.kat_kind (T := Value.type "int") k (by omega) (fun f hf => ?_) rfl (h _ ?_)
  · obtain ⟨n, t, rfl⟩ := hi f hf
    exact PySem.W.Looks.of_pure rfl
  · intro p q hp hq Q' E' hQ
    rw [pairsOf_toList] at hp hq
    obtain ⟨n1, t1, b1⟩ := x _ (mem_zip_self hp).2
    obtain ⟨n2, t2, b2⟩ := x _ (mem_zip_self hq).2
    have e1 := hr _ (mem_zip_self hp).2 _ t1
    have e2 := hr _ (mem_zip_self hq).2 _ t2
    have hQ' : Q' (decide (ltP n1 n2)) s := by
      have z : decide (r p.1 < r q.1) = decide (ltP n1 n2) := by rw [e1, e2]; exact decide_eq_decide.mpr (rk_lt b1 b2)
      rw [← z]; exact hQ
    obtain ⟨a, xs, e1, ⟨o, ho, hc, n, hd⟩, i⟩ := t1
    obtain ⟨a', ys, e2, ⟨o', ho', hc', n', hd'⟩, i'⟩ := t2
    rw [e1, e2]
    refine PySem.W.kat_lt ho hd ho' hd' ?_
    have sz : decide (xs.size < ys.size) = false := by
      have l1 := i.length
      have l2 := i'.length
      rw [Array.length_toList] at l1 l2
      simp only [List.length_cons, List.length_nil] at l1 l2
      exact decide_eq_false (by omega)
    rw [sz]
    exact lexP i i' hQ'
/-- xs.sort(), pairs of ints -/
theorem sortP {a : Addr} {vs : List Value} {n : Nat} {M : Int} {Q : Value → Shared → Prop} (ho : s.heap.get? a = some (seqObj "list" vs.toArray n)) (h64 : vs.length < 64) (x : PairsOk s.heap M vs)
    (h : ∀ out : Array Value, out.toList.Perm vs → out.toList.Pairwise (fun u v => rkV M s.heap u ≤ rkV M s.heap v) → Q .none { s with heap := sortedHeap s.heap a vs out }) :
    wpAny (model prog w) A (call (.builtin "list.sort") [.ref a]) Q E s := by
  refine wpAny_call_entry slot_list_sort ⟨_, ho, rfl⟩ entry_list_sort ?_ (args_list_sort _)
  have keep : ∀ b o, s.heap.get? b = some o → o.cls = .type "tuple" → (TS.midHeap s.heap a vs).get? b = some o := fun b o e hc => by
    refine TS.midHeap_old ?_ e
    rintro rfl
    rw [ho] at e
    have e' : seqObj "list" vs.toArray n = o := Option.some.inj e
    rw [← e'] at hc
    have c' : Value.type "list" = Value.type "tuple" := hc
    injection c' with c''
    exact absurd c'' (by decide)
  refine SK.plain_sort (r := rkV M s.heap) ho h64 (fun h2 Q hQ => ?_) fun ps out h1 h2 h3 => ?_
  · refine kindP (s := { s with heap := TS.midHeap s.heap a vs }) h2 (x.keeps keep) _ (fun v hv p t => ?_) Q hQ
    obtain ⟨p0, t0, _⟩ := x v hv
    have e : [p.1, p.2] = [p0.1, p0.2] := t.ints.symm.trans (t0.keeps keep).ints
    rw [rkV_of t0]
    simp only [List.cons.injEq, and_true] at e
    rw [show p = p0 from Prod.ext e.1 e.2]
  · obtain ⟨p, o⟩ := TS.out_rank h1 h2 h3
    exact ⟨_, rfl, h out p o⟩

/-- sorted(xs), pairs of ints -/
theorem sorted_listP {l : Addr} {vs : List Value} {M : Int} {Q : Value → Shared → Prop} (hl : s.heap.IsList l vs.toArray) (h64 : vs.length < 64) (x : PairsOk s.heap M vs)
    (h : ∀ out : Array Value, out.toList.Perm vs → out.toList.Pairwise (fun u v => rkV M s.heap u ≤ rkV M s.heap v) → Q (.ref (s.heap.objs.size + 1)) { s with heap := sortedAll s.heap vs out }) :
    wpAny (model prog w) A (call (.builtin "sorted") [.ref l]) Q E s := by
  refine Calls.call_function_entry kind_sorted plain_sorted entry_sorted (args_sorted1 _) ?_
  unfold Builtin.«sorted»
  refine wpAny_bind (m := checkCount "sorted" 1 1 _) (wpAny_pure ?_)
  refine wpAny_bind (collect_list hl ?_ (by rw [sizeLine_eq]; omega))
  refine wpAny_bind (wpAny_newList ?_ (by rw [sizeLine_eq]; omega))
  have hsz : ((s.heap.push (seqObj "list" #[] 0)).update s.heap.objs.size (Obj.mapSeq (· ++ vs.toArray))).objs.size = s.heap.objs.size + 1 := by
    rw [Heap.size_update, size_push']
  have hoL : (((s.heap.push (seqObj "list" #[] 0)).update s.heap.objs.size (Obj.mapSeq (· ++ vs.toArray))).push (seqObj "list" vs.toArray 0)).get? (s.heap.objs.size + 1) = some (seqObj "list" vs.toArray 0) := by
    rw [← hsz]; exact Heap.get?_push_size _ rfl
  have keep : ∀ b o, s.heap.get? b = some o → o.cls = .type "tuple" → (((s.heap.push (seqObj "list" #[] 0)).update s.heap.objs.size (Obj.mapSeq (· ++ vs.toArray))).push (seqObj "list" vs.toArray 0)).get? b = some o := fun b o q _ => by
    have hlt : b < s.heap.objs.size := Heap.lt_size q
    rw [Heap.get?_push_ne _ _ _ (by rw [hsz]; exact Nat.ne_of_lt (Nat.lt_succ_of_lt hlt)), Heap.get?_update_ne _ _ _ _ (Nat.ne_of_lt hlt), Heap.get?_push_ne _ _ _ (Nat.ne_of_lt hlt)]
    exact q
  have same : ∀ v ∈ vs, rkV M (((s.heap.push (seqObj "list" #[] 0)).update s.heap.objs.size (Obj.mapSeq (· ++ vs.toArray))).push (seqObj "list" vs.toArray 0)) v = rkV M s.heap v := fun v hv => by
    obtain ⟨p, t, _⟩ := x v hv
    rw [rkV_of t, rkV_of (t.keeps keep)]
  show wpAny _ _ _ _ _ { s with heap := ((s.heap.push (seqObj "list" #[] 0)).update s.heap.objs.size (Obj.mapSeq (· ++ vs.toArray))).push (seqObj "list" vs.toArray 0) }
  rw [hsz]
  refine wpAny_bind (wpAny_holding (sortP (M := M) hoL h64 (x.keeps keep) fun out a1 a2 => ?_))
  refine wpAny_pure ⟨_, rfl, h out a1 ?_⟩
  refine List.Pairwise.imp_of_mem (fun {u v} hu hv hle => ?_) a2
  have z : rkV M (((s.heap.push (seqObj "list" #[] 0)).update s.heap.objs.size (Obj.mapSeq (· ++ vs.toArray))).push (seqObj "list" vs.toArray 0)) u ≤ rkV M (((s.heap.push (seqObj "list" #[] 0)).update s.heap.objs.size (Obj.mapSeq (· ++ vs.toArray))).push (seqObj "list" vs.toArray 0)) v := hle
  rw [same u (a1.mem_iff.mp hu), same v (a1.mem_iff.mp hv)] at z
  exact z
/-- items that are addresses of rows -/
theorem rows_of {L : List (Addr × List Int)} : ∀ vs : List Value, (∀ v ∈ vs, ∃ q ∈ L, v = Value.ref q.1) → ∃ L1 : List (Addr × List Int), vs = L1.map (fun q => Value.ref q.1) ∧ ∀ q ∈ L1, q ∈ L
  | [], _ => ⟨[], rfl, fun q h => nomatch h⟩
  | v :: vs, h => by
    obtain ⟨q, hq, rfl⟩ := h v List.mem_cons_self
    obtain ⟨L1, e, k⟩ := rows_of vs fun u hu => h u (List.mem_cons_of_mem _ hu)
    refine ⟨q :: L1, by rw [e, List.map_cons], fun r hr => ?_⟩
    rcases List.mem_cons.mp hr with rfl | hr
    · exact hq
    · exact k r hr
/-- sorted(a set of pairs) -/
theorem sorted_setP {a : Addr} {L : List (Addr × List Int)} {es : Array (Int × Value)} {ep : Nat} {t : SetTable} {Q : Value → Shared → Prop} (R : SetTR prog w s.heap a L es ep t) (hh : A.handled = none)
    (hB : ∀ q ∈ L, ∃ p : Int × Int, q.2 = [p.1, p.2])
    (hQ : ∀ s' p (out : Array Value) (c : Nat) (L' : List (Addr × List Int)), (∀ b o, s.heap.get? b = some o → s'.heap.get? b = some o) → s'.gens = s.gens → s'.os = s.os → s.heap.objs.size ≤ p →
      s'.heap.get? p = some (seqObj "list" out c) → out.toList = L'.map (fun q => Value.ref q.1) → (∀ q ∈ L', q ∈ L) → (L'.map (·.2)).Perm (L.map (·.2)) → L'.Pairwise (fun q r => ¬ ltP (prL r.2) (prL q.2)) → Q (.ref p) s') :
    wpAny (model prog w) A (call (.builtin "sorted") [.ref a]) Q E s := by
  obtain ⟨o, ho, hex, hd⟩ := R.ob
  have hsz := R.size
  have hfew := R.few
  obtain ⟨M, hM⟩ := exM (L.map fun q => prL q.2)
  refine Calls.call_function_entry kind_sorted plain_sorted entry_sorted (args_sorted1 _) ?_
  unfold Builtin.«sorted»
  refine wpAny_bind (m := checkCount "sorted" 1 1 _) (wpAny_pure ?_)
  refine wpAny_bind (collect_set (A := A.in1) hh ⟨o, ho, hex.1, hd⟩ R.fits (by unfold scanBound; omega) R.tab.ris R.led fun s1 vs k1 hz g1 o1 pm => ?_)
  have hes : es.toList.map (·.2) = L.map fun q => Value.ref q.1 := by
    rw [R.rows]
    unfold rowsOf
    rw [List.map_map] <;> rfl
  rw [hes] at pm
  have hvl : vs.length < 64 := by rw [pm.length_eq, List.length_map]; exact hfew
  refine wpAny_bind (wpAny_newList ?_ (by rw [sizeLine_eq]; omega))
  have hoL : (s1.heap.push (seqObj "list" vs.toArray 0)).get? s1.heap.objs.size = some (seqObj "list" vs.toArray 0) := Heap.get?_push_size _ rfl
  have tk : ∀ q ∈ L, TS.TupInts (s1.heap.push (seqObj "list" vs.toArray 0)) (.ref q.1) q.2 := fun q hq => tupInts_of (P := prog) (w := w) (isT_keep (R.tup q hq) fun b u e => Heap.get?_push_of_some _ (k1 b u e))
  have x : PairsOk (s1.heap.push (seqObj "list" vs.toArray 0)) M vs := fun v hv => by
    obtain ⟨q, hq, e⟩ := List.mem_map.mp (pm.mem_iff.mp hv)
    obtain ⟨p, hp⟩ := hB q hq
    have b := hM (prL q.2) (List.mem_map.mpr ⟨q, hq, rfl⟩)
    have e2 : prL q.2 = p := by rw [hp] <;> rfl
    rw [e2] at b
    refine ⟨p, ?_, b⟩
    rw [← hp, ← e]
    exact tk q hq
  refine wpAny_bind (wpAny_holding (sortP (s := { s1 with heap := s1.heap.push (seqObj "list" vs.toArray 0) }) hoL hvl x fun out a1 a2 => ?_))
  obtain ⟨c, hc⟩ := sortedHeap_at (vs := vs) (out := out) hoL
  have pr : out.toList.Perm (L.map fun q => Value.ref q.1) := a1.trans pm
  obtain ⟨L', e', hs'⟩ := rows_of (L := L) out.toList fun v hv => by
    obtain ⟨q, hq, e⟩ := List.mem_map.mp (pr.mem_iff.mp hv)
    exact ⟨q, hq, e.symm⟩
  have fi : ∀ q ∈ L, TS.intsOf (s1.heap.push (seqObj "list" vs.toArray 0)) (.ref q.1) = q.2 := fun q hq => (tk q hq).ints
  have pw : L'.Pairwise (fun q r => ¬ ltP (prL r.2) (prL q.2)) := by
    rw [e'] at a2
    refine List.Pairwise.imp_of_mem (fun {q r} hq hr hle => ?_) (List.pairwise_map.mp a2)
    have z : rkP M (prL q.2) ≤ rkP M (prL r.2) := by
      rw [← fi q (hs' q hq), ← fi r (hs' r hr)]
      exact hle
    have b1 := hM (prL q.2) (List.mem_map.mpr ⟨q, hs' q hq, rfl⟩)
    have b2 := hM (prL r.2) (List.mem_map.mpr ⟨r, hs' r hr, rfl⟩)
    intro h
    have := (rk_lt b2 b1).mpr h
    omega
  have pk : (L'.map (·.2)).Perm (L.map (·.2)) := by
    have z := pr.map (TS.intsOf (s1.heap.push (seqObj "list" vs.toArray 0)))
    rw [e', List.map_map, List.map_map] at z
    have z1 : L'.map (TS.intsOf (s1.heap.push (seqObj "list" vs.toArray 0)) ∘ fun q => Value.ref q.1) = L'.map (·.2) := List.map_congr_left fun q hq => fi q (hs' q hq)
    have z2 : L.map (TS.intsOf (s1.heap.push (seqObj "list" vs.toArray 0)) ∘ fun q => Value.ref q.1) = L.map (·.2) := List.map_congr_left fun q hq => fi q hq
    rw [z1, z2] at z
    exact z
  refine wpAny_pure ⟨_, rfl, hQ _ s1.heap.objs.size out c L' (fun b u e => ?_) g1 o1 hz hc e' hs' pk pw⟩
  have q := k1 b u e
  have hlt := Heap.lt_size q
  show (sortedHeap (s1.heap.push (seqObj "list" vs.toArray 0)) s1.heap.objs.size vs out).get? b = some u
  rw [sortedHeap_old (Nat.ne_of_lt hlt) (by rw [size_push']; exact Nat.lt_succ_of_lt hlt)]
  exact Heap.get?_push_of_some _ q
end
section
variable {X : Cx}
/-- sorted(set), pairs of ints -/
def rSortedPr (K : PySem.W.Frag) (P : Program) (w : World) : List V → Hp → VK → Prop := fun vs H Q => ∃ (a : Addr) (L : List (Addr × List Int)), vs = [V.ref a] ∧ H a = some (SetTO P w a L) ∧ (∀ p ∈ L, SqT K H p.1 (p.2.map V.int)) ∧
  (∀ q ∈ L, ∃ p : Int × Int, q.2 = [p.1, p.2]) ∧
  ∀ (L' : List (Addr × List Int)) (p : Addr), (∀ q ∈ L', q ∈ L) → (L'.map (·.2)).Perm (L.map (·.2)) → (L'.map (·.2)).Nodup → L'.length < 64 → L'.Pairwise (fun q r => ¬ ltP (prL r.2) (prL q.2)) → H p = none → Q (.ref p) (upd H p (.lst (L'.map fun q => V.ref q.1)))
theorem cr_sortedPr (hc : X.calm = true) : CallR X (.builtin "sorted") (rSortedPr X.K X.prog X.w) := by
  intro pins s σ H vs us Q I r h
  obtain ⟨a, L, rfl, ha, hk, hB, q⟩ := h
  have R0 : SetT0 X.prog X.w s.heap a L := (I.hok a _ ha).1
  obtain ⟨es, ep, t, R⟩ := R0.full fun p hp => I.isT (hk p hp)
  rw [Vals.ref1 r]
  refine sorted_setP R (I.ok.hd hc) hB fun s' p out c L' k g o hp hg hout hs pk pw => ?_
  have hfew : L'.length < 64 := by
    have z := pk.length_eq
    rw [List.length_map, List.length_map] at z
    rw [z]; exact R.few
  have hlen : (L'.map fun q => V.ref q.1).length ≤ sizeLine := by rw [List.length_map, sizeLine_eq]; omega
  have hn : H p = none := I.hok.fresh hp
  have hv : Vals (L'.map fun q => V.ref q.1) out.toList := by rw [hout]; exact vals_of_refs L'
  have J : Inv X pins σ (upd H p (.lst (L'.map fun q => V.ref q.1))) { s with heap := s'.heap, gens := s'.gens, drawn := s'.drawn, toks := s'.toks } :=
    I.call (ch := []) (Un.laid k hp hn) (I.hok.laid k hp ⟨hlen, out.toList, c, hv, hg⟩) (by rw [g]; exact I.bare) (fun _ z => nomatch z)
  have e : s' = { s with heap := s'.heap, gens := s'.gens, drawn := s'.drawn, toks := s'.toks } := by
    cases s'
    cases s
    cases o
    rfl
  rw [e]
  exact ⟨.ref p, _, J, rfl, q L' p hs pk (pk.nodup_iff.mpr R.nd) hfew pw hn⟩
end
section
variable {X : Cx}
/-- sorted(list), pairs of ints -/
def rSortedL (K : PySem.W.Frag) : List V → Hp → VK → Prop := fun vs H Q => ∃ (a : Addr) (ks : List (Addr × List Int)), vs = [V.ref a] ∧ SqL K H a (ks.map fun q => V.ref q.1) ∧ (∀ q ∈ ks, SqT K H q.1 (q.2.map V.int)) ∧
  (∀ q ∈ ks, ∃ p : Int × Int, q.2 = [p.1, p.2]) ∧ ks.length < 64 ∧
  ∀ (L' : List (Addr × List Int)) (p : Addr), (∀ q ∈ L', q ∈ ks) → (L'.map (·.2)).Perm (ks.map (·.2)) → L'.Pairwise (fun q r => ¬ ltP (prL r.2) (prL q.2)) → H p = none → Q (.ref p) (upd H p (.lst (L'.map fun q => V.ref q.1)))
theorem cr_sortedL : CallR X (.builtin "sorted") (rSortedL X.K) := by
  intro pins s σ H vs us Q I r h
  obtain ⟨a, ks, rfl, hs, hk, hB, h64, q⟩ := h
  obtain ⟨its, rv, hl, hz⟩ := I.list hs
  rw [Vals.ref1 r]
  have ei := refs_of_vals rv
  subst ei
  obtain ⟨M, hM⟩ := exM (ks.map fun q => prL q.2)
  have tk : ∀ q ∈ ks, TS.TupInts s.heap (.ref q.1) q.2 := fun q hq => tupInts_of (P := X.prog) (w := X.w) (I.isT (hk q hq))
  have fi : ∀ q ∈ ks, TS.intsOf s.heap (.ref q.1) = q.2 := fun q hq => (tk q hq).ints
  refine sorted_listP (M := M) hl.isList (by rw [List.length_map]; exact h64) (fun v hv => ?_) fun out h1 h2 => ?_
  · obtain ⟨q, hq, e⟩ := List.mem_map.mp hv
    obtain ⟨p, hp⟩ := hB q hq
    have b := hM (prL q.2) (List.mem_map.mpr ⟨q, hq, rfl⟩)
    have e2 : prL q.2 = p := by rw [hp] <;> rfl
    rw [e2] at b
    refine ⟨p, ?_, b⟩
    rw [← hp, ← e]
    exact tk q hq
  · obtain ⟨ep, he'⟩ := PyProof.Rows.sortedAll_at s.heap (ks.map fun q => Value.ref q.1) out
    obtain ⟨L', e', hs'⟩ := rows_of (L := ks) out.toList fun v hv => by
      obtain ⟨q, hq, e⟩ := List.mem_map.mp (h1.mem_iff.mp hv)
      exact ⟨q, hq, e.symm⟩
    have pk : (L'.map (·.2)).Perm (ks.map (·.2)) := by
      have z := h1.map (TS.intsOf s.heap)
      rw [e', List.map_map, List.map_map] at z
      have z1 : L'.map (TS.intsOf s.heap ∘ fun q => Value.ref q.1) = L'.map (·.2) := List.map_congr_left fun q hq => fi q (hs' q hq)
      have z2 : ks.map (TS.intsOf s.heap ∘ fun q => Value.ref q.1) = ks.map (·.2) := List.map_congr_left fun q hq => fi q hq
      rw [z1, z2] at z
      exact z
    have pw : L'.Pairwise (fun q r => ¬ ltP (prL r.2) (prL q.2)) := by
      rw [e'] at h2
      refine List.Pairwise.imp_of_mem (fun {q r} hq hr hle => ?_) (List.pairwise_map.mp h2)
      have z : rkP M (prL q.2) ≤ rkP M (prL r.2) := by
        rw [← fi q (hs' q hq), ← fi r (hs' r hr)]
        exact hle
      have b1 := hM (prL q.2) (List.mem_map.mpr ⟨q, hs' q hq, rfl⟩)
      have b2 := hM (prL r.2) (List.mem_map.mpr ⟨r, hs' r hr, rfl⟩)
      intro h
      have := (rk_lt b2 b1).mpr h
      omega
    have hlen : (L'.map fun q => V.ref q.1).length ≤ sizeLine := by
      have z := pk.length_eq
      rw [List.length_map, List.length_map] at z
      rw [List.length_map, sizeLine_eq]; omega
    refine ⟨.ref _, upd H (s.heap.objs.size + 1) (.lst (L'.map fun q => V.ref q.1)), I.laid (t' := s.toks) (fun _ _ => PyProof.Rows.sortedAll_old) (Nat.le_succ _) ⟨hlen, out.toList, ep, by rw [e']; exact vals_of_refs L', he'⟩, rfl, q _ _ hs' pk pw (I.hok.fresh (Nat.le_succ _))⟩
end
/-! ### what the language says of it -/
theorem ltP_irr {p : Int × Int} : ¬ ltP p p := by unfold ltP; omega
theorem ltP_tr {p q r : Int × Int} (h : ltP p q) (k : ltP q r) : ltP p r := by unfold ltP at *; omega
theorem insP_mem {x p : Int × Int} : ∀ {r : List (Int × Int)}, x ∈ insP p r ↔ x = p ∨ x ∈ r
  | [] => by simp [insP]
  | q :: r => by
    unfold insP
    split
    · rename_i e
      subst e
      simp only [List.mem_cons]
      constructor
      · exact .inr
      · rintro (h | h)
        · exact .inl h
        · exact h
    · split
      · simp only [List.mem_cons]
      · simp only [List.mem_cons, insP_mem (r := r)]
        constructor
        · rintro (h | h | h)
          · exact .inr (.inl h)
          · exact .inl h
          · exact .inr (.inr h)
        · rintro (h | h | h)
          · exact .inr (.inl h)
          · exact .inl h
          · exact .inr (.inr h)
theorem insP_pw (p : Int × Int) : ∀ r : List (Int × Int), r.Pairwise ltP → (insP p r).Pairwise ltP
  | [], _ => .cons (fun _ h => nomatch h) .nil
  | q :: r, h => by
    cases h with
    | cons h1 h2 =>
      unfold insP
      split
      · exact .cons h1 h2
      · rename_i ne
        split
        · rename_i lt
          refine .cons (fun x hx => ?_) (.cons h1 h2)
          rcases List.mem_cons.mp hx with rfl | hx
          · exact lt
          · exact ltP_tr lt (h1 x hx)
        · rename_i nl
          refine .cons (fun x hx => ?_) (insP_pw p r h2)
          rcases insP_mem.mp hx with rfl | hx
          · exact (ltP_tri ne).resolve_left nl
          · exact h1 x hx
theorem setP_mem {x : Int × Int} : ∀ {ps : List (Int × Int)}, x ∈ setP ps ↔ x ∈ ps
  | [] => .rfl
  | p :: r => by
    show x ∈ insP p (setP r) ↔ _
    rw [insP_mem, setP_mem, List.mem_cons]
theorem setP_pw : ∀ ps, (setP ps).Pairwise ltP
  | [] => .nil
  | p :: r => insP_pw p _ (setP_pw r)
theorem lt_one : ∀ {a b : List (Int × Int)}, (∀ x, x ∈ a ↔ x ∈ b) → a.Pairwise ltP → b.Pairwise ltP → a = b
  | [], [], _, _, _ => rfl
  | [], y :: b, h, _, _ => nomatch (h y).mpr List.mem_cons_self
  | x :: a, [], h, _, _ => nomatch (h x).mp List.mem_cons_self
  | x :: a, y :: b, h, .cons h1 h2, .cons k1 k2 => by
    have e : x = y := by
      rcases List.mem_cons.mp ((h x).mp List.mem_cons_self) with e | m1
      · exact e
      · rcases List.mem_cons.mp ((h y).mpr List.mem_cons_self) with e | m2
        · exact e.symm
        · exact absurd (ltP_tr (h1 y m2) (k1 x m1)) ltP_irr
    subst e
    rw [lt_one (fun z => ?_) h2 k2]
    constructor
    · intro hz
      rcases List.mem_cons.mp ((h z).mp (List.mem_cons_of_mem _ hz)) with e | m
      · subst e; exact absurd (h1 _ hz) ltP_irr
      · exact m
    · intro hz
      rcases List.mem_cons.mp ((h z).mpr (List.mem_cons_of_mem _ hz)) with e | m
      · subst e; exact absurd (k1 _ hz) ltP_irr
      · exact m
section
variable {K : PySem.W.Frag} {ca : Nat → Addr} {g : Bool} {ι : List Addr} {H : Hp}
/-- pairs in a list: where they stand -/
theorem ks_of : ∀ {ds : List D} {vs : List V} {ps : List (Int × Int)}, prsOf ds = some ps → RelDs K ι H ds vs →
    ∃ ks : List (Addr × List Int), vs = ks.map (fun q => V.ref q.1) ∧ (∀ q ∈ ks, SqT K H q.1 (q.2.map V.int)) ∧ ks.map (·.2) = ps.map fun p => [p.1, p.2]
  | [], _, _, h, r => by
    cases r
    simp only [prsOf] at h
    cases h
    exact ⟨[], rfl, fun q h => (nomatch h), rfl⟩
  | d :: ds, _, ps, h, .cons r1 r => by
    unfold prsOf at h
    split at h
    · rename_i e; cases e
    · rename_i a b r' e
      injection e with e1 e2
      subst e1 e2
      split at h
      · rename_i ps' h'
        cases h
        obtain ⟨ks, rfl, k1, k2⟩ := ks_of h' r
        cases r1 with
        | tup hs rs =>
          cases rs with
          | cons r1 rs =>
            cases rs with
            | cons r2 rs =>
              cases rs; cases r1; cases r2
              refine ⟨(_, [a, b]) :: ks, rfl, fun q hq => ?_, by rw [List.map_cons, k2] <;> rfl⟩
              rcases List.mem_cons.mp hq with rfl | hq
              · exact hs
              · exact k1 q hq
      · cases h
    · cases h
theorem rel_pairs : ∀ {L : List (Addr × List Int)}, (∀ q ∈ L, SqT K H q.1 (q.2.map V.int)) → (∀ q ∈ L, ∃ p : Int × Int, q.2 = [p.1, p.2]) →
    RelDs K ι H ((L.map fun q => prL q.2).map pairD) (L.map fun q => V.ref q.1)
  | [], _, _ => .nil
  | q :: L, h, k => by
    refine .cons ?_ (rel_pairs (fun r hr => h r (List.mem_cons_of_mem _ hr)) fun r hr => k r (List.mem_cons_of_mem _ hr))
    obtain ⟨p, e⟩ := k q List.mem_cons_self
    have hs := h q List.mem_cons_self
    show RelD K ι H (pairD (prL q.2)) (V.ref q.1)
    rw [e] at hs ⊢
    exact .tup hs (.cons (.int _) (.cons (.int _) .nil))
theorem sset_ok {P : Program} {w : World} {v : V} {Q : VK} (h : rP K ca g .sset [v] H Q) : rSetOfT K P w [v] H fun x H1 => rSortedPr K P w [x] H1 Q := by
  obtain ⟨ι, S, ds, o, R, r, ho, hc, hq⟩ := h
  cases r with
  | cons r1 r =>
    cases r
    cases r1 with
    | ref hl =>
      simp only [primR] at ho
      split at ho
      · rename_i xs hx
        split at ho
        · rename_i ps hp
          cases ho
          obtain ⟨a, vs, e1, e2, e3⟩ := R.seq hx (RelD.ref hl)
          obtain ⟨ks, rfl, k1, k2⟩ := ks_of hp e3
          have kp : ∀ q ∈ ks, ∃ p : Int × Int, p ∈ ps ∧ q.2 = [p.1, p.2] := fun q hq => by
            have m : q.2 ∈ ps.map fun p => [p.1, p.2] := by rw [← k2]; exact List.mem_map.mpr ⟨q, hq, rfl⟩
            obtain ⟨p, hp, e⟩ := List.mem_map.mp m
            exact ⟨p, hp, e.symm⟩
          refine ⟨a, ks, by rw [e1], e2, k1, ?_, fun b L hb hL1 hL2 => ?_⟩
          · have z := congrArg List.length k2
            rw [List.length_map, List.length_map] at z
            rw [z]; exact hc
          · have x : Ext K ι H ι (upd H b (SetTO P w b L)) := Ext.laid hb
            have R2 : Rep K ca ι S (upd H b (SetTO P w b L)) := R.laid hb
            have t1 : ∀ q ∈ L, SqT K (upd H b (SetTO P w b L)) q.1 (q.2.map V.int) := fun q hq => SqT.laid hb (k1 q (hL1 q hq))
            have t2 : ∀ q ∈ L, ∃ p : Int × Int, q.2 = [p.1, p.2] := fun q hq => by
              obtain ⟨p, _, e⟩ := kp q (hL1 q hq)
              exact ⟨p, e⟩
            refine ⟨b, L, rfl, upd_same, t1, t2, fun L' p s1 pk nd few pw hn => ?_⟩
            have e : (L'.map fun q => prL q.2) = setP ps := by
              refine lt_one (fun z => ?_) ?_ (setP_pw ps)
              · rw [setP_mem]
                constructor
                · intro hz
                  obtain ⟨q, hq, rfl⟩ := List.mem_map.mp hz
                  obtain ⟨p, hp, e⟩ := kp q (hL1 q (s1 q hq))
                  rw [e]; exact hp
                · intro hz
                  have m : [z.1, z.2] ∈ ks.map (·.2) := by rw [k2]; exact List.mem_map.mpr ⟨z, hz, rfl⟩
                  obtain ⟨q, hq, e⟩ := List.mem_map.mp m
                  have m2 := pk.mem_iff.mpr (hL2 q hq)
                  obtain ⟨q', hq', e'⟩ := List.mem_map.mp m2
                  refine List.mem_map.mpr ⟨q', hq', ?_⟩
                  rw [e', e] <;> rfl
              · rw [List.pairwise_map]
                refine List.Pairwise.imp_of_mem (fun {q r} hq hr h => ?_) (pw.and (List.pairwise_map.mp nd))
                obtain ⟨p1, e1⟩ := t2 q (s1 q hq)
                obtain ⟨p2, e2⟩ := t2 r (s1 r hr)
                have z := h.1
                have ne := h.2
                rw [e1, e2] at z ne ⊢
                refine (ltP_tri fun e => ne ?_).resolve_right z
                have e : p1 = p2 := e
                rw [e]
            have rel := rel_pairs (K := K) (ι := ι) (fun q hq => t1 q (s1 q hq)) fun q hq => t2 q (s1 q hq)
            rw [e] at rel
            exact (hq.of x).new R2 rel p hn
        · cases ho
      · cases ho
    | _ => simp only [primR] at ho; cases ho
end
/-! ### sorted of a list of pairs -/
theorem insQ_perm (p : Int × Int) : ∀ r, (insQ p r).Perm (p :: r)
  | [] => .refl _
  | q :: r => by
    unfold insQ
    split
    · exact ((insQ_perm p r).cons q).trans (.swap p q r)
    · exact .refl _
theorem ordP_perm : ∀ r, (ordP r).Perm r
  | [] => .refl _
  | p :: r => (insQ_perm p _).trans ((ordP_perm r).cons p)
def leP (p q : Int × Int) : Prop := ¬ ltP q p
theorem leP_tr {p q r : Int × Int} (h : leP p q) (k : leP q r) : leP p r := by unfold leP ltP at *; omega
theorem leP_as {p q : Int × Int} (h : leP p q) (k : leP q p) : p = q := by
  rcases Classical.em (p = q) with e | e
  · exact e
  · rcases ltP_tri e with z | z
    · exact absurd z k
    · exact absurd z h
theorem insQ_pw (p : Int × Int) : ∀ r : List (Int × Int), r.Pairwise leP → (insQ p r).Pairwise leP
  | [], _ => .cons (fun _ h => nomatch h) .nil
  | q :: r, .cons h1 h2 => by
    unfold insQ
    split
    · rename_i lt
      refine .cons (fun x hx => ?_) (insQ_pw p r h2)
      rcases List.mem_cons.mp ((insQ_perm p r).mem_iff.mp hx) with rfl | hx
      · unfold leP ltP at *; omega
      · exact h1 x hx
    · rename_i nl
      refine .cons (fun x hx => ?_) (.cons h1 h2)
      rcases List.mem_cons.mp hx with rfl | hx
      · exact nl
      · exact leP_tr nl (h1 x hx)
theorem ordP_pw : ∀ r, (ordP r).Pairwise leP
  | [] => .nil
  | p :: r => insQ_pw p _ (ordP_pw r)
theorem le_one : ∀ {a b : List (Int × Int)}, a.Perm b → a.Pairwise leP → b.Pairwise leP → a = b
  | [], b, h, _, _ => h.nil_eq
  | x :: a, [], h, _, _ => nomatch h.length_eq
  | x :: a, y :: b, h, .cons h1 h2, .cons k1 k2 => by
    have e : x = y := by
      rcases List.mem_cons.mp (h.mem_iff.mp List.mem_cons_self) with e | m1
      · exact e
      · rcases List.mem_cons.mp (h.mem_iff.mpr List.mem_cons_self) with e | m2
        · exact e.symm
        · exact leP_as (h1 y m2) (k1 x m1)
    subst e
    rw [le_one (List.perm_cons x |>.mp h) h2 k2]
section
variable {K : PySem.W.Frag} {ca : Nat → Addr} {g : Bool} {ι : List Addr} {H : Hp}
theorem sortL_ok {S : Store} {a : Addr} {vs : List V} {xs : List D} {ps : List (Int × Int)} {Q : VK} (R : Rep K ca ι S H) (hs : SqL K H a vs) (e3 : RelDs K ι H xs vs) (hp : prsOf xs = some ps) (hc : ps.length < 64)
    (hq : QL K ca Q ι H (.ref S.length) (S ++ [.lst ((ordP ps).map pairD)])) : rSortedL K [.ref a] H Q := by
  obtain ⟨ks, rfl, k1, k2⟩ := ks_of hp e3
  have kp : ∀ q ∈ ks, ∃ p : Int × Int, q.2 = [p.1, p.2] := fun q hq => by
    have m : q.2 ∈ ps.map fun p => [p.1, p.2] := by rw [← k2]; exact List.mem_map.mpr ⟨q, hq, rfl⟩
    obtain ⟨p, _, e⟩ := List.mem_map.mp m
    exact ⟨p, e.symm⟩
  refine ⟨a, ks, rfl, hs, k1, kp, ?_, fun L' p s1 pk pw hn => ?_⟩
  · have z := congrArg List.length k2
    rw [List.length_map, List.length_map] at z
    rw [z]; exact hc
  · have e : (L'.map fun q => prL q.2) = ordP ps := by
      refine le_one ?_ (List.pairwise_map.mpr pw) (ordP_pw ps)
      have z := pk.map prL
      rw [k2, List.map_map, List.map_map] at z
      have z2 : ps.map (prL ∘ fun p => [p.1, p.2]) = ps := by
        exact (List.map_congr_left (g := id) fun p _ => rfl).trans (List.map_id _)
      rw [z2] at z
      exact z.trans (ordP_perm ps).symm
    have rel := rel_pairs (K := K) (ι := ι) (fun q hq => k1 q (s1 q hq)) fun q hq => kp q (s1 q hq)
    rw [e] at rel
    exact hq.new R rel p hn
end
end CC
/-! Comparisons, items, calls of built-ins, methods. -/
namespace CC
open L2 PySem PySem.Spec PyProof.Rows

section
variable {X : Cx} {ca : Nat → Addr} {g : Bool}
theorem RelD.isNon {K : PySem.W.Frag} {ι : List Addr} {H : Hp} {d : D} {v : V} (r : RelD K ι H d v) : decide (v = .non) = isNon d := by
  cases r <;> rfl
theorem op_inT (hu : X.A.units + 65 < cLine) : OpR X (compareOp .In) (fun x y H Q => ∃ d ds, Dp X.K H x d ∧ Dp X.K H y (.tuple ds) ∧ SeqAt.shaped d = true ∧ SeqAt.shaped (.tuple ds) = true ∧ Q (.bl (ds.any fun z => PyData.eqv z d)) H) := by
  intro pins s σ H x y v u Q I rx ry ⟨d, ds, hd, he, sd, se, q⟩
  obtain ⟨as, r1⟩ := Dp.reads I d x v hd rx
  obtain ⟨bs, r2⟩ := Dp.reads I (.tuple ds) y u he ry
  refine SeqAt.in_tuple_reads r2 r1 (SeqAt.canLay_of_shaped se) (SeqAt.canLay_of_shaped sd) ?_ ⟨.bl _, H, I, rfl, q⟩
  have h1 := SeqAt.depth_of_shaped sd
  have h2 : min (PyData.depthAll ds) d.depth ≤ d.depth := Nat.min_le_right _ _
  omega
theorem op_notInT (hu : X.A.units + 65 < cLine) : OpR X (compareOp .NotIn) (fun x y H Q => ∃ d ds, Dp X.K H x d ∧ Dp X.K H y (.tuple ds) ∧ SeqAt.shaped d = true ∧ SeqAt.shaped (.tuple ds) = true ∧ Q (.bl (!ds.any fun z => PyData.eqv z d)) H) := by
  intro pins s σ H x y v u Q I rx ry ⟨d, ds, hd, he, sd, se, q⟩
  obtain ⟨as, r1⟩ := Dp.reads I d x v hd rx
  obtain ⟨bs, r2⟩ := Dp.reads I (.tuple ds) y u he ry
  refine SeqAt.notIn_tuple_reads r2 r1 (SeqAt.canLay_of_shaped se) (SeqAt.canLay_of_shaped sd) ?_ ⟨.bl _, H, I, rfl, q⟩
  have h1 := SeqAt.depth_of_shaped sd
  have h2 : min (PyData.depthAll ds) d.depth ≤ d.depth := Nat.min_le_right _ _
  omega

theorem op_cmpP (hu : X.A.units + 65 < cLine) (op : CmpOp) : OpR X (compareOp op) (rP2 X.K ca g (.cmp op)) := by
  intro pins s σ H x y v u Q I rx ry ⟨ι, S, ds, o, R, r, ho, hc, hq⟩
  cases r with
  | cons r1 r =>
    cases r with
    | cons r2 r =>
      cases r
      simp only [primR] at ho
      unfold cmpR at ho
      have hu' : X.A.units + 64 < cLine := by omega
      cases op <;> dsimp only at ho
      · split at ho
        · cases ho; cases r1; cases r2
          refine op_eq pins s σ H _ _ v u Q I rx ry ⟨rfl, ?_⟩
          have e : ∀ a b : Str, decide (V.str a = V.str b) = decide (a = b) := fun a b => by
            rw [Bool.eq_iff_iff]
            simp
          rw [e]
          exact hq.same R (.bl _)
        · split at ho
          · rename_i a b h1 h2
            cases ho
            exact op_eqD hu' pins s σ H _ _ v u Q I rx ry ⟨a, b, dp_of R _ _ _ _ h1 r1, dp_of R _ _ _ _ h2 r2, hc.1, hc.2, hq.same R (.bl _)⟩
          · cases ho
      · split at ho
        · cases ho; cases r1; cases r2
          refine op_ne pins s σ H _ _ v u Q I rx ry ⟨rfl, ?_⟩
          have e : ∀ a b : Str, decide (V.str a = V.str b) = decide (a = b) := fun a b => by
            rw [Bool.eq_iff_iff]
            simp
          rw [e]
          exact hq.same R (.bl _)
        · split at ho
          · rename_i a b h1 h2
            cases ho
            exact op_neD hu' pins s σ H _ _ v u Q I rx ry ⟨a, b, dp_of R _ _ _ _ h1 r1, dp_of R _ _ _ _ h2 r2, hc.1, hc.2, hq.same R (.bl _)⟩
          · cases ho
      · split at ho
        · cases ho; cases r1; cases r2
          exact op_lt pins s σ H _ _ v u Q I rx ry ⟨_, _, rfl, rfl, hq.same R (.bl _)⟩
        · cases ho
      · split at ho
        · cases ho; cases r1; cases r2
          exact op_le pins s σ H _ _ v u Q I rx ry ⟨_, _, rfl, rfl, hq.same R (.bl _)⟩
        · cases ho
      · split at ho
        · cases ho; cases r1; cases r2
          exact op_gt pins s σ H _ _ v u Q I rx ry ⟨_, _, rfl, rfl, hq.same R (.bl _)⟩
        · cases ho
      · split at ho
        · cases ho; cases r1; cases r2
          exact op_ge pins s σ H _ _ v u Q I rx ry ⟨_, _, rfl, rfl, hq.same R (.bl _)⟩
        · cases ho
      · split at ho
        · cases ho; cases r2
          exact op_isN pins s σ H _ _ v u Q I rx ry ⟨rfl, by rw [r1.isNon]; exact hq.same R (.bl _)⟩
        · cases ho; cases r1; cases r2
          exact op_isBl pins s σ H _ _ v u Q I rx ry ⟨_, _, rfl, rfl, hq.same R (.bl _)⟩
        · cases ho
      · split at ho
        · cases ho; cases r2
          exact op_notN pins s σ H _ _ v u Q I rx ry ⟨rfl, by rw [r1.isNon]; exact hq.same R (.bl _)⟩
        · cases ho; cases r1; cases r2
          exact op_notBl pins s σ H _ _ v u Q I rx ry ⟨_, _, rfl, rfl, hq.same R (.bl _)⟩
        · cases ho
      · split at ho
        · rename_i a b h1 h2
          cases ho
          exact op_inD hu pins s σ H _ _ v u Q I rx ry ⟨a, b, dp_of R _ _ _ _ h1 r1, dp_of R _ _ _ _ h2 r2, hc.1, hc.2, hq.same R (.bl _)⟩
        · rename_i a b h1 h2
          cases ho
          exact op_inT hu pins s σ H _ _ v u Q I rx ry ⟨a, b, dp_of R _ _ _ _ h1 r1, dp_of R _ _ _ _ h2 r2, hc.1, hc.2, hq.same R (.bl _)⟩
        · cases ho
      · split at ho
        · rename_i a b h1 h2
          cases ho
          exact op_notInD hu pins s σ H _ _ v u Q I rx ry ⟨a, b, dp_of R _ _ _ _ h1 r1, dp_of R _ _ _ _ h2 r2, hc.1, hc.2, hq.same R (.bl _)⟩
        · rename_i a b h1 h2
          cases ho
          exact op_notInT hu pins s σ H _ _ v u Q I rx ry ⟨a, b, dp_of R _ _ _ _ h1 r1, dp_of R _ _ _ _ h2 r2, hc.1, hc.2, hq.same R (.bl _)⟩
        · cases ho

theorem un_negP : UnR X (unaryOp .USub) (fun x H Q => rP X.K ca g .neg [x] H Q) := by
  intro pins s σ H x v Q I rx ⟨ι, S, ds, o, R, r, ho, hc, hq⟩
  cases r with
  | cons r1 r =>
    cases r
    cases r1 <;> simp only [primR] at ho <;> cases ho
    exact un_neg pins s σ H _ v Q I rx ⟨_, rfl, hq.same R (.int _)⟩

/-- the items of a list or a tuple -/
theorem seq_of {K : PySem.W.Frag} {ι : List Addr} {H : Hp} {S : Store} {d : D} {v : V} {xs : List D} (R : Rep K ca ι S H) (h : seqD S d = some xs) (r : RelD K ι H d v) : ∃ a vs, v = .ref a ∧ (SqL K H a vs ∨ SqT K H a vs) ∧ RelDs K ι H xs vs := by
  cases r with
  | tup h1 h2 => cases h; exact ⟨_, _, rfl, .inr h1, h2⟩
  | ref h1 =>
    obtain ⟨a, vs, e1, e2, e3⟩ := R.seq h (.ref h1)
    exact ⟨a, vs, e1, .inl e2, e3⟩
  | non => cases h
  | bl _ => cases h
  | int _ => cases h
  | str _ => cases h
theorem RelDs.atI {K : PySem.W.Frag} {ι : List Addr} {H : Hp} {ds : List D} {vs : List V} {i : Int} {d : D} (r : RelDs K ι H ds vs) (h : L2.atI ds i = some d) : ∃ v, L2.atI vs i = some v ∧ RelD K ι H d v := by
  unfold L2.atI at h ⊢
  rw [← r.length]
  cases e : ixN ds.length i with
  | none => rw [e] at h; cases h
  | some j => rw [e] at h; exact r.get h
theorem ix_P : IxR X (rP2 X.K ca g .idx) := by
  intro ve se pins s σ H x y v u Q I rx ry ⟨ι, S, ds, o, R, r, ho, hc, hq⟩ hsub
  cases r with
  | cons r1 r =>
    cases r with
    | cons r2 r =>
      cases r
      cases r2 with
      | int i =>
        simp only [primR] at ho
        split at ho
        · rename_i xs h1
          split at ho
          · rename_i d h2
            cases ho
            obtain ⟨a, vs, rfl, h3, h4⟩ := seq_of R h1 r1
            obtain ⟨w, h5, h6⟩ := h4.atI h2
            rcases h3 with h3 | h3
            · exact ix_list ve se pins s σ H _ _ v u Q I rx ry ⟨_, _, _, _, rfl, rfl, h3, h5, hq.same R h6⟩ hsub
            · exact ix_tup ve se pins s σ H _ _ v u Q I rx ry ⟨_, _, _, _, rfl, rfl, h3, h5, hq.same R h6⟩ hsub
          · cases ho
        · cases ho
      | _ => simp only [primR] at ho; cases ho

theorem truth_of {K : PySem.W.Frag} {ι : List Addr} {H : Hp} {S : Store} {d : D} {v : V} {b : Bool} (R : Rep K ca ι S H) (h : truth d S = some b) (r : RelD K ι H d v) : TruV K v H b := by
  cases r with
  | non => cases h; rfl
  | bl _ => cases h; rfl
  | int _ => cases h; rfl
  | str _ => cases h
  | tup h1 h2 =>
    cases h
    refine .inr (.inl ⟨_, h1, ?_⟩)
    cases h2 <;> rfl
  | ref h1 =>
    unfold truth at h
    dsimp only at h
    split at h
    · rename_i ds e
      cases h
      obtain ⟨a, vs, e1, e2, e3⟩ := R.seq e (.ref h1)
      cases e1
      refine .inl ⟨_, e2, ?_⟩
      cases e3 <;> rfl
    · cases h

/-! ### slices -/
theorem RelDs.cut {K : PySem.W.Frag} {ι : List Addr} {H : Hp} {ds : List D} {vs : List V} (r : RelDs K ι H ds vs) (lo hi : Option Int) : RelDs K ι H (cutD ds lo hi) (cutV vs lo hi) := by
  unfold cutD cutV
  rw [r.length]
  exact (r.drop _).take _
/-! ### built-ins -/
theorem intsOf_map : ∀ {ds : List D} {is : List Int}, intsOf ds = some is → ds = is.map D.int
  | [], _, h => by cases h; rfl
  | .int i :: ds, is, h => by
    unfold intsOf at h
    split at h
    · rename_i js e
      cases h
      rw [intsOf_map e]
      rfl
    · cases h
  | .non :: _, _, h => by cases h
  | .bl _ :: _, _, h => by cases h
  | .str _ :: _, _, h => by cases h
  | .tup _ :: _, _, h => by cases h
  | .ref _ :: _, _, h => by cases h
theorem boolsOf_map : ∀ {ds : List D} {is : List Bool}, boolsOf ds = some is → ds = is.map D.bl
  | [], _, h => by cases h; rfl
  | .bl i :: ds, is, h => by
    unfold boolsOf at h
    split at h
    · rename_i js e
      cases h
      rw [boolsOf_map e]
      rfl
    · cases h
  | .non :: _, _, h => by cases h
  | .int _ :: _, _, h => by cases h
  | .str _ :: _, _, h => by cases h
  | .tup _ :: _, _, h => by cases h
  | .ref _ :: _, _, h => by cases h
theorem RelDs.bools {K : PySem.W.Frag} {ι : List Addr} {H : Hp} {ns : List Bool} : ∀ {vs : List V}, RelDs K ι H (ns.map D.bl) vs → vs = ns.map V.bl := by
  induction ns with
  | nil => intro vs h; cases h; rfl
  | cons n r ih =>
    intro vs h
    cases h with
    | cons a b => cases a; rw [ih b]; rfl
theorem foldl_max : ∀ (l : List Int) (i : Int), (l.foldl (fun a b => if b > a then b else a) i = i ∨ l.foldl (fun a b => if b > a then b else a) i ∈ l) ∧ i ≤ l.foldl (fun a b => if b > a then b else a) i ∧ ∀ y ∈ l, y ≤ l.foldl (fun a b => if b > a then b else a) i
  | [], i => ⟨.inl rfl, Int.le_refl _, fun _ h => nomatch h⟩
  | a :: l, i => by
    obtain ⟨h1, h2, h3⟩ := foldl_max l (if a > i then a else i)
    rw [List.foldl_cons]
    refine ⟨?_, ?_, fun y hy => ?_⟩
    · rcases h1 with h1 | h1
      · by_cases q : a > i
        · rw [if_pos q] at h1 ⊢; exact .inr (by rw [h1]; exact List.mem_cons_self)
        · rw [if_neg q] at h1 ⊢; exact .inl h1
      · exact .inr (List.mem_cons_of_mem _ h1)
    · by_cases q : a > i
      · rw [if_pos q] at h2 ⊢; omega
      · rw [if_neg q] at h2 ⊢; exact h2
    · rcases List.mem_cons.mp hy with e | e
      · subst e
        by_cases q : y > i
        · rw [if_pos q] at h2 ⊢; exact h2
        · rw [if_neg q] at h2 ⊢; omega
      · exact h3 y e
theorem maxOf_is {ns : List Int} {m : Int} (hne : 0 < ns.length) (h1 : m ∈ ns) (h2 : ∀ y ∈ ns, y ≤ m) : m = maxOf ns := by
  cases ns with
  | nil => cases h1
  | cons i r =>
    show m = r.foldl (fun a b => if b > a then b else a) i
    obtain ⟨a1, a2, a3⟩ := foldl_max r i
    have b1 : m ≤ r.foldl (fun a b => if b > a then b else a) i := by
      rcases List.mem_cons.mp h1 with e | e
      · rw [e]; exact a2
      · exact a3 m e
    have b2 : r.foldl (fun a b => if b > a then b else a) i ≤ m := by
      rcases a1 with e | e
      · rw [e]; exact h2 i List.mem_cons_self
      · exact h2 _ (List.mem_cons_of_mem _ e)
    omega
/-- the value that the name of a built-in stands for -/
def Blt.val : Blt → Value
  | .len => .builtin "len"
  | .abs => .builtin "abs"
  | .int => .type "int"
  | .max1 => .builtin "max"
  | .max2 => .builtin "max"
  | .min2 => .builtin "min"
  | .list => .type "list"
  | .tuple => .type "tuple"
  | .sum => .builtin "sum"
  | .all => .builtin "all"
  | .max4 => .builtin "max"
  | .any => .builtin "any"
  | .sorted => .builtin "sorted"
theorem max4_is {m i j k l : Int} (h : m = i ∨ m = j ∨ m = k ∨ m = l) (a : i ≤ m) (b : j ≤ m) (c : k ≤ m) (d : l ≤ m) : m = maxOf [i, j, k, l] :=
  maxOf_is (by simp) (by simpa using h) fun y hy => by
    simp only [List.mem_cons, List.not_mem_nil, or_false] at hy
    rcases hy with rfl | rfl | rfl | rfl <;> assumption
theorem insI_perm (i : Int) : ∀ r, (insI i r).Perm (i :: r)
  | [] => .refl _
  | j :: r => by
    unfold insI
    split
    · exact .refl _
    · exact ((insI_perm i r).cons j).trans (.swap i j r)
theorem sortI_perm : ∀ r, (sortI r).Perm r
  | [] => .refl _
  | i :: r => (insI_perm i _).trans ((sortI_perm r).cons i)
theorem insI_pw (i : Int) : ∀ r, r.Pairwise (· ≤ ·) → (insI i r).Pairwise (· ≤ ·)
  | [], _ => .cons (fun _ h => nomatch h) .nil
  | j :: r, h => by
    cases h with
    | cons h1 h2 =>
      unfold insI
      split
      · rename_i q
        refine .cons (fun x hx => ?_) (.cons h1 h2)
        rcases List.mem_cons.mp hx with rfl | hx
        · exact q
        · exact Int.le_trans q (h1 x hx)
      · refine .cons (fun x hx => ?_) (insI_pw i r h2)
        rcases List.mem_cons.mp ((insI_perm i r).mem_iff.mp hx) with rfl | hx
        · omega
        · exact h1 x hx
theorem sortI_pw : ∀ r, (sortI r).Pairwise (· ≤ ·)
  | [] => .nil
  | i :: r => insI_pw i _ (sortI_pw r)
theorem sorted_one : ∀ {a b : List Int}, a.Perm b → a.Pairwise (· ≤ ·) → b.Pairwise (· ≤ ·) → a = b
  | [], b, h, _, _ => by rw [List.nil_perm.mp h]
  | x :: a, [], h, _, _ => absurd h.length_eq (by simp)
  | x :: a, y :: b, h, .cons h1 h2, .cons k1 k2 => by
    have e : x = y := by
      have m1 := h.mem_iff.mp (List.mem_cons_self (a := x) (l := a))
      have m2 := h.mem_iff.mpr (List.mem_cons_self (a := y) (l := b))
      rcases List.mem_cons.mp m1 with e | m1
      · exact e
      · rcases List.mem_cons.mp m2 with e | m2
        · exact e.symm
        · exact Int.le_antisymm (h1 y m2) (k1 x m1)
    subst e
    rw [sorted_one (List.perm_cons x |>.mp h) h2 k2]
theorem call_P (hcm : X.calm = true) (b : Blt) : CallR X b.val (rP X.K ca g (.blt b)) := by
  intro pins s σ H xs us Q I rv ⟨ι, S, ds, o, R, r, ho, hc, hq⟩
  simp only [primR] at ho
  unfold bltR at ho
  split at ho
  · split at ho
    · rename_i x xs1 h1
      cases ho
      cases r with
      | cons r1 r =>
        cases r
        obtain ⟨a, vs, rfl, h3, h4⟩ := seq_of R h1 r1
        exact call_len_seq pins s σ H _ us Q I rv ⟨a, vs, rfl, h3, by rw [← h4.length]; exact hq.same R (.int _)⟩
    · cases ho
  · cases ho
    cases r with
    | cons r1 r =>
      cases r; cases r1
      exact call_abs pins s σ H _ us Q I rv ⟨_, rfl, hq.same R (.int _)⟩
  · cases ho
    cases r with
    | cons r1 r =>
      cases r; cases r1
      exact call_int1 pins s σ H _ us Q I rv (.inl ⟨_, rfl, hq.same R (.int _)⟩)
  · cases ho
    cases r with
    | cons r1 r =>
      cases r; cases r1
      exact call_int1 pins s σ H _ us Q I rv (.inr ⟨_, rfl, hq.same R (.int _)⟩)
  · cases ho
    cases r with
    | cons r1 r =>
      cases r with
      | cons r2 r =>
        cases r; cases r1; cases r2
        exact call_max2 hcm pins s σ H _ us Q I rv ⟨_, _, rfl, hq.same R (.int _)⟩
  · cases ho
    cases r with
    | cons r1 r =>
      cases r with
      | cons r2 r =>
        cases r; cases r1; cases r2
        exact call_min2 hcm pins s σ H _ us Q I rv ⟨_, _, rfl, hq.same R (.int _)⟩
  · split at ho
    · rename_i l xs1 h1
      split at ho
      · rename_i i is h2
        cases ho
        cases r with
        | cons r1 r =>
          cases r
          rw [intsOf_map h2] at h1
          obtain ⟨a, vs, rfl, e2, e3⟩ := R.seq h1 r1
          rw [e3.ints] at e2
          refine cr_max hcm pins s σ H _ us Q I rv ⟨_, _, rfl, e2, by simp, fun m hm hle => ?_⟩
          rw [maxOf_is (by simp) hm hle]
          exact hq.same R (.int _)
      · cases ho
    · cases ho
  · split at ho
    · rename_i l xs1 h1
      split at ho
      · rename_i is h2
        cases ho
        cases r with
        | cons r1 r =>
          cases r
          rw [intsOf_map h2] at h1
          obtain ⟨a, vs, rfl, e2, e3⟩ := R.seq h1 r1
          rw [e3.ints] at e2
          exact cr_sum hcm pins s σ H _ us Q I rv ⟨_, _, rfl, e2, hq.same R (.int _)⟩
      · cases ho
    · cases ho
  · split at ho
    · rename_i l xs1 h1
      split at ho
      · rename_i is h2
        cases ho
        cases r with
        | cons r1 r =>
          cases r
          rw [boolsOf_map h2] at h1
          obtain ⟨a, vs, rfl, e2, e3⟩ := R.seq h1 r1
          rw [e3.bools] at e2
          exact cr_all hcm pins s σ H _ us Q I rv ⟨_, _, rfl, e2, hq.same R (.bl _)⟩
      · cases ho
    · cases ho
  · split at ho
    · rename_i x xs1 h1
      cases ho
      cases r with
      | cons r1 r =>
        cases r
        obtain ⟨a, vs, rfl, h3, h4⟩ := seq_of R h1 r1
        exact call_list_of pins s σ H _ us Q I rv ⟨a, vs, rfl, h3, hq.new R h4⟩
    · cases ho
  · split at ho
    · rename_i x xs1 h1
      cases ho
      cases r with
      | cons r1 r =>
        cases r
        obtain ⟨a, vs, rfl, h3, h4⟩ := seq_of R h1 r1
        refine call_tuple_of pins s σ H _ us Q I rv ⟨a, vs, rfl, ?_⟩
        rcases h3 with h3 | h3
        · exact .inl ⟨h3, hq.newT R h4⟩
        · exact .inr ⟨h3, hq.same R (.tup h3 h4)⟩
    · cases ho
  · cases ho
    cases r with
    | cons r1 r =>
      cases r with
      | cons r2 r =>
        cases r with
        | cons r3 r =>
          cases r with
          | cons r4 r =>
            cases r; cases r1; cases r2; cases r3; cases r4
            refine call_max4 hcm pins s σ H _ us Q I rv ⟨_, _, _, _, rfl, fun m hm a b c d => ?_⟩
            rw [max4_is hm a b c d]
            exact hq.same R (.int _)
  · split at ho
    · rename_i l xs1 h1
      split at ho
      · rename_i is h2
        cases ho
        cases r with
        | cons r1 r =>
          cases r
          rw [intsOf_map h2] at h1
          obtain ⟨a, vs, rfl, e2, e3⟩ := R.seq h1 r1
          rw [e3.ints] at e2
          exact call_anyI hcm pins s σ H _ us Q I rv ⟨_, _, rfl, e2, hq.same R (.bl _)⟩
      · cases ho
    · cases ho
  · split at ho
    · rename_i l xs1 h1
      split at ho
      · rename_i is h2
        cases ho
        cases r with
        | cons r1 r =>
          cases r
          rw [intsOf_map h2] at h1
          obtain ⟨a, vs, rfl, e2, e3⟩ := R.seq h1 r1
          rw [e3.ints] at e2
          refine cr_sorted pins s σ H _ us Q I rv ⟨_, _, rfl, e2, hc, fun ns' p h1 h2 hp => ?_⟩
          rw [sorted_one (h1.trans (sortI_perm is).symm) h2 (sortI_pw is)]
          exact hq.new R (.of_ints _) p hp
      · split at ho
        · rename_i ps hps
          cases ho
          cases r with
          | cons r1 r =>
            cases r
            obtain ⟨a, vs, rfl, e2, e3⟩ := R.seq h1 r1
            exact cr_sortedL pins s σ H _ us Q I rv (sortL_ok R e2 e3 hps hc hq)
        · cases ho
    · cases ho
  · cases ho

/-! ### isinstance -/
def Ty.name : Ty → String
  | .int => "int"
  | .bool => "bool"
  | .tuple => "tuple"
theorem tyx_tup {K : PySem.W.Frag} {H : Hp} {a : Addr} {vs : List V} (h : SqT K H a vs) : TyX K H (.ref a) (.type "tuple") := by
  rcases h with (h | ⟨o, h⟩) | ⟨o, its, n, h, hc, _⟩
  · exact .base (.tup h)
  · exact .fTuple h
  · exact .kTuple h hc
theorem call_isa (t : Ty) : CallR X (.builtin "isinstance") (fun xs H Q => ∃ x, xs = [x, .ty t.name] ∧ rP X.K ca g (.isa t) [x] H Q) := by
  intro pins s σ H xs us Q I rv ⟨x, e, ι, S, ds, o, R, r, ho, hc, hq⟩
  subst e
  have key : ∀ (T : Value) (b : Bool), TyX X.K H x T → PySem.W.kitOne X.K T (.type t.name) = some b → Q (.bl b) H → wpAny (model X.prog X.w) X.A (call (.builtin "isinstance") us) (EP X pins σ Q) X.xe s := fun T b h1 h2 h3 =>
    call_isi pins s σ H _ us Q I rv ⟨x, .ty t.name, T, .type t.name, b, rfl, .ty _, h1, h2, h3⟩
  cases r with
  | cons r1 r =>
    cases r
    simp only [primR] at ho
    split at ho
    · rename_i b hb
      cases ho
      have q := hq.same R (.bl _)
      cases t <;> cases r1 <;> cases hb
      · exact key (.type "NoneType") _ (.base .non) (kit_ty (by decide +kernel)) q
      · exact key (.type "bool") _ (.base (.bl _)) (kit_ty (by decide +kernel)) q
      · exact key (.type "int") _ (.base (.int _)) (kit_ty (by decide +kernel)) q
      · exact key (.type "str") _ (.base (.str _)) (kit_ty (by decide +kernel)) q
      · rename_i h1 h2; exact key (.type "tuple") _ (tyx_tup h1) (kit_ty (by decide +kernel)) q
      · exact key (.type "NoneType") _ (.base .non) (kit_ty (by decide +kernel)) q
      · exact key (.type "bool") _ (.base (.bl _)) (kit_ty (by decide +kernel)) q
      · exact key (.type "int") _ (.base (.int _)) (kit_ty (by decide +kernel)) q
      · exact key (.type "str") _ (.base (.str _)) (kit_ty (by decide +kernel)) q
      · rename_i h1 h2; exact key (.type "tuple") _ (tyx_tup h1) (kit_ty (by decide +kernel)) q
      · exact key (.type "NoneType") _ (.base .non) (kit_ty (by decide +kernel)) q
      · exact key (.type "bool") _ (.base (.bl _)) (kit_ty (by decide +kernel)) q
      · exact key (.type "int") _ (.base (.int _)) (kit_ty (by decide +kernel)) q
      · exact key (.type "str") _ (.base (.str _)) (kit_ty (by decide +kernel)) q
      · rename_i h1 h2; exact key (.type "tuple") _ (tyx_tup h1) (kit_ty (by decide +kernel)) q
    · cases ho

theorem call_isl : CallR X (.builtin "isinstance") (fun xs H Q => ∃ x, xs = [x, .ty "list"] ∧ rP X.K ca g .isl [x] H Q) := by
  intro pins s σ H xs us Q I rv ⟨x, e, ι, S, ds, o, R, r, ho, hc, hq⟩
  subst e
  cases r with
  | cons r1 r =>
    cases r
    cases r1 with
    | ref z =>
      simp only [primR] at ho
      split at ho
      · rename_i xs1 h1
        cases ho
        obtain ⟨a, vs, e1, e2, e3, e4⟩ := R.lst h1 (.ref z)
        cases e1
        exact call_isi pins s σ H _ us Q I rv ⟨_, .ty "list", .type "list", .type "list", true, rfl, .ty _, .base (.lst e3), kit_ty (by decide +kernel), hq.same R (.bl _)⟩
      · cases ho
    | _ => simp only [primR] at ho; cases ho

/-! ### repr -/
theorem call_repr (hg : g = true → X.A.guards = some []) (hu : X.A.units + 70 < cLine) : CallR X (.builtin "repr") (rP X.K ca g .repr) := by
  intro pins s σ H xs us Q I rv ⟨ι, S, ds, o, R, r, ho, hc, hq⟩
  cases r with
  | nil => simp only [primR] at ho; cases ho
  | cons r1 r =>
    cases r with
    | cons _ _ => simp only [primR] at ho; cases ho
    | nil =>
      simp only [primR] at ho
      split at ho
      · rename_i hg'
        split at ho
        · rename_i a ha
          cases ho
          obtain ⟨c1, c2, c3⟩ := hc
          have q := hq.same R (.str _)
          have dp := dp_of R _ _ _ _ ha r1
          cases rv with
          | cons rv1 rv =>
            cases rv
            rename_i u
            obtain ⟨as, rd⟩ := Dp.reads I _ _ _ dp rv1
            cases dp with
            | non =>
              cases rv1
              exact PySem.P.repr_of_none ⟨.str _, H, I.tok _, ⟨_, rfl⟩, by rw [PyData.shown_none] at q; exact q⟩
            | bl b =>
              cases rv1
              refine PySem.P.repr_of_bool ⟨.str _, H, I.tok _, ⟨_, rfl⟩, ?_⟩
              rw [PyData.shown_bool] at q
              cases b <;> exact q
            | int i =>
              obtain ⟨t, rfl⟩ := rv1
              have c2' : i.natAbs.log2 < 1920 := of_decide_eq_true c2
              exact PySem.P.repr_of_int c2' ⟨.str _, H, I.tok _, ⟨_, rfl⟩, by rw [PyData.shown_int] at q; exact q⟩
            | str x =>
              obtain ⟨t, rfl⟩ := rv1
              rw [PyData.shown_str] at q c3
              exact PySem.P.repr_of_str ⟨.str _, H, I.tok _, ⟨_, rfl⟩, q⟩ c3
            | lst h1 h2 =>
              cases rv1
              have hd := SeqAt.depth_of_shaped c1
              exact repr_of_reads' rd c2 (PyData.noDict_hsm (PyData.hasDict_of_canLay _ (SeqAt.canLay_of_shaped c1))) (hg hg') (by omega) (fun _ _ e => e) (fun h' u tk hk => ⟨.str _, H, I.kept hk, ⟨_, rfl⟩, q⟩) c3
            | tup h1 h2 =>
              cases rv1
              have hd := SeqAt.depth_of_shaped c1
              exact repr_of_reads' rd c2 (PyData.noDict_hsm (PyData.hasDict_of_canLay _ (SeqAt.canLay_of_shaped c1))) (hg hg') (by omega) (fun _ _ e => e) (fun h' u tk hk => ⟨.str _, H, I.kept hk, ⟨_, rfl⟩, q⟩) c3
        · cases ho
      · cases ho

/-! ### methods of lists -/
theorem mt_app : MtR X "list.append" (fun x xs H Q => rP X.K ca g .app (x :: xs) H Q) := by
  intro pins s σ H x xs v us Q I rx rv ⟨ι, S, ds, o, R, r, ho, hc, hq⟩
  cases r with
  | cons r1 r =>
    cases r with
    | nil => cases r1 <;> (simp only [primR] at ho; cases ho)
    | cons r2 r =>
      cases r with
      | cons _ _ => cases r1 <;> (simp only [primR] at ho; cases ho)
      | nil =>
        cases r1 with
        | ref z =>
          simp only [primR] at ho
          split at ho
          · rename_i xs1 h1
            cases ho
            obtain ⟨a, vs, e1, e2, e3, e4⟩ := R.lst h1 (.ref z)
            cases e1
            exact mt_append pins s σ H _ _ v us Q I rx rv ⟨_, vs, _, rfl, rfl, e3, by rw [← e4.length]; exact hc, hq.wrote R h1 e2 e3 (e4.append (.cons r2 .nil)) .non⟩
          · cases ho
        | _ => simp only [primR] at ho; cases ho
theorem mt_pop : MtR X "list.pop" (fun x xs H Q => rP X.K ca g .pop (x :: xs) H Q) := by
  intro pins s σ H x xs v us Q I rx rv ⟨ι, S, ds, o, R, r, ho, hc, hq⟩
  have key : ∃ l i, ds = [.ref l, .int i] := by
    match ds, ho with
    | [.ref l, .int i], _ => exact ⟨l, i, rfl⟩
  obtain ⟨l, i, rfl⟩ := key
  simp only [primR] at ho
  split at ho
  · rename_i xs1 h1
    split at ho
    · rename_i j hj
      split at ho
      · rename_i y hy
        cases ho
        cases r with
        | cons r1 r =>
          cases r with
          | cons r2 r =>
            cases r
            cases r2
            obtain ⟨a, vs, rfl, e2, e3, e4⟩ := R.lst h1 r1
            obtain ⟨w, hw, rw'⟩ := e4.get hy
            rw [e4.length] at hj
            exact mt_popAt pins s σ H _ _ v us Q I rx rv ⟨_, vs, _, _, _, rfl, rfl, e3, hc.1, hc.2, (ixN_seq hj).1, hw, hq.wrote R h1 e2 e3 (e4.erase _) rw'⟩
      · cases ho
    · cases ho
  · cases ho
theorem mt_ext : MtR X "list.extend" (fun x xs H Q => rP X.K ca g .ext (x :: xs) H Q) := by
  intro pins s σ H x xs v us Q I rx rv ⟨ι, S, ds, o, R, r, ho, hc, hq⟩
  have key : ∃ l m, ds = [.ref l, .ref m] := by
    match ds, ho with
    | [.ref l, .ref m], _ => exact ⟨l, m, rfl⟩
  obtain ⟨l, m, rfl⟩ := key
  simp only [primR] at ho
  split at ho
  · rename_i xs1 ys1 h1 h2
    cases ho
    cases r with
    | cons r1 r =>
      cases r with
      | cons r2 r =>
        cases r
        obtain ⟨a, vs, rfl, e2, e3, e4⟩ := R.lst h1 r1
        obtain ⟨b, ws, rfl, f2, f3, f4⟩ := R.lst h2 r2
        exact mt_extend pins s σ H _ _ v us Q I rx rv ⟨_, _, vs, ws, rfl, rfl, e3, f3, by rw [← e4.length, ← f4.length]; exact hc, hq.wrote R h1 e2 e3 (e4.append f4) .non⟩
  · cases ho
theorem mt_ins : MtR X "list.insert" (fun x xs H Q => rP X.K ca g .ins (x :: xs) H Q) := by
  intro pins s σ H x xs v us Q I rx rv ⟨ι, S, ds, o, R, r, ho, hc, hq⟩
  have key : ∃ l i y, ds = [.ref l, .int i, y] := by
    match ds, ho with
    | [.ref l, .int i, y], _ => exact ⟨l, i, y, rfl⟩
  obtain ⟨l, i, y, rfl⟩ := key
  simp only [primR] at ho
  split at ho
  · rename_i xs1 h1
    cases ho
    cases r with
    | cons r1 r =>
      cases r with
      | cons r2 r =>
        cases r with
        | cons r3 r =>
          cases r
          cases r2
          obtain ⟨a, vs, rfl, e2, e3, e4⟩ := R.lst h1 r1
          exact mt_insert pins s σ H _ _ v us Q I rx rv ⟨_, vs, _, _, rfl, rfl, e3, by rw [← e4.length]; exact hc.1, hc.2.1, hc.2.2, hq.wrote R h1 e2 e3 (((e4.take _).append (.cons r3 .nil)).append (e4.drop _)) .non⟩
  · cases ho
end
end CC
/-! Whether a piece of the program's text is a piece of the little language. -/
namespace CC
open PySem L2

mutual
def D.beq : D → D → Bool
  | .non, .non => true
  | .bl a, .bl b => a == b
  | .int i, .int j => decide (i = j)
  | .str x, .str y => decide (x = y)
  | .tup xs, .tup ys => D.beqs xs ys
  | .ref l, .ref m => l == m
  | _, _ => false
def D.beqs : List D → List D → Bool
  | [], [] => true
  | x :: xs, y :: ys => D.beq x y && D.beqs xs ys
  | _, _ => false
end
mutual
theorem D.beq_eq : ∀ {a b : D}, D.beq a b = true → a = b
  | .non, b, h => by cases b <;> simp [D.beq] at h <;> rfl
  | .bl a, b, h => by cases b <;> simp [D.beq] at h <;> rw [h]
  | .int a, b, h => by cases b <;> simp [D.beq] at h <;> rw [h]
  | .str a, b, h => by cases b <;> simp [D.beq] at h <;> rw [h]
  | .tup a, b, h => by
    cases b <;> simp [D.beq] at h
    rw [D.beqs_eq h]
  | .ref a, b, h => by cases b <;> simp [D.beq] at h <;> rw [h]
theorem D.beqs_eq : ∀ {a b : List D}, D.beqs a b = true → a = b
  | [], b, h => by cases b <;> simp [D.beqs] at h <;> rfl
  | a :: as, b, h => by
    cases b with
    | nil => simp [D.beqs] at h
    | cons y ys =>
      simp only [D.beqs, Bool.and_eq_true] at h
      rw [D.beq_eq h.1, D.beqs_eq h.2]
end
/-- a class: its name, its fields, its properties, the number of its __init__ -/
structure Cl where
  name : Str
  fields : List Str
  props : List (Str × Nat)
  init : Nat
/-- a scope, the names by slot, which names may be stored though they are cells, the functions that may be called, whether repr is known -/
structure Ck where
  N : List Str
  sc : Scope
  cell : Str → Bool
  fns : Nat → Option Fn
  kws : Nat → List (Nat × List Str × List Nat)
  gls : List (Str × D)
  g : Bool
  cls : Nat → Option Cl
  exs : Nat → Bool
  top : Bool

def Ck.vis (C : Ck) (i : Nat) (x : Str) : Bool := decide (C.N[i]? = some x) && (match C.sc.names.lookup x with
  | some .local => true
  | some .cell => true
  | some .free => true
  | _ => false) && !(x == ("__debug__" : Str)) && !(x == ("__classdict__" : Str))
def Ck.loc (C : Ck) (i : Nat) (x : Str) : Bool := decide (C.N[i]? = some x) && (match C.sc.names.lookup x with
  | some .local => true
  | some .cell => C.cell x
  | _ => false)
def Ck.locL (C : Ck) (i : Nat) (x : Str) : Bool := decide (C.N[i]? = some x) && decide (C.sc.names.lookup x = some .local)
def Ck.gl (C : Ck) (x : Str) : Bool := decide (C.sc.names.lookup x = some .globalImplicit) && !(x == ("__debug__" : Str))

def Blt.nm : Blt → Str
  | .len => "len"
  | .abs => "abs"
  | .int => "int"
  | .max1 => "max"
  | .max2 => "max"
  | .min2 => "min"
  | .list => "list"
  | .tuple => "tuple"
  | .sum => "sum"
  | .all => "all"
  | .max4 => "max"
  | .any => "any"
  | .sorted => "sorted"
def Ty.nm : Ty → Str
  | .int => "int"
  | .bool => "bool"
  | .tuple => "tuple"

/-- no slice, no star, .. : an expression that stands for itself everywhere -/
def plainX : Expr → Bool
  | .Starred _ _ => false
  | .Slice _ _ _ _ => false
  | .Set _ _ _ => false
  | .SetComp _ _ _ _ => false
  | .DictComp _ _ _ _ _ => false
  | .ListComp _ _ _ _ => true
  | _ => true
def noComp : Expr → Bool
  | .ListComp _ _ _ _ => false
  | .SetComp _ _ _ _ => false
  | .DictComp _ _ _ _ _ => false
  | _ => true
/-- an expression whose truth is that of its value -/
def testX : Expr → Bool
  | .UnaryOp _ _ _ => false
  | .BoolOp _ _ _ => false
  | .IfExp _ _ _ _ => false
  | .Compare _ _ _ _ => false
  | _ => true
/-- .. whose attributes are those of its value -/
def baseX : Expr → Bool
  | .Call (.Name _ _) [] [] _ => false
  | _ => true
def isConst : D → Const → Bool
  | .non, .none => true
  | .bl a, .bool b => decide (a = b)
  | .int i, .int j => decide (i = j)
  | .str x, .str y => decide (x = y)
  | _, _ => false

def relSc (scope sc : Scope) : Scope := relS scope sc
def Ck.blk (C : Ck) (scope : Scope) : Ck := { C with sc := relSc scope C.sc, cell := fun x => scope.names.lookup x == some .cell, top := false }

mutual
def slots : Tg → List Nat
  | .name i => [i]
  | .tup ts => slotsL ts
  | .sub _ _ => []
def slotsL : Tgs → List Nat
  | .nil => []
  | .cons t r => slots t ++ slotsL r
end

/-- the arguments of what is walked -/
def itArgs (C : Ck) (k : ItK) (tg e : Expr) : Option (List Expr) := match k with
  | .seq => some [e]
  | .range => (match e with
    | .Call (.Name x _) [a] [] _ => if decide (x = "range") && C.gl x then some [a] else none
    | .Call (.Name x _) [a, b] [] _ => if decide (x = "range") && C.gl x then some [a, b] else none
    | _ => none)
  | .enum => (match tg, e with
    | .Tuple _ _ _, .Call (.Name x _) [a] [] _ => if decide (x = "enumerate") && C.gl x then some [a] else none
    | _, _ => none)
  | .zip => (match tg, e with
    | .Tuple _ _ _, .Call (.Name x _) [a, b] [] _ => if decide (x = "zip") && C.gl x then some [a, b] else none
    | _, _ => none)

mutual
/-- t: in the place of a test -/
def chkE (C : Ck) (t : Bool) : Ex → Expr → Bool
  | .var i, e => (match e with
    | .Name x _ => C.vis i x
    | _ => false)
  | .const d, e => (match e with
    | .Constant c _ _ => isConst d c
    | _ => false)
  | .glob x d, e => (match e with
    | .Name y _ => decide (x = y) && C.gl x && (C.gls.any fun p => decide (p.1 = x) && p.2.beq d)
    | _ => false)
  | .prim p es, e => (match p with
    | .bin op => (match e with
      | .BinOp a o b _ => decide (op = o) && chkEs C es [a, b]
      | _ => false)
    | .neg => (match e with
      | .UnaryOp .USub a _ => !t && chkEs C es [a]
      | _ => false)
    | .cmp op => (match e with
      | .Compare a [o] [b] _ => decide (op = o) && chkEs C es [a, b]
      | _ => false)
    | .tup => (match e with
      | .Tuple xs _ _ => chkEs C es xs
      | _ => false)
    | .lst => (match e with
      | .List xs _ => chkEs C es xs
      | _ => false)
    | .idx => (match e with
      | .Subscript a b _ => chkEs C es [a, b]
      | _ => false)
    | .slc lo hi => (match e with
      | .Subscript a (.Slice none none none _) _ => !lo && !hi && chkEs C es [a]
      | .Subscript a (.Slice (some b) none none _) _ => lo && !hi && chkEs C es [a, b]
      | .Subscript a (.Slice none (some b) none _) _ => !lo && hi && chkEs C es [a, b]
      | _ => false)
    | .rev => (match e with
      | .Subscript a (.Slice none none (some (.UnaryOp .USub (.Constant (.int 1) _ _) _)) _) _ => chkEs C es [a]
      | _ => false)
    | .blt b => (match e with
      | .Call (.Name x _) xs [] _ => decide (x = b.nm) && C.gl x && chkEs C es xs && !xs.isEmpty
      | _ => false)
    | .isa ty => (match e with
      | .Call (.Name x _) [a, .Name y _] [] _ => decide (x = "isinstance") && C.gl x && decide (y = ty.nm) && C.gl y && chkEs C es [a]
      | _ => false)
    | .isl => (match e with
      | .Call (.Name x _) [a, .Name y _] [] _ => decide (x = "isinstance") && C.gl x && decide (y = "list") && C.gl y && chkEs C es [a]
      | _ => false)
    | .repr => (match e with
      | .Call (.Name x _) [a] [] _ => decide (x = "repr") && C.gl x && chkEs C es [a]
      | _ => false)
    | .bits => (match e with
      | .Call (.Attribute a x p) [] [] q => decide (x = "bit_length") && chkEs C es [a] && baseX a && (p.endLine == q.line)
      | _ => false)
    | .sset => (match e with
      | .Call (.Name x _) [.Call (.Name y _) [a] [] _] [] _ => decide (x = "sorted") && C.gl x && decide (y = "set") && C.gl y && chkEs C es [a]
      | _ => false)
    | .rng => (match e with
      | .Call (.Name x _) [.Call (.Name y _) [a] [] _] [] _ => decide (x = "list") && C.gl x && decide (y = "range") && C.gl y && chkEs C es [a]
      | .Call (.Name x _) [.Call (.Name y _) [a, b] [] _] [] _ => decide (x = "list") && C.gl x && decide (y = "range") && C.gl y && chkEs C es [a, b]
      | _ => false)
    | _ => false)
  | .cut a b c, e => (match e with
    | .Subscript x (.Slice (some y) (some z) none _) _ => chkE C false a x && chkE C false b y && chkE C false c z
    | _ => false)
  | .fld cs o x, e => (match e with
    | .Attribute a y _ => decide (x = y) && chkE C false o a && baseX a && cs.all fun c => match C.cls c with
      | some cl => cl.fields.any fun z => decide (z = x)
      | none => false
    | _ => false)
  | .eqm neg tb es, e => (match e with
    | .Compare a [o] [b] _ => decide (o = if neg = true then CmpOp.NotEq else CmpOp.Eq) && chkEs C es [a, b] && tb.all fun p => (match C.cls p.1 with
      | some cl => cl.props.any fun q => decide (q = (("__eq__" : Str), p.2))
      | none => false) && (match C.fns p.2 with
      | some fn => !fn.g || C.g
      | none => false)
    | _ => false)
  | .isM c x o, e => (match e with
    | .Call (.Name y _) [a, .Name z _] [] _ => decide (y = "isinstance") && C.gl y && decide (z = x) && C.gl z && chkE C false o a && plainX a && (match C.cls c with
      | some cl => decide (cl.name = x) && cl.props.any fun q => decide (q.1 = "__eq__")
      | none => false)
    | _ => false)
  | .prop tb o x, e => (match e with
    | .Attribute a y _ => decide (x ≠ "__eq__") && decide (x = y) && chkE C false o a && baseX a && tb.all fun p => (match C.cls p.1 with
      | some cl => cl.props.any fun q => decide (q = (x, p.2))
      | none => false) && (match C.fns p.2 with
      | some fn => !fn.g || C.g
      | none => false)
    | _ => false)
  | .make c f es, e => (match e with
    | .Call (.Name x _) xs [] _ => (match C.cls c with
      | some cl => decide (cl.name = x) && decide (cl.init = f)
      | none => false) && (match C.fns f with
      | some fn => !fn.g || C.g
      | none => false) && C.gl x && chkEs C es xs
    | _ => false)
  | .makek c f es ks kes perm, e => (match e with
    | .Call (.Name x _) xs kws _ => (match C.cls c with
      | some cl => decide (cl.name = x) && decide (cl.init = f)
      | none => false) && (match C.fns f with
      | some fn => !fn.g || C.g
      | none => false) && C.gl x && chkEs C es xs && chkEs C kes (kws.map (·.value)) && decide (kws.map (·.arg) = ks.map some) && (C.kws f).any fun q => decide (q = (xs.length + 1, ks, 0 :: perm.map (· + 1)))
    | _ => false)
  | .notE m, e => (match e with
    | .UnaryOp .Not a _ => chkE C t m a
    | _ => false)
  | .meth p o es, e => (match p with
    | .app => (match e with
      | .Call (.Attribute a x p) [b] [] q => decide (x = "append") && chkE C false o a && chkEs C es [b] && baseX a && (p.endLine == q.line)
      | _ => false)
    | .ins => (match e with
      | .Call (.Attribute a x p) [b, c] [] q => decide (x = "insert") && chkE C false o a && chkEs C es [b, c] && baseX a && (p.endLine == q.line)
      | _ => false)
    | .pop => (match e with
      | .Call (.Attribute a x p) [b] [] q => decide (x = "pop") && chkE C false o a && chkEs C es [b] && baseX a && (p.endLine == q.line)
      | _ => false)
    | .ext => (match e with
      | .Call (.Attribute a x p) [b] [] q => decide (x = "extend") && chkE C false o a && chkEs C es [b] && baseX a && (p.endLine == q.line)
      | _ => false)
    | _ => false)
  | .one a, e => (match e with
    | .BoolOp _ [x] _ => chkE C t a x
    | _ => false)
  | .andE a b, e => (match e with
    | .BoolOp .And (x :: y :: r) pos => chkE C t a x && chkE C t b (.BoolOp .And (y :: r) pos)
    | _ => false)
  | .orE a b, e => (match e with
    | .BoolOp .Or (x :: y :: r) pos => chkE C t a x && chkE C t b (.BoolOp .Or (y :: r) pos)
    | _ => false)
  | .ite c a b, e => (match e with
    | .IfExp x y z _ => !t && chkE C true c x && chkE C false a y && chkE C false b z
    | _ => false)
  | .chain op op' a b c, e => (match e with
    | .Compare x [o, o'] [y, z] _ => decide (op = o) && decide (op' = o') && chkE C false a x && chkE C false b y && chkE C false c z && plainX y && plainX z
    | _ => false)
  | .call f es, e => (match e with
    | .Call (.Name x _) xs [] _ => (match C.fns f with
      | some fn => decide (fn.name = x) && (!fn.g || C.g) && fn.cls.isNone
      | none => false) && C.gl x && chkEs C es xs
    | _ => false)
  | .callk f es ks kes perm, e => (match e with
    | .Call (.Name x _) xs kws _ => (match C.fns f with
      | some fn => decide (fn.name = x) && (!fn.g || C.g) && fn.cls.isNone
      | none => false) && C.gl x && chkEs C es xs && chkEs C kes (kws.map (·.value)) && decide (kws.map (·.arg) = ks.map some) && (C.kws f).any fun q => decide (q = (xs.length, ks, perm))
    | _ => false)
  | .comp elt tg k src cond own, e => (match e with
    | .ListComp e [⟨tge, it, ifs, 0⟩] scope _ => blkC C.N C.sc scope own && ((slots tg).all fun i => (own.map (·.2)).contains i) && (match itArgs C k tge it with
      | some es => chkEs C src es
      | none => false) && chkTg (C.blk scope) tg tge && chkE (C.blk scope) false elt e && chkCond (C.blk scope) cond ifs && plainX it
    | _ => false)
  | .comp2 elt tg k src tg1 k1 src1 cond own own1, e => (match e with
    | .ListComp e [⟨tge, it, [], 0⟩, ⟨tge1, it1, ifs1, 0⟩] scope _ => blkC C.N C.sc scope own && ((slots tg).all fun i => (own.map (·.2)).contains i) && ((slots tg1).all fun i => (own1.map (·.2)).contains i) && ((own1.map (·.2)).all fun i => (own.map (·.2)).contains i) && (match itArgs C k tge it with
      | some es => chkEs C src es
      | none => false) && (match itArgs (C.blk scope) k1 tge1 it1 with
      | some es => chkEs (C.blk scope) src1 es
      | none => false) && chkTg (C.blk scope) tg tge && chkTg (C.blk scope) tg1 tge1 && chkE (C.blk scope) false elt e && chkCond (C.blk scope) cond ifs1 && plainX it && plainX it1
    | _ => false)
def chkEs (C : Ck) : Exs → List Expr → Bool
  | .nil, es => (match es with
    | [] => true
    | _ => false)
  | .cons m r, es => (match es with
    | e :: es => chkE C false m e && plainX e && chkEs C r es
    | _ => false)
def chkCond (C : Ck) : Exs → List Expr → Bool
  | .nil, es => (match es with
    | [] => true
    | _ => false)
  | .cons m r, es => (match r, es with
    | .nil, [e] => chkE C true m e
    | _, _ => false)
def chkTg (C : Ck) : Tg → Expr → Bool
  | .name i, e => (match e with
    | .Name x _ => C.loc i x
    | _ => false)
  | .tup ts, e => (match e with
    | .Tuple es _ _ => chkTgs C ts es
    | _ => false)
  | .sub o i, e => (match e with
    | .Subscript a b _ => chkE C false o a && chkE C false i b && plainX b
    | _ => false)
def chkTgs (C : Ck) : Tgs → List Expr → Bool
  | .nil, es => (match es with
    | [] => true
    | _ => false)
  | .cons m r, es => (match es with
    | e :: es => chkTg C m e && plainX e && chkTgs C r es
    | _ => false)
end

end CC
/-! What the little language wants is what the model wants: expressions. -/
namespace CC
open L2 PySem PySem.Spec PyProof.Rows

/-! ### both sides -/
def RelS (K : PySem.W.Frag) (ι : List Addr) (H : Hp) (σd : Sd) (σ : L2.St) : Prop :=
  σd.length = σ.length ∧ ∀ (i : Nat) (d : D), σd[i]? = some (some d) → ∃ v, σ[i]? = some (some v) ∧ RelD K ι H d v
def EL (K : PySem.W.Frag) (ca : Nat → Addr) (W : WX) (σ : L2.St) (ι : List Addr) (H : Hp) : EPost := fun x S' =>
  ∀ ι' H' dd v, Ext K ι H ι' H' → Rep K ca ι' S' H' → RelD K ι' H' x.2 v → H' dd = some (.xd [("value", v)]) → W (.ref (ca x.1)) (some dd) σ H'
def QLs (K : PySem.W.Frag) (ca : Nat → Addr) (Q : List V → Hp → Prop) (ι : List Addr) (H : Hp) : List D → Store → Prop := fun ds S' =>
  ∀ ι' H' vs, Ext K ι H ι' H' → Rep K ca ι' S' H' → RelDs K ι' H' ds vs → Q vs H'

section
variable {K : PySem.W.Frag} {ca : Nat → Addr} {ι ι' : List Addr} {H H' : Hp} {W : WX} {σd : Sd} {σ : L2.St}
theorem RelS.mono (x : Ext K ι H ι' H') (r : RelS K ι H σd σ) : RelS K ι' H' σd σ := ⟨r.1, fun i d h => by
  obtain ⟨v, e, q⟩ := r.2 i d h
  exact ⟨v, e, q.mono x⟩⟩
theorem EL.of (x : Ext K ι H ι' H') {e : Exc} {S : Store} (h : EL K ca W σ ι H e S) : EL K ca W σ ι' H' e S := fun ι2 H2 dd v y R r z => h ι2 H2 dd v (x.trans y) R r z
theorem RelS.set (r : RelS K ι H σd σ) {d : D} {v : V} (h : RelD K ι H d v) (i : Nat) : RelS K ι H (σd.set i (some d)) (σ.set i (some v)) := by
  refine ⟨by rw [List.length_set, List.length_set]; exact r.1, fun j e hj => ?_⟩
  by_cases q : i = j
  · subst q
    by_cases hl : i < σd.length
    · rw [List.getElem?_set_self hl] at hj
      cases hj
      exact ⟨v, List.getElem?_set_self (by rw [← r.1]; exact hl), h⟩
    · rw [List.getElem?_eq_none (by rw [List.length_set]; omega)] at hj
      cases hj
  · rw [List.getElem?_set_ne q] at hj ⊢
    exact r.2 j e hj
theorem RelS.setNone (r : RelS K ι H σd σ) (i : Nat) : RelS K ι H (σd.set i none) (σ.set i none) := by
  refine ⟨by rw [List.length_set, List.length_set]; exact r.1, fun j e hj => ?_⟩
  by_cases q : i = j
  · subst q
    by_cases hl : i < σd.length
    · rw [List.getElem?_set_self hl] at hj
      cases hj
    · rw [List.getElem?_eq_none (by rw [List.length_set]; omega)] at hj
      cases hj
  · rw [List.getElem?_set_ne q] at hj ⊢
    exact r.2 j e hj
theorem RelS.wipe (r : RelS K ι H σd σ) : ∀ vs : List Nat, RelS K ι H (wipeD σd vs) (wipe σ vs)
  | [] => r
  | v :: vs => (RelS.wipe r vs).setNone v
end

section
variable (K : PySem.W.Frag) (ca : Nat → Addr) (g : Bool) (φ : Phi) (W : WX)
/-- an expression's reading -/
def tE (m : Ex) : TE := fun σ H Q => ∃ ι S σd, Rep K ca ι S H ∧ RelS K ι H σd σ ∧ wpE g φ m σd S (QL K ca Q ι H) (EL K ca W σ ι H)
def tAs (m : Exs) : TA := fun σ H Q => ∃ ι S σd, Rep K ca ι S H ∧ RelS K ι H σd σ ∧ wpAs g φ m σd S (QLs K ca Q ι H) (EL K ca W σ ι H)
/-- a test's -/
def tT (m : Ex) : TT := fun σ H Q => ∃ ι S σd, Rep K ca ι S H ∧ RelS K ι H σd σ ∧ wpE g φ m σd S (fun d S1 => ∃ b, truth d S1 = some b ∧ ∀ ι' H', Ext K ι H ι' H' → Rep K ca ι' S1 H' → Q b H') (EL K ca W σ ι H)
end

section
variable {K : PySem.W.Frag} {ca : Nat → Addr} {g : Bool} {φ : Phi} {W : WX} {σ : L2.St} {σd : Sd} {ι : List Addr} {S : Store} {H : Hp}
theorem tE_mk (hφ : PhiMono φ) {m : Ex} {Q : VK} {Q1 : Post} (R : Rep K ca ι S H) (r : RelS K ι H σd σ) (h : wpE g φ m σd S Q1 (EL K ca W σ ι H))
    (hQ : ∀ d S' ι' H' v, Q1 d S' → Ext K ι H ι' H' → Rep K ca ι' S' H' → RelD K ι' H' d v → Q v H') : tE K ca g φ W m σ H Q :=
  ⟨ι, S, σd, R, r, wpE_mono hφ m (fun d S' q ι' H' v x R' rv => hQ d S' ι' H' v q x R' rv) (fun _ _ q => q) h⟩
theorem tAs_mk (hφ : PhiMono φ) {m : Exs} {Q : List V → Hp → Prop} {Q1 : List D → Store → Prop} (R : Rep K ca ι S H) (r : RelS K ι H σd σ) (h : wpAs g φ m σd S Q1 (EL K ca W σ ι H))
    (hQ : ∀ ds S' ι' H' vs, Q1 ds S' → Ext K ι H ι' H' → Rep K ca ι' S' H' → RelDs K ι' H' ds vs → Q vs H') : tAs K ca g φ W m σ H Q :=
  ⟨ι, S, σd, R, r, wpAs_mono hφ m (fun d S' q ι' H' v x R' rv => hQ d S' ι' H' v q x R' rv) (fun _ _ q => q) h⟩
theorem tT_mk (hφ : PhiMono φ) {m : Ex} {Q : Bool → Hp → Prop} {Q1 : Post} (R : Rep K ca ι S H) (r : RelS K ι H σd σ) (h : wpE g φ m σd S Q1 (EL K ca W σ ι H))
    (hQ : ∀ d S', Q1 d S' → ∃ b, truth d S' = some b ∧ ∀ ι' H', Ext K ι H ι' H' → Rep K ca ι' S' H' → Q b H') : tT K ca g φ W m σ H Q :=
  ⟨ι, S, σd, R, r, wpE_mono hφ m (fun d S' q => hQ d S' q) (fun _ _ q => q) h⟩
theorem tAs_nil {Q : List V → Hp → Prop} (h : tAs K ca g φ W .nil σ H Q) : Q [] H := by
  obtain ⟨ι, S, σd, R, r, h⟩ := h
  simp only [wpAs] at h
  exact h ι H [] Ext.refl R .nil
theorem tAs_cons (hφ : PhiMono φ) {m : Ex} {ms : Exs} {Q : List V → Hp → Prop} (h : tAs K ca g φ W (.cons m ms) σ H Q) : tE K ca g φ W m σ H fun x H1 => tAs K ca g φ W ms σ H1 fun xs H2 => Q (x :: xs) H2 := by
  obtain ⟨ι, S, σd, R, r, h⟩ := h
  simp only [wpAs] at h
  refine tE_mk hφ R r h fun d S' ι' H' v q x R' rv => ?_
  refine tAs_mk hφ R' (r.mono x) (wpAs_mono hφ ms (fun _ _ q => q) (fun _ _ z => z.of x) q) fun ds S2 ι2 H2 vs q x2 R2 rs => ?_
  exact q ι2 H2 (v :: vs) (x.trans x2) R2 (.cons (rv.mono x2) rs)
/-- the reading of an operation's arguments -/
theorem tAs_prim (hφ : PhiMono φ) {p : Prim} {es : Exs} {Q : VK} (h : tE K ca g φ W (.prim p es) σ H Q) : tAs K ca g φ W es σ H fun vs H1 => rP K ca g p vs H1 Q := by
  obtain ⟨ι, S, σd, R, r, h⟩ := h
  simp only [wpE] at h
  refine tAs_mk hφ R r h fun ds S' ι' H' vs q x R' rv => ?_
  unfold primW at q
  split at q
  · rename_i o ho
    exact ⟨ι', S', ds, o, R', rv, ho, q.1, q.2.of x⟩
  · exact q.elim
end

/-! ### the context -/
/-- what is wanted of an exception that leaves a call -/
def EX (K : PySem.W.Frag) (ca : Nat → Addr) (E : XK) (ι : List Addr) (H : Hp) : EPost := fun x S' =>
  ∀ ι' H' dd v, Ext K ι H ι' H' → Rep K ca ι' S' H' → RelD K ι' H' x.2 v → H' dd = some (.xd [("value", v)]) → E (.ref (ca x.1)) (some dd) H'
/-- a function's promise -/
def spF (K : PySem.W.Frag) (ca : Nat → Addr) (φ : Phi) (f : Nat) : Sp := fun vs H Q E =>
  ∃ ι S ds, Rep K ca ι S H ∧ RelDs K ι H ds vs ∧ φ f ds S (QL K ca Q ι H) (EX K ca E ι H)
/-- a def keeps its promise, repr known if g -/
structure FnOkG (P : Program) (w : World) (K : PySem.W.Frag) (mg : Str → Option Value) (base : Heap) (g : Bool) (k : Nat) (f : Addr) (fd : FuncData) (ps : List Str) (sp : Sp) : Prop where
  len : ∀ vs H Q E, sp vs H Q E → vs.length = ps.length
  run : ∀ (A : Around) (outer : List Env) (s : Shared) (H : Hp) (args : Args) (us : List Value) (vs : List V) (Q : VK) (E : XK), Room k A → (g = true → A.guards = some []) → Env0 P w K mg base A outer s H →
    BindsTo s fd args (ps.zip us) → Vals vs us → sp vs H Q E → codeAny (model P w) A (.call (.ref f) args) (CR (L2.CX P w) outer P w H s Q E) s
/-- where a function stands -/
def fadr (ca : Nat → Addr) (f : Nat) : Addr := ca (f + 1000000)
/-- a function of the program: where it stands, how its parameters are bound (by place; some by name), its promise -/
structure FnFact (P : Program) (w : World) (K : PySem.W.Frag) (mg : Str → Option Value) (base : Heap) (ca : Nat → Addr) (φ : Phi) (k : Nat) (kws : List (Nat × List Str × List Nat)) (f : Nat) (fn : Fn) : Prop where
  ex : ∃ (fd : FuncData), (fn.cls = none → mg fn.name = some (.ref (fadr ca f))) ∧ PySem.W.keepIn K (.ref (fadr ca f)) = true ∧ (∀ (s : Shared) (us : List Value), us.length = fn.ps.length → BindsTo s fd ⟨us, []⟩ (fn.ps.zip us)) ∧
    (∀ q ∈ kws, ∀ (s : Shared) (us ws rs : List Value), us.length = q.1 → ws.length = q.2.1.length → pick (us ++ ws) q.2.2 = some rs → rs.length = fn.ps.length → BindsTo s fd ⟨us, q.2.1.zip ws⟩ (fn.ps.zip rs)) ∧
    FnOkG P w K mg base fn.g k (fadr ca f) fd fn.ps (spF K ca φ f)
def tyNames : List String := ["int", "bool", "str", "NoneType", "tuple", "list"]
/-- the class's own ==, at f -/
structure EqOf (K : PySem.W.Frag) (c f : Addr) : Prop where
  find : PySem.W.findIn K (.ref c) "__eq__" = some (some (.ref f))
  fn : PySem.W.isFn K (.ref f) = true
  ha : PySem.W.findIn K (.ref c) "__class__" = some (some (.builtin "object.__class__"))
  hn : PySem.W.specialIn K (.builtin "object.__class__") "__get__" = some (some (.builtin "getset_descriptor.__get__"))
  htk : PySem.W.takesIn K (.builtin "object.__class__") = some true
  hm : PySem.W.mroIn K c (.type "object") = some true
  kit : PySem.W.kitOne K (.ref c) (.ref c) = some true
  ne : PySem.W.findIn K (.ref c) "__ne__" = some (some (.builtin "object.__ne__"))
  nf : ∀ t ∈ tyNames, PySem.W.subIn K (.type t) (.ref c) = some false
  kf : ∀ t ∈ tyNames, PySem.W.kitOne K (.type t) (.ref c) = some false
/-- a class of the program -/
structure ClF (K : PySem.W.Frag) (mg : Str → Option Value) (ca : Nat → Addr) (c : Nat) (cl : Cl) : Prop where
  mg : mg cl.name = some (.ref (ca c))
  ok : Cls K (ca c)
  fld : ∀ x ∈ cl.fields, NoAttr K (ca c) x
  prp : ∀ q ∈ cl.props, q.1 ≠ "__eq__" → ∃ p, PropOf K (ca c) q.1 p (fadr ca q.2)
  eqs : ∀ q ∈ cl.props, q.1 = "__eq__" → EqOf K (ca c) (fadr ca q.2)
  made : Mk K (ca c) (fadr ca cl.init)

def bltNames : List Str := ["len", "abs", "int", "max", "min", "list", "tuple", "sum", "all", "isinstance", "bool", "repr", "range", "zip", "enumerate", "any", "sorted", "set"]
/-- what a context has to bear -/
structure Good (C : Ck) (ca : Nat → Addr) (φ : Phi) (k : Nat) (X : Cx) (W : WX) : Prop where
  calm : X.calm = true
  nd : X.N.Nodup
  N : X.N = C.N
  sc : X.env.scope = C.sc
  cell : ∀ x, C.cell x = true → X.fn x = true
  gd : C.g = true → X.A.guards = some []
  own : PassesOwn (model X.prog X.w) X.A X.env X.xe
  room : Room k X.A
  room2 : ∀ B : Around, B.handled = X.A.handled → B.depth ≤ X.A.depth + 1 → B.units ≤ X.A.units + 8 → Room k B
  cls : ∀ c cl, C.cls c = some cl → ClF X.K X.mg ca c cl
  takes : Takes X W
  fns : ∀ f fn, C.fns f = some fn → FnFact X.prog X.w X.K X.mg X.base ca φ k (C.kws f) f fn
  blt : ∀ x ∈ bltNames, X.mg x = none
  exs : ∀ c, C.exs c = true → ExF X.K X.prog X.mg ca C.exs c ∧ X.mg "ValueError" = none
  stk : C.top = true → X.stack = X.env :: X.outer ∧ X.env.frame = some X.env.locals
  gls : ∀ p ∈ C.gls, ∃ v u, X.mg p.1 = some u ∧ RelV v u ∧ ∀ ι H, RelD X.K ι H p.2 v

section
variable {C : Ck} {ca : Nat → Addr} {φ : Phi} {k : Nat} {X : Cx} {W : WX}
theorem Good.un (G : Good C ca φ k X W) : X.A.units + 70 < cLine := by
  have := G.room.un
  omega
theorem vis_ok (G : Good C ca φ k X W) {i : Nat} {x : Str} (h : C.vis i x = true) : X.N[i]? = some x ∧ Vis X.env.scope x ∧ (x == ("__debug__" : Str)) = false ∧ (x == ("__classdict__" : Str)) = false := by
  unfold Ck.vis at h
  simp only [Bool.and_eq_true, decide_eq_true_eq, Bool.not_eq_true'] at h
  obtain ⟨⟨⟨h1, h2⟩, h3⟩, h4⟩ := h
  refine ⟨by rw [G.N]; exact h1, ?_, h3, h4⟩
  unfold Vis
  rw [G.sc]
  split at h2
  · exact .inl (by assumption)
  · exact .inr (.inl (by assumption))
  · exact .inr (.inr (by assumption))
  · cases h2
theorem loc_ok (G : Good C ca φ k X W) {i : Nat} {x : Str} (h : C.loc i x = true) : X.N[i]? = some x ∧ L2.Loc X.env.scope x ∧ (X.fn x = true ∨ X.env.scope.names.lookup x = some .local) := by
  unfold Ck.loc at h
  simp only [Bool.and_eq_true, decide_eq_true_eq] at h
  obtain ⟨h1, h2⟩ := h
  refine ⟨by rw [G.N]; exact h1, ?_⟩
  unfold L2.Loc
  rw [G.sc]
  split at h2
  · exact ⟨.inl (by assumption), .inr (by assumption)⟩
  · exact ⟨.inr (by assumption), .inl (G.cell _ h2)⟩
  · cases h2
theorem gl_ok (G : Good C ca φ k X W) {x : Str} (h : C.gl x = true) : Gl X x ∧ (x == ("__debug__" : Str)) = false := by
  unfold Ck.gl at h
  simp only [Bool.and_eq_true, decide_eq_true_eq, Bool.not_eq_true'] at h
  refine ⟨?_, h.2⟩
  show X.env.scope.names.lookup x = _
  rw [G.sc]
  exact h.1
end

/-! ### syntax -/
theorem star_of {e : Expr} (h : plainX e = true) (es : List Expr) (env : Env) : starEach (e :: es) env = (false, eval e env) :: starEach es env := by
  cases e <;> first | rfl | cases h
theorem ix_of {b : Expr} (h : plainX b = true) : PlainIx b := by
  intro o i
  cases b <;> first | rfl | cases h
theorem mark_of {op : CmpOp} {b : Expr} (h : plainX b = true) : behindInMarks op b = false := by
  cases b <;> first | rfl | cases h
theorem fold_of {e : Expr} (h : plainX e = true) (env : Env) (x : Value) : foldedSetIterable e env x = pure x := by
  cases e <;> first | rfl | cases h
theorem test_of {e : Expr} (h : testX e = true) (env : Env) (whole : Sem Value) : isTrue e env whole = (do let v ← whole; standAt e.pos; holding [v] (truthy v)) := by
  cases e <;> first | rfl | cases h

/-- the arguments, one by one -/
inductive AllE (X : Cx) (ca : Nat → Addr) (g : Bool) (φ : Phi) (W : WX) : Exs → List Expr → Prop
  | nil : AllE X ca g φ W .nil []
  | cons {m : Ex} {e : Expr} {ms : Exs} {es : List Expr} : PE X e (tE X.K ca g φ W m) → plainX e = true → AllE X ca g φ W ms es → AllE X ca g φ W (.cons m ms) (e :: es)
theorem AllE.plain {X : Cx} {ca : Nat → Addr} {g : Bool} {φ : Phi} {W : WX} {pos : Pos} : ∀ {ms : Exs} {es : List Expr}, AllE X ca g φ W ms es → (backTo pos (starEach es X.env)).any (·.1) = false
  | _, _, .nil => rfl
  | _, _, .cons _ hp r => by
    rw [star_of hp]
    exact AllE.plain r
theorem AllE.pa {X : Cx} {ca : Nat → Addr} {g : Bool} {φ : Phi} {W : WX} (hφ : PhiMono φ) : ∀ {ms : Exs} {es : List Expr}, AllE X ca g φ W ms es → PA X es (tAs X.K ca g φ W ms)
  | _, _, .nil => ⟨fun pos pins s σ H Q I h => pa_nil.run pos pins s σ H Q I (tAs_nil h)⟩
  | _, _, .cons h hp r => ⟨fun pos pins s σ H Q I q => (pa_cons h (AllE.pa hφ r) (star_of hp _ _)).run pos pins s σ H Q I (tAs_cons hφ q)⟩

theorem _root_.L2.PE.weak {X : Cx} {e : Expr} {t t' : TE} (h : PE X e t) (i : ∀ σ H Q, t' σ H Q → t σ H Q) : PE X e t' := ⟨fun pins s σ H Q I q => h.run pins s σ H Q I (i σ H Q q)⟩
theorem _root_.L2.PT.weak {X : Cx} {e : Expr} {t t' : TT} (h : PT X e t) (i : ∀ σ H Q, t' σ H Q → t σ H Q) : PT X e t' := ⟨fun pins s σ H Q I q => h.run pins s σ H Q I (i σ H Q q)⟩

section
variable {C : Ck} {ca : Nat → Addr} {φ : Phi} {X : Cx} {W : WX} {g : Bool}
/-- two arguments -/
theorem tAs_two (hφ : PhiMono φ) {K : PySem.W.Frag} {a b : Ex} {σ : L2.St} {H : Hp} {Q : List V → Hp → Prop} (h : tAs K ca g φ W (.cons a (.cons b .nil)) σ H Q) : tE K ca g φ W a σ H fun x H1 => tE K ca g φ W b σ H1 fun y H2 => Q [x, y] H2 := by
  obtain ⟨ι, S, σd, R, r, h⟩ := tAs_cons hφ h
  refine tE_mk hφ R r h fun d S' ι' H' v q x R' rv => ?_
  obtain ⟨ι2, S2, σd2, R2, r2, h2⟩ := tAs_cons hφ (q ι' H' v x R' rv)
  exact tE_mk hφ R2 r2 h2 fun d2 S3 ι3 H3 v2 q2 x3 R3 rv2 => tAs_nil (q2 ι3 H3 v2 x3 R3 rv2)
theorem tAs_one (hφ : PhiMono φ) {K : PySem.W.Frag} {a : Ex} {σ : L2.St} {H : Hp} {Q : List V → Hp → Prop} (h : tAs K ca g φ W (.cons a .nil) σ H Q) : tE K ca g φ W a σ H fun x H1 => Q [x] H1 := by
  obtain ⟨ι, S, σd, R, r, h⟩ := tAs_cons hφ h
  exact tE_mk hφ R r h fun d S' ι' H' v q x R' rv => tAs_nil (q ι' H' v x R' rv)
end

/-! ### calls -/
section
variable {C : Ck} {ca : Nat → Addr} {φ : Phi} {k : Nat} {X : Cx} {W : WX}
theorem run_fnG {f : Addr} {fd : FuncData} {ps : List Str} {sp : Sp} {g : Bool} {pins : List (Addr × Obj)} {σ : L2.St} {H : Hp} {s : Shared} {Q : VK} {args : Args} {us : List Value} {vs : List V}
    (F : FnOkG X.prog X.w X.K X.mg X.base g k f fd ps sp) (hr : Room k X.A) (hg : g = true → X.A.guards = some []) (tk : Takes X W) (I : Inv X pins σ H s) (r : Vals vs us) (hb : BindsTo s fd args (ps.zip us)) (h : sp vs H Q (WE W σ)) :
    codeAny (model X.prog X.w) X.A (.call (.ref f) args) (fun r s' => match r with
      | .ok (.ret u) => EP X pins σ Q u s'
      | .ok _ => False
      | .error e => X.xe e s') s := by
  refine codeAny_mono (F.run X.A X.stack s H args us vs Q (WE W σ) hr hg I.env0 hb r h) fun r s' hq => ?_
  cases r with
  | error e => exact passAt tk σ pins H s e s' I hq
  | ok fl => cases fl <;> first | exact I.after hq | exact hq.elim
theorem call_fnG {f : Addr} {fd : FuncData} {ps : List Str} {sp : Sp} {g : Bool} {pins : List (Addr × Obj)} {σ : L2.St} {H : Hp} {s : Shared} {Q : VK} {us ws : List Value} {kw : List (Str × Value)} {vs : List V}
    (F : FnOkG X.prog X.w X.K X.mg X.base g k f fd ps sp) (hr : Room k X.A) (hg : g = true → X.A.guards = some []) (tk : Takes X W) (I : Inv X pins σ H s) (r : Vals vs ws) (hb : BindsTo s fd ⟨us, kw⟩ (ps.zip ws)) (h : sp vs H Q (WE W σ)) :
    wpAny (model X.prog X.w) X.A (call (.ref f) us kw) (EP X pins σ Q) X.xe s := by
  refine wpAny_call (codeAny_mono (run_fnG F hr hg tk I r hb h) fun r s' hq => ?_)
  cases r with
  | error e => exact hq
  | ok fl => cases fl <;> first | exact hq | exact hq.elim

theorem tE_call (hφ : PhiMono φ) {g : Bool} {f : Nat} {es : Exs} {σ : L2.St} {H : Hp} {Q : VK} (h : tE X.K ca g φ W (.call f es) σ H Q) : tAs X.K ca g φ W es σ H fun vs H1 => spF X.K ca φ f vs H1 Q (WE W σ) := by
  obtain ⟨ι, S, σd, R, r, h⟩ := h
  simp only [wpE] at h
  refine tAs_mk hφ R r h fun ds S' ι' H' vs q x R' rv => ?_
  exact ⟨ι', S', ds, R', rv, hφ _ _ _ _ _ _ _ (fun d S1 q => q.of x) (fun e S1 q => q.of x) q⟩
end
end CC
/-! Expressions, one form after another. -/
namespace CC
open L2 PySem PySem.Spec PyProof.Rows

section
variable {K : PySem.W.Frag} {ca : Nat → Addr} {φ : Phi} {W : WX} {g : Bool} {σ : L2.St} {H : Hp} {Q : VK}
theorem prim1 (hφ : PhiMono φ) {p : Prim} {a : Ex} (h : tE K ca g φ W (.prim p (.cons a .nil)) σ H Q) : tE K ca g φ W a σ H fun x H1 => rP K ca g p [x] H1 Q := tAs_one hφ (tAs_prim hφ h)
theorem prim2 (hφ : PhiMono φ) {p : Prim} {a b : Ex} (h : tE K ca g φ W (.prim p (.cons a (.cons b .nil))) σ H Q) : tE K ca g φ W a σ H fun x H1 => tE K ca g φ W b σ H1 fun y H2 => rP K ca g p [x, y] H2 Q := tAs_two hφ (tAs_prim hφ h)
/-- a value that is a bool -/
def BoolE (g : Bool) (φ : Phi) (m : Ex) : Prop := ∀ (σ : Sd) (S : Store) (Q : Post) (E : EPost), wpE g φ m σ S Q E → wpE g φ m σ S (fun d S1 => (∃ b, d = .bl b) ∧ Q d S1) E
theorem tT_tE (hφ : PhiMono φ) {m : Ex} {Q : Bool → Hp → Prop} (hb : BoolE g φ m) (h : tT K ca g φ W m σ H Q) : tE K ca g φ W m σ H fun x H' => ∃ k, x = .bl k ∧ Q k H' := by
  obtain ⟨ι, S, σd, R, r, q⟩ := h
  refine tE_mk hφ R r (hb _ _ _ _ q) fun d S' ι' H' v q x R' rv => ?_
  obtain ⟨⟨b, e⟩, c, hc, k⟩ := q
  subst e
  cases rv
  cases hc
  exact ⟨_, rfl, k ι' H' x R'⟩
theorem cmpR_bl {op : CmpOp} {x y : D} {S : Store} {o : Out} (h : cmpR op x y S = some o) : ∃ b, o.d = .bl b := by
  unfold cmpR at h
  split at h <;> split at h <;> first | (cases h; exact ⟨_, rfl⟩) | (cases h; done) | (split at h <;> first | (cases h; exact ⟨_, rfl⟩) | cases h)
theorem primW_bl {op : CmpOp} {ds : List D} {S : Store} {Q : Post} (h : primW g (.cmp op) ds S Q) : primW g (.cmp op) ds S (fun d S1 => (∃ b, d = .bl b) ∧ Q d S1) := by
  unfold primW at h ⊢
  split at h
  · rename_i o ho
    refine ⟨h.1, ?_, h.2⟩
    match ds, ho with
    | [x, y], ho => exact cmpR_bl ho
    | [], ho => cases ho
    | [_], ho => cases ho
    | _ :: _ :: _ :: _, ho => cases ho
  · exact h
theorem boolE_cmp (hφ : PhiMono φ) {op : CmpOp} {es : Exs} : BoolE g φ (.prim (.cmp op) es) := fun σ S Q E h => by
  simp only [wpE] at h ⊢
  exact wpAs_mono hφ es (fun ds S1 q => primW_bl q) (fun _ _ z => z) h
theorem boolE_chain (hφ : PhiMono φ) {op op' : CmpOp} {a b c : Ex} : BoolE g φ (.chain op op' a b c) := fun σ S Q E h => by
  simp only [wpE] at h ⊢
  refine wpE_mono hφ a (fun x S1 q => wpE_mono hφ b (fun y S2 q => primW_mono (fun z S3 q => ?_) q) (fun _ _ z => z) q) (fun _ _ z => z) h
  split at q
  · exact wpE_mono hφ c (fun w S4 q => primW_bl q) (fun _ _ z => z) q
  · exact ⟨⟨_, rfl⟩, q⟩
  · exact q
theorem base_of {o : Expr} (h : baseX o = true) (x : Str) (env : Env) (w : Sem Value) : attributeBase o x env w = w := by
  unfold attributeBase
  split
  · cases h
  · rfl
end

section
variable {C : Ck} {ca : Nat → Addr} {φ : Phi} {k : Nat} {X : Cx} {W : WX} {g t : Bool} {e : Expr}
theorem pt_of_pe (hφ : PhiMono φ) {m : Ex} (h : PE X e (tE X.K ca g φ W m)) (ht : testX e = true) : PT X e (tT X.K ca g φ W m) := by
  refine (pt_truth h (fun w => test_of ht X.env w)).weak fun σ H Q q => ?_
  obtain ⟨ι, S, σd, R, r, q⟩ := q
  exact tE_mk hφ R r q fun d S' ι' H' v q x R' rv => by
    obtain ⟨b, hb, k⟩ := q
    exact ⟨b, truth_of R' hb rv, k ι' H' x R'⟩

theorem c_var (G : Good C ca φ k X W) {i : Nat} (h : chkE C t (.var i) e = true) : PE X e (tE X.K ca C.g φ W (.var i)) ∧ testX e = true := by
  simp only [chkE] at h
  split at h
  · obtain ⟨h1, h2, h3, h4⟩ := vis_ok G h
    refine ⟨(pe_var h1 h2 h3 h4).weak fun σ H Q q => ?_, rfl⟩
    obtain ⟨ι, S, σd, R, r, q⟩ := q
    simp only [wpE] at q
    split at q
    · rename_i d hd
      obtain ⟨v, e, rv⟩ := r.2 i d hd
      exact ⟨v, e, q ι H v Ext.refl R rv⟩
    · exact q.elim
  · cases h
theorem c_const {d : D} (h : chkE C t (.const d) e = true) : PE X e (tE X.K ca C.g φ W (.const d)) ∧ testX e = true := by
  simp only [chkE] at h
  split at h
  · refine ⟨?_, rfl⟩
    unfold isConst at h
    split at h
    · exact pe_non.weak fun σ H Q ⟨ι, S, σd, R, r, q⟩ => by
        simp only [wpE] at q
        exact q ι H .non Ext.refl R .non
    · cases of_decide_eq_true h
      exact pe_bl.weak fun σ H Q ⟨ι, S, σd, R, r, q⟩ => by
        simp only [wpE] at q
        exact q ι H (.bl _) Ext.refl R (.bl _)
    · cases of_decide_eq_true h
      exact pe_int.weak fun σ H Q ⟨ι, S, σd, R, r, q⟩ => by
        simp only [wpE] at q
        exact q ι H (.int _) Ext.refl R (.int _)
    · cases of_decide_eq_true h
      exact pe_str.weak fun σ H Q ⟨ι, S, σd, R, r, q⟩ => by
        simp only [wpE] at q
        exact q ι H (.str _) Ext.refl R (.str _)
    · cases h
  · cases h
theorem c_glob (G : Good C ca φ k X W) {x : Str} {d : D} (h : chkE C t (.glob x d) e = true) : PE X e (tE X.K ca C.g φ W (.glob x d)) ∧ testX e = true := by
  simp only [chkE] at h
  split at h
  · simp only [Bool.and_eq_true, decide_eq_true_eq, List.any_eq_true] at h
    obtain ⟨⟨h1, h2⟩, p, h3, h4, h5⟩ := h
    subst h1
    obtain ⟨v, u, m, r, rd⟩ := G.gls p h3
    obtain ⟨g1, g2⟩ := gl_ok G h2
    rw [h4] at m
    refine ⟨(pe_glob g1 m r g2).weak fun σ H Q q => ?_, rfl⟩
    obtain ⟨ι, S, σd, R, r, q⟩ := q
    simp only [wpE] at q
    exact q ι H v Ext.refl R (by rw [← D.beq_eq h5]; exact rd ι H)
  · cases h
end

/-! ### arguments of so many -/
section
variable {X : Cx} {ca : Nat → Addr} {g : Bool} {φ : Phi} {W : WX} {es : Exs}
theorem AllE.one {a : Expr} (h : AllE X ca g φ W es [a]) : ∃ m, es = .cons m .nil ∧ PE X a (tE X.K ca g φ W m) ∧ plainX a = true := by
  cases h with
  | cons h1 h2 h3 => cases h3; exact ⟨_, rfl, h1, h2⟩
theorem AllE.two {a b : Expr} (h : AllE X ca g φ W es [a, b]) : ∃ m n, es = .cons m (.cons n .nil) ∧ PE X a (tE X.K ca g φ W m) ∧ plainX a = true ∧ PE X b (tE X.K ca g φ W n) ∧ plainX b = true := by
  cases h with
  | cons h1 h2 h3 =>
    obtain ⟨n, rfl, h4, h5⟩ := h3.one
    exact ⟨_, _, rfl, h1, h2, h4, h5⟩
end

/-! ### what is proved of the parts -/
def isBoolOp : Expr → Bool
  | .BoolOp _ _ _ => true
  | _ => false
structure SndE (m : Ex) : Prop where
  pe : ∀ {C : Ck} {ca : Nat → Addr} {φ : Phi} {k : Nat} {X : Cx} {W : WX} {e : Expr}, PhiMono φ → Good C ca φ k X W → chkE C false m e = true → PE X e (tE X.K ca C.g φ W m)
  pt : ∀ {C : Ck} {ca : Nat → Addr} {φ : Phi} {k : Nat} {X : Cx} {W : WX} {e : Expr}, PhiMono φ → Good C ca φ k X W → chkE C true m e = true → PT X e (tT X.K ca C.g φ W m)
  pw : ∀ {C : Ck} {ca : Nat → Addr} {φ : Phi} {k : Nat} {X : Cx} {W : WX} {e : Expr}, PhiMono φ → Good C ca φ k X W → chkE C true m e = true → isBoolOp e = true → PW X e (tT X.K ca C.g φ W m)
structure SndEs (ms : Exs) : Prop where
  all : ∀ {C : Ck} {ca : Nat → Addr} {φ : Phi} {k : Nat} {X : Cx} {W : WX} {es : List Expr}, PhiMono φ → Good C ca φ k X W → chkEs C ms es = true → AllE X ca C.g φ W ms es
  cond : ∀ {C : Ck} {ca : Nat → Addr} {φ : Phi} {k : Nat} {X : Cx} {W : WX} {es : List Expr}, PhiMono φ → Good C ca φ k X W → chkCond C ms es = true → (ms = .nil ∧ es = []) ∨ ∃ m e, ms = .cons m .nil ∧ es = [e] ∧ PT X e (tT X.K ca C.g φ W m)

/-- from the value's rule -/
theorem SndE.of {m : Ex} (h : ∀ {C : Ck} {ca : Nat → Addr} {φ : Phi} {k : Nat} {X : Cx} {W : WX} {e : Expr} {t : Bool}, PhiMono φ → Good C ca φ k X W → chkE C t m e = true → PE X e (tE X.K ca C.g φ W m) ∧ testX e = true) : SndE m where
  pe := fun hφ G hc => (h hφ G hc).1
  pt := fun hφ G hc => pt_of_pe hφ (h hφ G hc).1 (h hφ G hc).2
  pw := fun hφ G hc hb => by
    have := (h hφ G hc).2
    rename_i e
    cases e <;> first | (cases hb; done) | (cases this; done)
theorem snd_var (i : Nat) : SndE (.var i) := .of fun _ G h => c_var G h
theorem snd_const (d : D) : SndE (.const d) := .of fun _ _ h => c_const h
theorem snd_glob (x : Str) (d : D) : SndE (.glob x d) := .of fun _ G h => c_glob G h
theorem snd_nil : SndEs .nil where
  all := fun {_ _ _ _ _ _ es} _ _ h => by
    simp only [chkEs] at h
    split at h
    · exact .nil
    · cases h
  cond := fun {_ _ _ _ _ _ es} _ _ h => by
    simp only [chkCond] at h
    split at h
    · exact .inl ⟨rfl, rfl⟩
    · cases h
theorem snd_cons {m : Ex} {ms : Exs} (h1 : SndE m) (h2 : SndEs ms) : SndEs (.cons m ms) where
  all := fun hφ G h => by
    simp only [chkEs] at h
    split at h
    · simp only [Bool.and_eq_true] at h
      exact .cons (h1.pe hφ G h.1.1) h.1.2 (h2.all hφ G h.2)
    · cases h
  cond := fun hφ G h => by
    simp only [chkCond] at h
    split at h
    · exact .inr ⟨_, _, rfl, rfl, h1.pt hφ G h⟩
    · cases h

/-! ### operations -/
section
variable {C : Ck} {ca : Nat → Addr} {φ : Phi} {k : Nat} {X : Cx} {W : WX} {es : Exs} {e : Expr}
theorem Good.blt' (G : Good C ca φ k X W) {x : Str} (h : bltNames.contains x = true) : X.mg x = none := G.blt x (by simpa using h)
theorem boot_blt (b : Blt) : bootBuiltins b.nm = some b.val ∧ bltNames.contains b.nm = true := by
  cases b <;> decide +kernel
theorem call_of {b : Blt} {x : Str} {p pos : Pos} {a : Expr} {r : List Expr} (hφ : PhiMono φ) (G : Good C ca φ k X W) (hx : x = b.nm) (hg : C.gl x = true) (h : AllE X ca C.g φ W es (a :: r)) :
    PE X (.Call (.Name x p) (a :: r) [] pos) (tE X.K ca C.g φ W (.prim (.blt b) es)) := by
  subst hx
  obtain ⟨g1, g2⟩ := gl_ok G hg
  obtain ⟨v1, v2⟩ := boot_blt b
  have hp := h.pa hφ
  have hs : starEach (a :: r) X.env = (false, eval a X.env) :: starEach r X.env := by
    cases h with
    | cons z1 z2 z3 => exact star_of z2 _ _
  have hl : (backTo pos (starEach r X.env)).any (·.1) = false := by
    cases h with
    | cons z1 z2 z3 => exact z3.plain
  have hm := G.blt' v2
  have hc := call_P (X := X) (ca := ca) (g := C.g) G.calm b
  cases b with
  | int => exact (pe_callTy hc g1 hm v1 hp (by decide) g2 hs hl).weak fun σ H Q q => tAs_prim hφ q
  | list => exact (pe_callTy hc g1 hm v1 hp (by decide) g2 hs hl).weak fun σ H Q q => tAs_prim hφ q
  | tuple => exact (pe_callTy hc g1 hm v1 hp (by decide) g2 hs hl).weak fun σ H Q q => tAs_prim hφ q
  | len => exact (pe_callB hc g1 hm v1 hp (by decide) g2 hs hl).weak fun σ H Q q => tAs_prim hφ q
  | abs => exact (pe_callB hc g1 hm v1 hp (by decide) g2 hs hl).weak fun σ H Q q => tAs_prim hφ q
  | max1 => exact (pe_callB hc g1 hm v1 hp (by decide) g2 hs hl).weak fun σ H Q q => tAs_prim hφ q
  | max2 => exact (pe_callB hc g1 hm v1 hp (by decide) g2 hs hl).weak fun σ H Q q => tAs_prim hφ q
  | min2 => exact (pe_callB hc g1 hm v1 hp (by decide) g2 hs hl).weak fun σ H Q q => tAs_prim hφ q
  | sum => exact (pe_callB hc g1 hm v1 hp (by decide) g2 hs hl).weak fun σ H Q q => tAs_prim hφ q
  | all => exact (pe_callB hc g1 hm v1 hp (by decide) g2 hs hl).weak fun σ H Q q => tAs_prim hφ q
  | max4 => exact (pe_callB hc g1 hm v1 hp (by decide) g2 hs hl).weak fun σ H Q q => tAs_prim hφ q
  | any => exact (pe_callB hc g1 hm v1 hp (by decide) g2 hs hl).weak fun σ H Q q => tAs_prim hφ q
  | sorted => exact (pe_callB hc g1 hm v1 hp (by decide) g2 hs hl).weak fun σ H Q q => tAs_prim hφ q
end
end CC
/-! An except suite that tells an own error in a list. -/
namespace CC
open L2 PySem PySem.Spec PyProof.Rows

def hiV (v : V) : Hi → V
  | .bl b => .bl b
  | .str s => .str s
  | .val => v
def GrowH (H H' : Hp) : Prop := ∀ b o, H b = some o → H' b = some o
theorem GrowH.refl {H : Hp} : GrowH H H := fun _ _ h => h
theorem GrowH.trans {H H1 H2 : Hp} (a : GrowH H H1) (b : GrowH H1 H2) : GrowH H H2 := fun x o h => b x o (a x o h)
theorem GrowH.laid {H : Hp} {p : Addr} {o : HO} (h : H p = none) : GrowH H (upd H p o) := fun b u e => by
  by_cases z : b = p
  · rw [z, h] at e
    cases e
  · rw [upd_ne z]
    exact e
def HvV (v : V) (H0 : Hp) : HV → V → Hp → Prop
  | .one h, u, _ => u = hiV v h
  | .lst hs, u, H => ∃ p, u = .ref p ∧ H0 p = none ∧ H p = some (.lst (hs.map (hiV v)))
theorem HvV.grow {v : V} {H0 H H' : Hp} {h : HV} {u : V} (q : HvV v H0 h u H) (g : GrowH H H') : HvV v H0 h u H' := by
  cases h with
  | one h => exact q
  | lst hs =>
    obtain ⟨p, e, n, z⟩ := q
    exact ⟨p, e, n, g _ _ z⟩
structure RelH (v : V) (H0 : Hp) (a : Addr) (i : Nat) (ρ : List (Option HV)) (σ : L2.St) (H : Hp) : Prop where
  gr : GrowH H0 H
  ex : σ[i]? = some (some (.ref a))
  sl : ∀ (j : Nat) (h : HV), ρ[j]? = some (some h) → ∃ u, σ[j]? = some (some u) ∧ HvV v H0 h u H
theorem RelH.grow {v : V} {H0 H H' : Hp} {a : Addr} {i : Nat} {ρ : List (Option HV)} {σ : L2.St} (r : RelH v H0 a i ρ σ H) (g : GrowH H H') : RelH v H0 a i ρ σ H' :=
  ⟨r.gr.trans g, r.ex, fun j h e => by
    obtain ⟨u, e1, q⟩ := r.sl j h e
    exact ⟨u, e1, q.grow g⟩⟩
theorem fresh0 {H0 H : Hp} (g : GrowH H0 H) {p : Addr} (h : H p = none) : H0 p = none := by
  cases e : H0 p with
  | none => rfl
  | some o =>
    rw [g _ _ e] at h
    cases h

section
variable {K : PySem.W.Frag} {ca : Nat → Addr} {ι : List Addr} {H H' : Hp} {S : Store}
theorem SqT.grow (g : GrowH H H') {a : Addr} {vs : List V} (h : SqT K H a vs) : SqT K H' a vs := by
  rcases h with (h | ⟨x, h⟩) | h
  · exact .inl (.inl (g _ _ h))
  · exact .inl (.inr ⟨x, g _ _ h⟩)
  · exact .inr h
theorem SqF.grow (g : GrowH H H') {a : Addr} {vs : List V} (h : SqF K H a vs) : SqF K H' a vs := by
  rcases h with ⟨x, h⟩ | h
  · exact .inl ⟨x, g _ _ h⟩
  · exact .inr h
theorem Ext.grow (g : GrowH H H') : Ext K ι H ι H' := ⟨fun _ _ h => h, fun _ _ h => SqT.grow g h⟩
theorem Rep.grow (R : Rep K ca ι S H) (g : GrowH H H') : Rep K ca ι S H' where
  len := R.len
  obj := fun l ob a h1 h2 => by
    have x : Ext K ι H ι H' := Ext.grow g
    cases R.obj l ob a h1 h2 with
    | lst e r => exact .lst (g _ _ e) (r.mono x)
    | rol e r => exact .rol (SqF.grow g e) (r.mono x)
    | ins e f r => exact .ins (g _ _ e) (g _ _ f) (r.mono x)
  inj := R.inj
/-- a list that was laid on the way -/
theorem Rep.pushAt (R : Rep K ca ι S H) (g : GrowH H H') {p : Addr} (hp : H p = none) {ds : List D} {vs : List V} (e : H' p = some (.lst vs)) (r : RelDs K ι H ds vs) : Rep K ca (ι ++ [p]) (S ++ [.lst ds]) H' ∧ Ext K ι H (ι ++ [p]) H' := by
  have hm : upd (fun b => if b = p then none else H' b) p (.lst vs) = H' := by
    funext b
    by_cases hb : b = p
    · rw [hb, upd_same, e]
    · rw [upd_ne hb]
      exact if_neg hb
  have g' : GrowH H (fun b => if b = p then none else H' b) := fun b o z => by
    have hb : b ≠ p := fun y => by rw [y, hp] at z; cases z
    show (if b = p then none else H' b) = some o
    rw [if_neg hb]
    exact g _ _ z
  have R' := (R.grow g').pushLst (p := p) (by simp) (r.mono (Ext.grow g'))
  rw [hm] at R'
  exact ⟨R', ⟨fun l a h => by rw [List.getElem?_append_left (List.getElem?_eq_some_iff.mp h).1]; exact h, fun _ _ h => SqT.grow g h⟩⟩
end

/-! ### what is looked at -/
def okN (C : Ck) (n : Str) : Bool := C.gl n && (decide (n = ("ValueError" : Str)) || (List.range 10).any fun j => C.exs (j + 500000) && decide (exNm (j + 500000) = n))
def namesOf : List Expr → Option (List Str)
  | [] => some []
  | e :: r => (match e with
    | .Name n _ => (match namesOf r with
      | some ns => some (n :: ns)
      | none => none)
    | _ => none)
def chkN (C : Ck) (ns : List Str) : Expr → Bool
  | .Name n _ => decide (ns = [n]) && okN C n
  | .Tuple es _ _ => decide (namesOf es = some ns) && ns.all (okN C) && decide (ns.length ≤ 1000)
  | _ => false
mutual
def chkH (C : Ck) (i : Nat) (t : Bool) : Hx → Expr → Bool
  | .isE ns, e => (match e with
    | .Call (.Name f _) [.Name x _, y] [] _ => decide (f = ("isinstance" : Str)) && C.gl f && C.vis i x && chkN C ns y
    | _ => false)
  | .val, e => (match e with
    | .Attribute (.Name x _) y _ => decide (y = ("value" : Str)) && C.vis i x && !t
    | _ => false)
  | .var j, e => (match e with
    | .Name x _ => C.vis j x
    | _ => false)
  | .str s, e => (match e with
    | .Constant (.str z) _ _ => decide (z = s) && !t
    | _ => false)
  | .orE a b, e => (match e with
    | .BoolOp .Or [x, y] _ => chkH C i t a x && chkH C i t b y
    | _ => false)
  | .notE a, e => (match e with
    | .UnaryOp .Not x _ => chkH C i t a x
    | _ => false)
  | .ite c a b, e => (match e with
    | .IfExp x y z _ => chkH C i true c x && chkH C i false a y && chkH C i false b z && !t
    | _ => false)
  | .rep s a, e => (match e with
    | .BinOp (.Constant (.str z) _ _) .Mult (.Call (.Name f _) [x] [] _) _ => decide (z = s) && decide (f = ("int" : Str)) && C.gl f && chkH C i false a x && plainX x && !t && decide (s.length ≤ 1000)
    | _ => false)
  | .add a b, e => (match e with
    | .BinOp x .Add y _ => chkH C i false a x && chkH C i false b y && !t
    | _ => false)
  | .lst xs, e => (match e with
    | .List es _ => chkHs C i xs es && !t
    | _ => false)
def chkHs (C : Ck) (i : Nat) : Hxs → List Expr → Bool
  | .nil, es => (match es with
    | [] => true
    | _ => false)
  | .cons a r, es => (match es with
    | e :: es => chkH C i false a e && plainX e && chkHs C i r es
    | _ => false)
end

/-! ### isinstance -/
section
variable {X : Cx} {a D dd : Addr} {oe : Obj} {pn : List (Addr × Obj)} {v : V}
theorem inst_at {pins : List (Addr × Obj)} {σ : L2.St} {H : Hp} {s : Shared} (hz : Zc (.ref D) (some dd) oe) (hf : ∃ vs, oe.data = .fields vs) (I : Inv (X.suite a ((a, oe) :: pn)) pins σ H s) (hd : H dd = some (.xd [("value", v)])) :
    ∃ od u, PySem.W.InstAt s.heap a oe D (some od) ∧ PySem.W.lookIn "value" od = some (some u) ∧ RelV v u := by
  obtain ⟨ha, _⟩ := I.pin (a, oe) (List.mem_append_left _ List.mem_cons_self)
  obtain ⟨vs, hv⟩ := hf
  have hx : ObjOk X.prog X.w H s.heap dd (.xd [(("value" : Str), v)]) := I.hok dd _ hd
  obtain ⟨mA, hns, hr⟩ := hx
  obtain ⟨od, ho, hl⟩ := lookIn_ns hns
  have l : List.lookup ("value" : Str) [(("value" : Str), v)] = some v := by simp [List.lookup]
  obtain ⟨u, hu, ru⟩ := RelO.some_of (v := v) (o := mA "value") (by rw [← l]; exact hr "value")
  exact ⟨od, u, ⟨ha, hz.1, by unfold PySem.W.notCls; rw [hv] <;> rfl, by rw [hz.2]; exact ho⟩, by rw [hl, hu], ru⟩
theorem ExcQ.kit {K : PySem.W.Frag} {od : Option Obj} (q : ExcQ K D) : PySem.W.KitX K (.ref a) (.ref D) (fun h => PySem.W.InstAt h a oe D od) :=
  PySem.W.kitx_exc q.cl q.hg q.hk q.hs q.ha q.hn q.ht q.hm
/-- isinstance(e, c), e the error that the suite holds -/
def rIsQ (K : PySem.W.Frag) (D a dd : Addr) (v : V) : List V → Hp → VK → Prop := fun xs H Q => ∃ (c : V) (u : Value) (b : Bool), xs = [.ref a, c] ∧ H dd = some (.xd [("value", v)]) ∧ ClsV c u ∧ PySem.W.kitOne K (.ref D) u = some b ∧ Q (.bl b) H
theorem call_isQ (q : ExcQ X.K D) (hz : Zc (.ref D) (some dd) oe) (hf : ∃ vs, oe.data = .fields vs) : CallR (X.suite a ((a, oe) :: pn)) (.builtin "isinstance") (rIsQ X.K D a dd v) := by
  intro pins s σ H xs us Q I r h
  obtain ⟨c, u, b, rfl, hd, k, e, q1⟩ := h
  obtain ⟨u1, u2, rfl, r1, r2⟩ := vals2 r
  cases (show u1 = Value.ref a from r1)
  have e2 := k.eq r2
  subst e2
  obtain ⟨od, w, J, _, _⟩ := inst_at hz hf I hd
  exact PySem.W.kia_one q.kit I.kIn J e (fun z => nomatch z) fun tk => ⟨.bl b, H, I.tok tk, rfl, q1⟩
def rIsQT (K : PySem.W.Frag) (D a dd : Addr) (v : V) : List V → Hp → VK → Prop := fun xs H Q => ∃ (tp : Addr) (cs : List V) (us : List Value) (b : Bool), xs = [.ref a, .ref tp] ∧ H dd = some (.xd [("value", v)]) ∧ H tp = some (.tup cs) ∧ Paired ClsV cs us ∧ PySem.W.kitAny K (.ref D) us = some b ∧ Q (.bl b) H
theorem call_isQT (q : ExcQ X.K D) (hz : Zc (.ref D) (some dd) oe) (hf : ∃ vs, oe.data = .fields vs) : CallR (X.suite a ((a, oe) :: pn)) (.builtin "isinstance") (rIsQT X.K D a dd v) := by
  intro pins s σ H xs us Q I r h
  obtain ⟨tp, cs, ws, b, rfl, hd, hT, k, e, q1⟩ := h
  obtain ⟨u1, u2, rfl, r1, r2⟩ := vals2 r
  cases (show u1 = Value.ref a from r1)
  cases (show u2 = Value.ref tp from r2)
  obtain ⟨od, w, J, _, _⟩ := inst_at hz hf I hd
  obtain ⟨_, its, rv, o, h1, h2, n, h3⟩ := (show ObjOk X.prog X.w H s.heap tp (.tup cs) from I.hok tp _ hT)
  have e3 := ClsV.all k rv
  subst e3
  obtain ⟨oc, od2, dt, sl⟩ := o
  simp only at h2 h3
  subst h2 h3
  exact PySem.W.kia_tup q.kit I.kIn J h1 e (fun z => nomatch z) fun tk => ⟨.bl b, H, I.tok tk, rfl, q1⟩
/-- e.value -/
def tValQ (D a dd : Addr) (te : TE) : TE := fun σ H Q => te σ H fun x H1 => x = .ref a ∧ ∃ v : V, H1 dd = some (.xd [("value", v)]) ∧ Q v H1
theorem pe_valQ {e : Expr} {te : TE} {pos : Pos} (q : ExcQ X.K D) (hz : Zc (.ref D) (some dd) oe) (hf : ∃ vs, oe.data = .fields vs) (he : PE (X.suite a ((a, oe) :: pn)) e te)
    (hb : attributeBase e "value" X.env (eval e X.env) = eval e X.env) : PE (X.suite a ((a, oe) :: pn)) (.Attribute e "value" pos) (tValQ D a dd te) := by
  refine ⟨fun pins s σ H Q I h => ?_⟩
  refine attr_of hb (thn (he.run pins s σ H _ I h) fun u s1 hh => ?_)
  obtain ⟨x, H1, I1, rx, ex, v, ea, q1⟩ := hh
  subst ex
  obtain rfl : u = Value.ref a := rx
  obtain ⟨od, w, J, hl, rw'⟩ := inst_at hz hf I1 ea
  exact HandSPX.exc_get I1.kIn J q.hg q.hk q.hs (PySem.W.findObj_own q.hd q.nv rfl hl) (handed_of rw') ⟨v, H1, I1.tok _, rw', q1⟩
end

/-! ### the readings -/
section
variable (nm : Str) (v : V) (H0 : Hp) (a : Addr) (i : Nat)
def tH (m : Hx) : TE := fun σ H Q => ∃ ρ hv, RelH v H0 a i ρ σ H ∧ hev nm ρ m = some hv ∧ ∀ u H', GrowH H H' → HvV v H0 hv u H' → Q u H'
def tHT (m : Hx) : TT := fun σ H Q => ∃ ρ b, RelH v H0 a i ρ σ H ∧ hev nm ρ m = some (.one (.bl b)) ∧ ∀ H', GrowH H H' → Q b H'
def tHs (ms : Hxs) : TA := fun σ H Q => ∃ ρ hs, RelH v H0 a i ρ σ H ∧ hevs nm ρ ms = some hs ∧ ∀ H', GrowH H H' → Q (hs.map (hiV v)) H'
end
theorem _root_.L2.PA.weak {X : Cx} {es : List Expr} {t t' : TA} (h : PA X es t) (i : ∀ σ H Q, t' σ H Q → t σ H Q) : PA X es t' := ⟨fun pos pins s σ H Q I q => h.run pos pins s σ H Q I (i σ H Q q)⟩
theorem small1000 {n : Nat} (h : n ≤ 1000) : n ≤ sizeLine := by
  rw [sizeLine_eq]
  omega
/-- a text so often -/
def rTxt : R2 := fun x y H Q => ∃ (s : Str) (b : Bool), x = .str s ∧ y = .int (if b then 1 else 0) ∧ Q (.str (if b then s else Str.empty)) H
theorem op_txt {X : Cx} : OpR X (binaryOp .Mult) rTxt := by
  intro pins s σ H x y w u Q I rx ry h
  obtain ⟨z, b, rfl, rfl, q⟩ := h
  obtain ⟨t1, rfl⟩ := (show ∃ t, w = Value.str z t from rx)
  obtain ⟨t2, rfl⟩ := (show ∃ t, u = Value.int _ t from ry)
  cases b with
  | false => exact P.mul_str_none (by decide) (by decide) ⟨.str Str.empty, H, I.tok _, ⟨_, rfl⟩, q⟩
  | true =>
    show wpAny _ _ (binaryOp .Mult (.str z t1) (.int 1 t2)) _ _ _
    refine P.mul_str (by decide) (fun _ e => by simp at e) (fun _ e => by simp at e) ?_
    rw [if_neg (by decide), if_pos (by simp)]
    exact ⟨.str z, H, I, ⟨_, rfl⟩, q⟩
def rAddH : R2 := fun x y H Q => (∃ i j, x = .str i ∧ y = .str j ∧ i.length + j.length ≤ sizeLine ∧ Q (.str (i ++ j)) H) ∨ rCat x y H Q
theorem op_addH {X : Cx} : OpR X (binaryOp .Add) rAddH := by
  intro pins s σ H x y w u Q I rx ry h
  rcases h with h | h
  · exact op_add_str pins s σ H x y w u Q I rx ry h
  · exact op_cat pins s σ H x y w u Q I rx ry h

section
variable {C : Ck} {ca : Nat → Addr} {φ : Phi} {k : Nat} {X : Cx} {W : WX} {a dd : Addr} {oe : Obj} {pn : List (Addr × Obj)} {v : V} {H0 : Hp} {cn i : Nat}
/-- a class's name -/
theorem okN_ok (G : Good C ca φ k X W) (hcn : C.exs cn = true) {n : Str} (h : okN C n = true) :
    ∃ (c : V) (u : Value), ClsV c u ∧ PySem.W.kitOne X.K (.ref (ca cn)) u = some (isSub (exNm cn) n) ∧ ∀ p, PE (X.suite a ((a, oe) :: pn)) (.Name n p) (tC c) := by
  unfold okN at h
  simp only [Bool.and_eq_true, Bool.or_eq_true, decide_eq_true_eq, List.any_eq_true] at h
  obtain ⟨h1, h2⟩ := h
  obtain ⟨g1, g2⟩ := gl_ok G h1
  have E := (G.exs cn hcn).1
  rcases h2 with rfl | ⟨j, _, h3, h4⟩
  · refine ⟨.ty "ValueError", .type "ValueError", .ty _, ?_, fun p => pe_bltn (X := X.suite a ((a, oe) :: pn)) g1 (G.exs cn hcn).2 (by first | rfl | kernel_rfl) rfl (by decide) g2⟩
    rw [E.ve]
    unfold isSub
    simp
  · have E2 := (G.exs _ h3).1
    refine ⟨.ref (ca (j + 500000)), .ref (ca (j + 500000)), .own _, ?_, fun p => pe_glob (X := X.suite a ((a, oe) :: pn)) g1 (by rw [← h4]; exact E2.mg) rfl g2⟩
    rw [E.kit _ h3, h4]
theorem names_ok (G : Good C ca φ k X W) (hcn : C.exs cn = true) : ∀ (es : List Expr) (ns : List Str), namesOf es = some ns → (∀ n ∈ ns, okN C n = true) →
    ∃ (cs : List V) (us : List Value), cs.length = ns.length ∧ Paired ClsV cs us ∧ PySem.W.kitAny X.K (.ref (ca cn)) us = some (ns.any (isSub (exNm cn))) ∧ ∃ t : TA, PA (X.suite a ((a, oe) :: pn)) es t ∧ ∀ σ H Q, Q cs H → t σ H Q
  | [], ns, h, _ => by
    cases h
    exact ⟨[], [], rfl, .nil, rfl, _, pa_nil, fun σ H Q q => q⟩
  | e :: es, ns, h, hk => by
    unfold namesOf at h
    cases e <;> try cases h
    rename_i n p
    dsimp only at h
    split at h
    · rename_i ms hms
      cases h
      obtain ⟨cs, us, hl, hp, ha, t, pa, ht⟩ := names_ok G hcn es ms hms fun n hn => hk n (List.mem_cons_of_mem _ hn)
      obtain ⟨c, u, k1, k2, pe⟩ := okN_ok (a := a) (oe := oe) (pn := pn) G hcn (hk n List.mem_cons_self)
      refine ⟨c :: cs, u :: us, by simp [hl], .cons k1 hp, ?_, _, pa_cons (pe p) pa rfl, fun σ H Q q => ht σ H _ q⟩
      unfold PySem.W.kitAny
      rw [k2]
      cases z : isSub (exNm cn) n with
      | true => simp [z]
      | false =>
        dsimp only
        rw [ha]
        simp [z]
    · cases h
variable (hz : Zc (.ref (ca cn)) (some dd) oe) (hf : ∃ vs, oe.data = .fields vs) (hd : H0 dd = some (.xd [("value", v)]))
include hz hf hd
theorem snd_isE (G : Good C ca φ k X W) (hcn : C.exs cn = true) {t : Bool} {ns : List Str} {e : Expr} (h : chkH C i t (.isE ns) e = true) : PE (X.suite a ((a, oe) :: pn)) e (tH (exNm cn) v H0 a i (.isE ns)) := by
  unfold chkH at h
  split at h
  · rename_i f p1 x p2 y pos
    simp only [Bool.and_eq_true, decide_eq_true_eq] at h
    obtain ⟨⟨⟨rfl, h2⟩, h3⟩, h4⟩ := h
    obtain ⟨g1, g2⟩ := gl_ok G h2
    obtain ⟨v1, v2, v3, v4⟩ := vis_ok G h3
    have E := (G.exs cn hcn).1
    have hm : X.mg "isinstance" = none := G.blt _ (by decide +kernel)
    have pv : PE (X.suite a ((a, oe) :: pn)) (.Name x p2) (tVar i) := pe_var (X := X.suite a ((a, oe) :: pn)) v1 v2 v3 v4
    unfold chkN at h4
    split at h4
    · rename_i n p3
      simp only [Bool.and_eq_true, decide_eq_true_eq] at h4
      obtain ⟨rfl, h4⟩ := h4
      obtain ⟨c, u, k1, k2, pe⟩ := okN_ok (a := a) (oe := oe) (pn := pn) G hcn h4
      refine (pe_callB (X := X.suite a ((a, oe) :: pn)) (call_isQ (v := v) E.q hz hf) g1 hm (by first | rfl | decide +kernel) (pa_cons pv (pa_cons (pe p3) pa_nil rfl) rfl) (by decide) g2 rfl rfl).weak fun σ H Q q => ?_
      obtain ⟨ρ, hv, r, e1, q⟩ := q
      unfold hev at e1
      cases e1
      refine ⟨.ref a, r.ex, c, u, _, rfl, r.gr _ _ hd, k1, k2, ?_⟩
      refine q _ H GrowH.refl ?_
      show V.bl _ = V.bl _
      simp
    · rename_i es p3 p4
      simp only [Bool.and_eq_true, decide_eq_true_eq, List.all_eq_true] at h4
      obtain ⟨⟨h4, h5⟩, h6⟩ := h4
      obtain ⟨cs, us, hl, hp, ha, t, pa, ht⟩ := names_ok (a := a) (oe := oe) (pn := pn) G hcn es ns h4 h5
      refine (pe_callB (X := X.suite a ((a, oe) :: pn)) (call_isQT (v := v) E.q hz hf) g1 hm (by first | rfl | decide +kernel) (pa_cons pv (pa_cons (pe_tup pa) pa_nil rfl) rfl) (by decide) g2 rfl rfl).weak fun σ H Q q => ?_
      obtain ⟨ρ, hv, r, e1, q⟩ := q
      unfold hev at e1
      cases e1
      refine ⟨.ref a, r.ex, ht σ H _ ⟨by rw [hl]; exact small1000 h6, fun p hp' => ?_⟩⟩
      refine ⟨p, cs, us, _, rfl, (GrowH.laid hp') _ _ (r.gr _ _ hd), upd_same, hp, ha, ?_⟩
      exact q _ _ (GrowH.laid hp') rfl
    · cases h4
  · cases h
mutual
theorem snd_hx (G : Good C ca φ k X W) (hcn : C.exs cn = true) : ∀ (m : Hx) (e : Expr), chkH C i false m e = true → PE (X.suite a ((a, oe) :: pn)) e (tH (exNm cn) v H0 a i m)
  | .isE ns, e, h => snd_isE hz hf hd G hcn h
  | .val, e, h => by
    unfold chkH at h
    split at h
    · rename_i x p1 y p2
      simp only [Bool.and_eq_true, decide_eq_true_eq] at h
      obtain ⟨⟨rfl, h3⟩, _⟩ := h
      obtain ⟨v1, v2, v3, v4⟩ := vis_ok G h3
      have E := (G.exs cn hcn).1
      refine (pe_valQ E.q hz hf (pe_var (X := X.suite a ((a, oe) :: pn)) (i := i) (pos := p1) v1 v2 v3 v4) rfl).weak fun σ H Q q => ?_
      obtain ⟨ρ, hv, r, e1, q⟩ := q
      unfold hev at e1
      cases e1
      exact ⟨.ref a, r.ex, rfl, v, r.gr _ _ hd, q _ _ GrowH.refl rfl⟩
    · cases h
  | .var j, e, h => by
    unfold chkH at h
    split at h
    · rename_i x p1
      obtain ⟨v1, v2, v3, v4⟩ := vis_ok G h
      refine (pe_var (X := X.suite a ((a, oe) :: pn)) (i := j) (pos := p1) v1 v2 v3 v4).weak fun σ H Q q => ?_
      obtain ⟨ρ, hv, r, e1, q⟩ := q
      unfold hev at e1
      split at e1
      · rename_i hv' hj
        cases e1
        obtain ⟨u, e2, q2⟩ := r.sl j _ hj
        exact ⟨u, e2, q _ _ GrowH.refl q2⟩
      · cases e1
    · cases h
  | .str s, e, h => by
    unfold chkH at h
    split at h
    · rename_i z j p
      simp only [Bool.and_eq_true, decide_eq_true_eq] at h
      obtain ⟨rfl, _⟩ := h
      refine pe_str.weak fun σ H Q q => ?_
      obtain ⟨ρ, hv, r, e1, q⟩ := q
      unfold hev at e1
      cases e1
      exact q _ _ GrowH.refl rfl
    · cases h
  | .orE m1 m2, e, h => by
    unfold chkH at h
    split at h
    · rename_i x y p
      simp only [Bool.and_eq_true] at h
      refine (pe_orT (snd_hx G hcn m1 x h.1) (pe_one (snd_hx G hcn m2 y h.2))).weak fun σ H Q q => ?_
      obtain ⟨ρ, hv, r, e1, q⟩ := q
      unfold hev at e1
      split at e1
      · rename_i e2
        cases e1
        refine ⟨ρ, _, r, e2, fun u H1 g1 z => ?_⟩
        cases (show u = V.bl true from z)
        refine ⟨true, rfl, ?_⟩
        rw [if_pos rfl]
        exact q _ _ g1 rfl
      · rename_i e2
        refine ⟨ρ, _, r, e2, fun u H1 g1 z => ?_⟩
        cases (show u = V.bl false from z)
        refine ⟨false, rfl, ?_⟩
        rw [if_neg Bool.false_ne_true]
        exact ⟨ρ, hv, r.grow g1, e1, fun u H2 g2 z2 => q u H2 (g1.trans g2) z2⟩
      · cases e1
    · cases h
  | .notE m, e, h => by
    unfold chkH at h
    split at h
    · rename_i x p
      refine (pe_notT (snd_hx G hcn m x h)).weak fun σ H Q q => ?_
      obtain ⟨ρ, hv, r, e1, q⟩ := q
      unfold hev at e1
      split at e1
      · rename_i b e2
        cases e1
        refine ⟨ρ, _, r, e2, fun u H1 g1 z => ?_⟩
        cases (show u = V.bl b from z)
        exact ⟨b, rfl, q _ _ g1 rfl⟩
      · cases e1
    · cases h
  | .ite m0 m1 m2, e, h => by
    unfold chkH at h
    split at h
    · rename_i x y z p
      simp only [Bool.and_eq_true] at h
      obtain ⟨⟨⟨h1, h2⟩, h3⟩, _⟩ := h
      refine (pe_ifExp (snd_hxT G hcn m0 x h1) (snd_hx G hcn m1 y h2) (snd_hx G hcn m2 z h3)).weak fun σ H Q q => ?_
      obtain ⟨ρ, hv, r, e1, q⟩ := q
      unfold hev at e1
      split at e1
      · rename_i e2
        refine ⟨ρ, true, r, e2, fun H1 g1 => ?_⟩
        dsimp only
        rw [if_pos rfl]
        exact ⟨ρ, hv, r.grow g1, e1, fun u H2 g2 z2 => q u H2 (g1.trans g2) z2⟩
      · rename_i e2
        refine ⟨ρ, false, r, e2, fun H1 g1 => ?_⟩
        dsimp only
        rw [if_neg Bool.false_ne_true]
        exact ⟨ρ, hv, r.grow g1, e1, fun u H2 g2 z2 => q u H2 (g1.trans g2) z2⟩
      · cases e1
    · cases h
  | .rep s m, e, h => by
    unfold chkH at h
    split at h
    · rename_i z j p1 f p2 x p3 p4
      simp only [Bool.and_eq_true, decide_eq_true_eq] at h
      obtain ⟨⟨⟨⟨⟨⟨rfl, rfl⟩, h3⟩, h4⟩, h5⟩, _⟩, h6⟩ := h
      obtain ⟨g1, g2⟩ := gl_ok G h3
      have hm : X.mg "int" = none := G.blt _ (by decide +kernel)
      refine (pe_op (X := X.suite a ((a, oe) :: pn)) op_txt pe_str (pe_callTy (X := X.suite a ((a, oe) :: pn)) call_int1 g1 hm (by first | rfl | decide +kernel) (pa_cons (snd_hx G hcn m x h4) pa_nil (star_of h5 _ _)) (by decide) g2 (star_of h5 _ _) rfl)).weak fun σ H Q q => ?_
      obtain ⟨ρ, hv, r, e1, q⟩ := q
      unfold hev at e1
      split at e1
      · rename_i e2
        cases e1
        refine ⟨ρ, _, r, e2, fun u H1 g1 z => ?_⟩
        cases (show u = V.bl true from z)
        exact .inr ⟨true, rfl, _, true, rfl, rfl, q _ _ g1 rfl⟩
      · rename_i e2
        cases e1
        refine ⟨ρ, _, r, e2, fun u H1 g1 z => ?_⟩
        cases (show u = V.bl false from z)
        exact .inr ⟨false, rfl, _, false, rfl, rfl, q _ _ g1 rfl⟩
      · cases e1
    · cases h
  | .add m1 m2, e, h => by
    unfold chkH at h
    split at h
    · rename_i x y p
      simp only [Bool.and_eq_true] at h
      obtain ⟨⟨h1, h2⟩, _⟩ := h
      refine (pe_op (X := X.suite a ((a, oe) :: pn)) op_addH (snd_hx G hcn m1 x h1) (snd_hx G hcn m2 y h2)).weak fun σ H Q q => ?_
      obtain ⟨ρ, hv, r, e1, q⟩ := q
      unfold hev at e1
      split at e1
      · rename_i s1 s2 e2 e3
        split at e1
        · rename_i hl
          cases e1
          refine ⟨ρ, _, r, e2, fun u H1 g1 z => ⟨ρ, _, r.grow g1, e3, fun u2 H2 g2 z2 => ?_⟩⟩
          cases (show u = V.str s1 from z)
          cases (show u2 = V.str s2 from z2)
          exact .inl ⟨s1, s2, rfl, rfl, small1000 hl, q _ _ (g1.trans g2) rfl⟩
        · cases e1
      · rename_i s1 s2 e2 e3
        split at e1
        · rename_i hl
          cases e1
          refine ⟨ρ, _, r, e2, fun u H1 g1 z => ⟨ρ, _, r.grow g1, e3, fun u2 H2 g2 z2 => ?_⟩⟩
          obtain ⟨p1, rfl, _, z3⟩ := z
          obtain ⟨p2, rfl, _, z4⟩ := z2
          refine .inr ⟨p1, p2, _, _, rfl, rfl, g2 _ _ z3, z4, by simpa using small1000 hl, fun p hp => ?_⟩
          have g3 := (g1.trans g2).trans (GrowH.laid (o := .lst (s1.map (hiV v) ++ s2.map (hiV v))) hp)
          exact q _ _ g3 ⟨p, rfl, fresh0 (r.gr.trans (g1.trans g2)) hp, by rw [upd_same, List.map_append]⟩
        · cases e1
      · cases e1
    · cases h
  | .lst ms, e, h => by
    unfold chkH at h
    split at h
    · rename_i es p
      simp only [Bool.and_eq_true] at h
      refine (pe_lst (snd_hxs G hcn ms es h.1)).weak fun σ H Q q => ?_
      obtain ⟨ρ, hv, r, e1, q⟩ := q
      unfold hev at e1
      split at e1
      · rename_i hs e2
        split at e1
        · rename_i hl
          cases e1
          refine ⟨ρ, hs, r, e2, fun H1 g1 => ⟨by simpa using small1000 hl, fun p hp => ?_⟩⟩
          exact q _ _ (g1.trans (GrowH.laid hp)) ⟨p, rfl, fresh0 (r.gr.trans g1) hp, upd_same⟩
        · cases e1
      · cases e1
    · cases h
theorem snd_hxT (G : Good C ca φ k X W) (hcn : C.exs cn = true) : ∀ (m : Hx) (e : Expr), chkH C i true m e = true → PT (X.suite a ((a, oe) :: pn)) e (tHT (exNm cn) v H0 a i m)
  | .isE ns, e, h => by
    have z := snd_isE (i := i) (a := a) (pn := pn) hz hf hd G hcn h
    have ht : ∀ whole, isTrue e X.env whole = (do let v ← whole; standAt e.pos; holding [v] (truthy v)) := by
      unfold chkH at h
      split at h
      · intro _; rfl
      · cases h
    refine (pt_val z ht).weak fun σ H Q q => ?_
    obtain ⟨ρ, b, r, e1, q⟩ := q
    refine ⟨ρ, _, r, e1, fun u H1 g1 w => ?_⟩
    cases (show u = V.bl b from w)
    exact ⟨b, rfl, q _ g1⟩
  | .var j, e, h => by
    unfold chkH at h
    split at h
    · rename_i x p1
      obtain ⟨v1, v2, v3, v4⟩ := vis_ok G h
      refine (pt_val (pe_var (X := X.suite a ((a, oe) :: pn)) (i := j) (pos := p1) v1 v2 v3 v4) (fun _ => rfl)).weak fun σ H Q q => ?_
      obtain ⟨ρ, b, r, e1, q⟩ := q
      unfold hev at e1
      split at e1
      · rename_i hv' hj
        cases e1
        obtain ⟨u, e2, q2⟩ := r.sl j _ hj
        cases (show u = V.bl b from q2)
        exact ⟨.bl b, e2, b, rfl, q _ GrowH.refl⟩
      · cases e1
    · cases h
  | .orE m1 m2, e, h => by
    unfold chkH at h
    split at h
    · rename_i x y p
      simp only [Bool.and_eq_true] at h
      refine ((pw_or (snd_hxT G hcn m1 x h.1) (pw_or1 (snd_hxT G hcn m2 y h.2))).pt).weak fun σ H Q q => ?_
      obtain ⟨ρ, b, r, e1, q⟩ := q
      unfold hev at e1
      split at e1
      · rename_i e2
        cases e1
        refine ⟨ρ, true, r, e2, fun H1 g1 => ?_⟩
        dsimp only
        rw [if_pos rfl]
        exact q _ g1
      · rename_i e2
        refine ⟨ρ, false, r, e2, fun H1 g1 => ?_⟩
        dsimp only
        rw [if_neg Bool.false_ne_true]
        exact ⟨ρ, b, r.grow g1, e1, fun H2 g2 => q H2 (g1.trans g2)⟩
      · cases e1
    · cases h
  | .notE m, e, h => by
    unfold chkH at h
    split at h
    · rename_i x p
      refine (pt_not (snd_hxT G hcn m x h)).weak fun σ H Q q => ?_
      obtain ⟨ρ, b, r, e1, q⟩ := q
      unfold hev at e1
      split at e1
      · rename_i b2 e2
        cases e1
        exact ⟨ρ, b2, r, e2, fun H1 g1 => q H1 g1⟩
      · cases e1
    · cases h
  | .val, e, h => by
    unfold chkH at h
    split at h
    · simp at h
    · cases h
  | .str s, e, h => by
    unfold chkH at h
    split at h
    · simp at h
    · cases h
  | .ite m0 m1 m2, e, h => by
    unfold chkH at h
    split at h
    · simp at h
    · cases h
  | .rep s m, e, h => by
    unfold chkH at h
    split at h
    · simp at h
    · cases h
  | .add m1 m2, e, h => by
    unfold chkH at h
    split at h
    · simp at h
    · cases h
  | .lst ms, e, h => by
    unfold chkH at h
    split at h
    · simp at h
    · cases h
theorem snd_hxs (G : Good C ca φ k X W) (hcn : C.exs cn = true) : ∀ (ms : Hxs) (es : List Expr), chkHs C i ms es = true → PA (X.suite a ((a, oe) :: pn)) es (tHs (exNm cn) v H0 a i ms)
  | .nil, es, h => by
    unfold chkHs at h
    split at h
    · refine pa_nil.weak fun σ H Q q => ?_
      obtain ⟨ρ, hs, r, e1, q⟩ := q
      unfold hevs at e1
      cases e1
      exact q _ GrowH.refl
    · cases h
  | .cons m ms, es, h => by
    unfold chkHs at h
    split at h
    · rename_i e es
      simp only [Bool.and_eq_true] at h
      obtain ⟨⟨h1, h2⟩, h3⟩ := h
      refine (pa_cons (snd_hx G hcn m e h1) (snd_hxs G hcn ms es h3) (star_of h2 _ _)).weak fun σ H Q q => ?_
      obtain ⟨ρ, hs, r, e1, q⟩ := q
      unfold hevs at e1
      split at e1
      · rename_i hh hs' e2 e3
        cases e1
        refine ⟨ρ, _, r, e2, fun u H1 g1 z => ⟨ρ, hs', r.grow g1, e3, fun H2 g2 => ?_⟩⟩
        cases (show u = hiV v hh from z)
        exact q _ (g1.trans g2)
      · cases e1
    · cases h
end
end
end CC
/-! Expressions: operations, tests, calls. -/
namespace CC
open L2 PySem PySem.Spec PyProof.Rows

section
variable {C : Ck} {ca : Nat → Addr} {φ : Phi} {k : Nat} {X : Cx} {W : WX} {es : Exs} {e : Expr} {t : Bool}
theorem c_cmp (hφ : PhiMono φ) (G : Good C ca φ k X W) (S : SndEs es) {op : CmpOp} (h : chkE C t (.prim (.cmp op) es) e = true) :
    PE X e (tE X.K ca C.g φ W (.prim (.cmp op) es)) ∧ PT X e (tT X.K ca C.g φ W (.prim (.cmp op) es)) ∧ isBoolOp e = false := by
  simp only [chkE] at h
  split at h
  · simp only [Bool.and_eq_true, decide_eq_true_eq] at h
    obtain ⟨rfl, h⟩ := h
    obtain ⟨m, n, rfl, ha, pa, hb, pb⟩ := (S.all hφ G h).two
    have hu : X.A.units + 65 < cLine := by
      have := G.un
      omega
    refine ⟨(pe_cmpR (op_cmpP (g := C.g) (ca := ca) hu op) ha hb (mark_of pb)).weak fun σ H Q q => prim2 hφ q, ?_, rfl⟩
    exact (pt_cmpR (op_cmpP (g := C.g) (ca := ca) hu op) ha hb (mark_of pb)).weak fun σ H Q q => prim2 hφ (tT_tE hφ (boolE_cmp hφ) q)
  · cases h
theorem c_neg (hφ : PhiMono φ) (G : Good C ca φ k X W) (S : SndEs es) (h : chkE C t (.prim .neg es) e = true) :
    PE X e (tE X.K ca C.g φ W (.prim .neg es)) ∧ t = false := by
  simp only [chkE] at h
  split at h
  · simp only [Bool.and_eq_true, Bool.not_eq_true'] at h
    obtain ⟨m, rfl, ha, pa⟩ := (S.all hφ G h.2).one
    exact ⟨(pe_un (un_negP (g := C.g) (ca := ca)) ha).weak fun σ H Q q => prim1 hφ q, h.1⟩
  · cases h
/-- a slice -/
theorem slc_ok {d : D} {v : V} {lo hi : Option Int} {o : Out} {H : Hp} {ι : List Addr} {S : Store} {Q : VK} (R : Rep X.K ca ι S H) (r : RelD X.K ι H d v) (ho : slcR d lo hi S = some o) (hq : QL X.K ca Q ι H o.d o.S) : rSlL X.K v lo hi H Q ∨ rSlT X.K v lo hi H Q := by
  unfold slcR at ho
  split at ho
  · split at ho
    · rename_i l xs h1
      cases ho
      obtain ⟨a, vs, e1, e2, e3⟩ := R.seq h1 r
      exact .inl ⟨a, vs, e1, e2, hq.new R (e3.cut lo hi)⟩
    · cases ho
  · split at ho
    · cases ho
    · rename_i hne
      cases ho
      cases r with
      | tup h1 h2 => exact .inr ⟨_, _, rfl, h1, by rw [← h2.length]; exact hne, hq.newT R (h2.cut lo hi)⟩
  · cases ho
theorem c_slc (hφ : PhiMono φ) (G : Good C ca φ k X W) (S : SndEs es) {lo hi : Bool} (h : chkE C t (.prim (.slc lo hi) es) e = true) :
    PE X e (tE X.K ca C.g φ W (.prim (.slc lo hi) es)) ∧ testX e = true := by
  simp only [chkE] at h
  split at h
  · simp only [Bool.and_eq_true, Bool.not_eq_true'] at h
    obtain ⟨⟨rfl, rfl⟩, h⟩ := h
    obtain ⟨m, rfl, ha, pa⟩ := (S.all hφ G h).one
    refine ⟨(pe_slice (sl_list.or sl_tup) ha po_none po_none).weak fun σ H Q q => ?_, rfl⟩
    obtain ⟨ι, S, σd, R, r, q⟩ := prim1 hφ q
    refine tE_mk hφ R r q fun d S' ι' H' v q x R' rv => ?_
    obtain ⟨ι2, S2, ds, o, R2, r2, ho, hc, hq⟩ := q ι' H' v x R' rv
    cases r2 with
    | cons r2 r3 =>
      cases r3
      simp only [primR] at ho
      exact slc_ok R2 r2 ho hq
  · simp only [Bool.and_eq_true, Bool.not_eq_true'] at h
    obtain ⟨⟨rfl, rfl⟩, h⟩ := h
    obtain ⟨m, n, rfl, ha, pa, hb, pb⟩ := (S.all hφ G h).two
    refine ⟨(pe_slice (sl_list.or sl_tup) ha (po_some hb) po_none).weak fun σ H Q q => ?_, rfl⟩
    obtain ⟨ι, S, σd, R, r, q⟩ := prim2 hφ q
    refine tE_mk hφ R r q fun d S' ι' H' v q x R' rv => ?_
    obtain ⟨ι, S, σd, R, r, q⟩ := q ι' H' v x R' rv
    refine tE_mk hφ R r q fun d S' ι' H' v q x R' rv => ?_
    obtain ⟨ι2, S2, ds, o, R2, r2, ho, hc, hq⟩ := q ι' H' v x R' rv
    cases r2 with
    | cons r2 r3 =>
      cases r3 with
      | cons r3 r4 =>
        cases r4
        cases r3 with
        | int i =>
          simp only [primR] at ho
          exact ⟨i, rfl, slc_ok R2 r2 ho hq⟩
        | _ => simp only [primR] at ho; cases ho
  · simp only [Bool.and_eq_true, Bool.not_eq_true'] at h
    obtain ⟨⟨rfl, rfl⟩, h⟩ := h
    obtain ⟨m, n, rfl, ha, pa, hb, pb⟩ := (S.all hφ G h).two
    refine ⟨(pe_slice (sl_list.or sl_tup) ha po_none (po_some hb)).weak fun σ H Q q => ?_, rfl⟩
    obtain ⟨ι, S, σd, R, r, q⟩ := prim2 hφ q
    refine tE_mk hφ R r q fun d S' ι' H' v q x R' rv => ?_
    obtain ⟨ι, S, σd, R, r, q⟩ := q ι' H' v x R' rv
    refine tE_mk hφ R r q fun d S' ι' H' v q x R' rv => ?_
    obtain ⟨ι2, S2, ds, o, R2, r2, ho, hc, hq⟩ := q ι' H' v x R' rv
    cases r2 with
    | cons r2 r3 =>
      cases r3 with
      | cons r3 r4 =>
        cases r4
        cases r3 with
        | int i =>
          simp only [primR] at ho
          exact ⟨i, rfl, slc_ok R2 r2 ho hq⟩
        | _ => simp only [primR] at ho; cases ho
  · cases h
theorem c_cut (hφ : PhiMono φ) (G : Good C ca φ k X W) {a b c : Ex} (Sa : SndE a) (Sb : SndE b) (Sc : SndE c) (h : chkE C t (.cut a b c) e = true) :
    PE X e (tE X.K ca C.g φ W (.cut a b c)) ∧ testX e = true := by
  simp only [chkE] at h
  split at h
  · simp only [Bool.and_eq_true] at h
    refine ⟨(pe_slice (sl_list.or sl_tup) (Sa.pe hφ G h.1.1) (po_some (Sb.pe hφ G h.1.2)) (po_some (Sc.pe hφ G h.2))).weak fun σ H Q q => ?_, rfl⟩
    obtain ⟨ι0, S0, σd, R0, r0, q⟩ := q
    simp only [wpE] at q
    refine tE_mk hφ R0 r0 q fun d1 S1 ι1 H1 v1 q x1 R1 rv1 => ?_
    refine tE_mk hφ R1 (r0.mono x1) (wpE_mono hφ b (fun _ _ q => q) (fun _ _ z => z.of x1) q) fun d2 S2 ι2 H2 v2 q x2 R2 rv2 => ?_
    cases rv2 with
    | int i =>
      refine ⟨i, rfl, tE_mk hφ R2 ((r0.mono x1).mono x2) (wpE_mono hφ c (fun _ _ q => q) (fun _ _ z => (z.of x1).of x2) q.2) fun d3 S3 ι3 H3 v3 q x3 R3 rv3 => ?_⟩
      unfold primW at q
      split at q
      · rename_i o ho
        cases rv3 with
        | int j =>
          simp only [primR] at ho
          exact ⟨j, rfl, slc_ok R3 ((rv1.mono x2).mono x3) ho (((q.2.of x1).of x2).of x3)⟩
        | _ => simp only [primR] at ho; cases ho
      · exact q.elim
    | _ => exact Bool.noConfusion q.1
  · cases h
end
end CC
/-! Expressions: the other operations, methods, and, or, not, calls. -/
namespace CC
open L2 PySem PySem.Spec PyProof.Rows

section
variable {C : Ck} {ca : Nat → Addr} {φ : Phi} {k : Nat} {X : Cx} {W : WX} {es : Exs} {e : Expr} {t : Bool}
theorem rng_rel0 {K : PySem.W.Frag} {ι : List Addr} {H : Hp} : ∀ (n : Nat) (a : Int), RelDs K ι H (rangeL a n) ((List.range n).map fun i => V.int (a + (i : Nat)))
  | 0, a => .nil
  | n + 1, a => by
    rw [List.range_succ_eq_map, List.map_cons, List.map_map]
    refine .cons (by rw [show a + ((0 : Nat) : Int) = a by omega]; exact .int a) ?_
    have z := rng_rel0 (K := K) (ι := ι) (H := H) n (a + 1)
    rw [show ((fun i : Nat => V.int (a + (i : Nat))) ∘ Nat.succ) = fun i : Nat => V.int (a + 1 + (i : Nat)) from funext fun i => by
      show V.int (a + ((i + 1 : Nat) : Int)) = V.int (a + 1 + (i : Nat))
      congr 1
      omega]
    exact z
theorem rng_rel (K : PySem.W.Frag) (ι : List Addr) (H : Hp) (a b : Int) : RelDs K ι H (rangeL a (b - a).toNat) (rgV a b) := rng_rel0 _ a
theorem ne_of_isEmpty {α : Type} {xs : List α} (h : (!xs.isEmpty) = true) : ∃ a r, xs = a :: r := by
  cases xs with
  | nil => cases h
  | cons a r => exact ⟨a, r, rfl⟩
/-- any operation but the comparisons and the minus -/
theorem c_prim (hφ : PhiMono φ) (G : Good C ca φ k X W) (S : SndEs es) {p : Prim} (h : chkE C t (.prim p es) e = true) (h1 : ∀ op, p ≠ .cmp op) (h2 : p ≠ .neg) :
    PE X e (tE X.K ca C.g φ W (.prim p es)) ∧ testX e = true := by
  have h0 := h
  simp only [chkE] at h
  cases p with
  | cmp op => exact absurd rfl (h1 op)
  | neg => exact absurd rfl h2
  | slc lo hi => exact c_slc hφ G S h0
  | bin op =>
    dsimp only at h
    split at h
    · simp only [Bool.and_eq_true, decide_eq_true_eq] at h
      obtain ⟨rfl, h⟩ := h
      obtain ⟨m, n, rfl, ha, pa, hb, pb⟩ := (S.all hφ G h).two
      exact ⟨(pe_op (op_bin (g := C.g) (ca := ca) op) ha hb).weak fun σ H Q q => prim2 hφ q, rfl⟩
    · cases h
  | tup =>
    dsimp only at h
    split at h
    · refine ⟨(pe_tup ((S.all hφ G h).pa hφ)).weak fun σ H Q q => ?_, rfl⟩
      obtain ⟨ι, S, σd, R, r, q⟩ := tAs_prim hφ q
      refine tAs_mk hφ R r q fun ds S' ι' H' vs q x R' rv => ?_
      obtain ⟨ι2, S2, ds, o, R2, r2, ho, hc, hq⟩ := q ι' H' vs x R' rv
      simp only [primR] at ho
      cases ho
      exact ⟨by rw [← r2.length]; exact hc, hq.newT R2 r2⟩
    · cases h
  | lst =>
    dsimp only at h
    split at h
    · refine ⟨(pe_lst ((S.all hφ G h).pa hφ)).weak fun σ H Q q => ?_, rfl⟩
      obtain ⟨ι, S, σd, R, r, q⟩ := tAs_prim hφ q
      refine tAs_mk hφ R r q fun ds S' ι' H' vs q x R' rv => ?_
      obtain ⟨ι2, S2, ds, o, R2, r2, ho, hc, hq⟩ := q ι' H' vs x R' rv
      simp only [primR] at ho
      cases ho
      exact ⟨by rw [← r2.length]; exact hc, hq.new R2 r2⟩
    · cases h
  | idx =>
    dsimp only at h
    split at h
    · obtain ⟨m, n, rfl, ha, pa, hb, pb⟩ := (S.all hφ G h).two
      exact ⟨(pe_ix (ix_P (g := C.g) (ca := ca)) ha hb (ix_of pb)).weak fun σ H Q q => prim2 hφ q, rfl⟩
    · cases h
  | rev =>
    dsimp only at h
    split at h
    · obtain ⟨m, rfl, ha, pa⟩ := (S.all hφ G h).one
      refine ⟨(pe_revL ha).weak fun σ H Q q => ?_, rfl⟩
      obtain ⟨ι, S, σd, R, r, q⟩ := prim1 hφ q
      refine tE_mk hφ R r q fun d S' ι' H' v q x R' rv => ?_
      obtain ⟨ι2, S2, ds, o, R2, r2, ho, hc, hq⟩ := q ι' H' v x R' rv
      cases r2 with
      | cons r2 r3 =>
        cases r3
        cases r2 with
        | ref z =>
          simp only [primR] at ho
          split at ho
          · rename_i l xs h1
            cases ho
            obtain ⟨a, vs, e1, e2, e3⟩ := R2.seq h1 (.ref z)
            exact ⟨a, vs, e1, e2, hq.new R2 e3.reverse⟩
          · cases ho
        | _ => simp only [primR] at ho; cases ho
    · cases h
  | blt b =>
    dsimp only at h
    split at h
    · simp only [Bool.and_eq_true, decide_eq_true_eq] at h
      obtain ⟨⟨⟨hx, hg⟩, h⟩, hn⟩ := h
      obtain ⟨a, r, rfl⟩ := ne_of_isEmpty hn
      exact ⟨call_of hφ G hx hg (S.all hφ G h), rfl⟩
    · cases h
  | isa ty =>
    dsimp only at h
    split at h
    · rename_i x p1 a y p2 p3
      simp only [Bool.and_eq_true, decide_eq_true_eq] at h
      obtain ⟨⟨⟨⟨hx, hg⟩, hy⟩, hgy⟩, h⟩ := h
      subst hx hy
      obtain ⟨m, rfl, ha, pa⟩ := (S.all hφ G h).one
      obtain ⟨g1, g2⟩ := gl_ok G hg
      obtain ⟨g3, g4⟩ := gl_ok G hgy
      have hm : X.mg ty.nm = none := G.blt' (by cases ty <;> decide +kernel)
      have hv : bootBuiltins ty.nm = some (.type ty.name) := by cases ty <;> decide +kernel
      have hb : PE X (.Name ty.nm p2) (tC (.ty ty.name)) := pe_bltn g3 hm hv rfl (by cases ty <;> decide) g4
      refine ⟨(pe_callB (call_isa (g := C.g) (ca := ca) ty) g1 (G.blt' (by decide +kernel)) (by decide +kernel) (pa_cons ha (pa_cons hb pa_nil rfl) (star_of pa _ _)) (by decide) g2 (star_of pa _ _) rfl).weak fun σ H Q q => ?_, rfl⟩
      obtain ⟨ι, S, σd, R, r, q⟩ := prim1 hφ q
      refine tE_mk hφ R r q fun d S' ι' H' v q x R' rv => ?_
      exact ⟨v, rfl, q ι' H' v x R' rv⟩
    · cases h
  | isl =>
    dsimp only at h
    split at h
    · rename_i x p1 a y p2 p3
      simp only [Bool.and_eq_true, decide_eq_true_eq] at h
      obtain ⟨⟨⟨⟨hx, hg⟩, hy⟩, hgy⟩, h⟩ := h
      subst hx hy
      obtain ⟨m, rfl, ha, pa⟩ := (S.all hφ G h).one
      obtain ⟨g1, g2⟩ := gl_ok G hg
      obtain ⟨g3, g4⟩ := gl_ok G hgy
      have hb : PE X (.Name "list" p2) (tC (.ty "list")) := pe_bltn g3 (G.blt' (by decide +kernel)) (by decide +kernel) rfl (by decide) g4
      refine ⟨(pe_callB (call_isl (g := C.g) (ca := ca)) g1 (G.blt' (by decide +kernel)) (by decide +kernel) (pa_cons ha (pa_cons hb pa_nil rfl) (star_of pa _ _)) (by decide) g2 (star_of pa _ _) rfl).weak fun σ H Q q => ?_, rfl⟩
      obtain ⟨ι, S, σd, R, r, q⟩ := prim1 hφ q
      refine tE_mk hφ R r q fun d S' ι' H' v q x R' rv => ?_
      exact ⟨v, rfl, q ι' H' v x R' rv⟩
    · cases h
  | repr =>
    dsimp only at h
    split at h
    · simp only [Bool.and_eq_true, decide_eq_true_eq] at h
      obtain ⟨⟨hx, hg⟩, h⟩ := h
      subst hx
      obtain ⟨m, rfl, ha, pa⟩ := (S.all hφ G h).one
      obtain ⟨g1, g2⟩ := gl_ok G hg
      exact ⟨(pe_callB (call_repr (g := C.g) (ca := ca) G.gd G.un) g1 (G.blt' (by decide +kernel)) (by decide +kernel) (pa_cons ha pa_nil (star_of pa _ _)) (by decide) g2 (star_of pa _ _) rfl).weak fun σ H Q q => prim1 hφ q, rfl⟩
    · cases h
  | bits =>
    dsimp only at h
    split at h
    · simp only [Bool.and_eq_true, decide_eq_true_eq] at h
      obtain ⟨⟨⟨hx, h⟩, hb⟩, hl⟩ := h
      subst hx
      obtain ⟨m, rfl, ha, pa⟩ := (S.all hφ G h).one
      refine ⟨(pe_bits ha (base_of hb _ _ _) hl).weak fun σ H Q q => ?_, rfl⟩
      obtain ⟨ι, S, σd, R, r, q⟩ := prim1 hφ q
      refine tE_mk hφ R r q fun d S' ι' H' v q x R' rv => ?_
      obtain ⟨ι2, S2, ds, o, R2, rs, ho, hc, hq⟩ := q ι' H' v x R' rv
      cases rs with
      | cons r1 rs =>
        cases rs
        cases r1 with
        | int i =>
          simp only [primR] at ho
          cases ho
          exact ⟨i, rfl, hq.same R2 (.int _)⟩
        | _ => simp only [primR] at ho; cases ho
    · cases h
  | sset =>
    dsimp only at h
    split at h
    · rename_i x0 p1 y0 p2 a0 p3 p4
      simp only [Bool.and_eq_true, decide_eq_true_eq] at h
      obtain ⟨⟨⟨⟨hx, hg⟩, hy⟩, hgy⟩, h⟩ := h
      subst hx hy
      obtain ⟨m, rfl, ha, pa⟩ := (S.all hφ G h).one
      obtain ⟨g1, g2⟩ := gl_ok G hg
      obtain ⟨g3, g4⟩ := gl_ok G hgy
      have un := G.un
      have hb := pe_callTy (p := p2) (pos := p3) (cr_setOfT G.calm (by omega)) g3 (G.blt' (by decide +kernel)) (by decide +kernel) (pa_cons ha pa_nil (star_of pa _ _)) (by decide) g4 (star_of pa _ _) rfl
      refine ⟨(pe_callB (cr_sortedPr G.calm) g1 (G.blt' (by decide +kernel)) (by decide +kernel) (pa_cons hb pa_nil rfl) (by decide) g2 rfl rfl).weak fun σ H Q q => ?_, rfl⟩
      obtain ⟨ι, S, σd, R, r, q⟩ := prim1 hφ q
      refine tE_mk hφ R r q fun d S' ι' H' v q x R' rv => ?_
      exact sset_ok (q ι' H' v x R' rv)
    · cases h
  | rng =>
    dsimp only at h
    split at h
    · simp only [Bool.and_eq_true, decide_eq_true_eq] at h
      obtain ⟨⟨⟨⟨hx, hg⟩, hy⟩, hgy⟩, h⟩ := h
      subst hx hy
      obtain ⟨m, rfl, ha, pa⟩ := (S.all hφ G h).one
      refine ⟨(pe_listRg G.calm (gl_ok G hg).1 (G.blt' (by decide +kernel)) (prg_1 (gl_ok G hgy).1 (G.blt' (by decide +kernel)) ha (star_of pa _ _))).weak fun σ H Q q => ?_, rfl⟩
      obtain ⟨ι, S, σd, R, r, q⟩ := prim1 hφ q
      refine tE_mk hφ R r q fun d S' ι' H' v q x R' rv => ?_
      obtain ⟨ι2, S2, ds, o, R2, rs, ho, hc, hq⟩ := q ι' H' v x R' rv
      cases rs with
      | cons r1 rs =>
        cases rs
        cases r1 with
        | int i =>
          simp only [primR] at ho
          cases ho
          refine ⟨i, rfl, hc, ?_⟩
          have z := rng_rel X.K ι2 H' 0 i
          rw [Int.sub_zero] at z
          exact hq.new R2 z
        | _ => simp only [primR] at ho; cases ho
    · simp only [Bool.and_eq_true, decide_eq_true_eq] at h
      obtain ⟨⟨⟨⟨hx, hg⟩, hy⟩, hgy⟩, h⟩ := h
      subst hx hy
      obtain ⟨m, n, rfl, ha, pa, hb, pb⟩ := (S.all hφ G h).two
      refine ⟨(pe_listRg G.calm (gl_ok G hg).1 (G.blt' (by decide +kernel)) (prg_2 (gl_ok G hgy).1 (G.blt' (by decide +kernel)) ha hb (star_of pa _ _) (star_of pb _ _) (by rw [star_of pb]; rfl))).weak fun σ H Q q => ?_, rfl⟩
      obtain ⟨ι, S, σd, R, r, q⟩ := prim2 hφ q
      refine tE_mk hφ R r q fun d S' ι' H' v q x R' rv => ?_
      obtain ⟨ι2, S2, σ2, R2, r2, q⟩ := q ι' H' v x R' rv
      refine tE_mk hφ R2 r2 q fun d3 S3 ι3 H3 v3 q x3 R3 rv3 => ?_
      obtain ⟨ι4, S4, ds, o, R4, rs, ho, hc, hq⟩ := q ι3 H3 v3 x3 R3 rv3
      cases rs with
      | cons r1 rs =>
        cases rs with
        | cons r2 rs =>
          cases rs
          cases r1 with
          | int i =>
            cases r2 with
            | int j =>
              simp only [primR] at ho
              cases ho
              exact ⟨i, j, rfl, rfl, hc, hq.new R4 (rng_rel X.K ι4 H3 i j)⟩
            | _ => simp only [primR] at ho; cases ho
          | _ => simp only [primR] at ho; cases ho
    · cases h
  | app => cases h
  | ins => cases h
  | pop => cases h
  | ext => cases h
end

theorem snd_prim {p : Prim} {es : Exs} (S : SndEs es) : SndE (.prim p es) := by
  by_cases h1 : ∃ op, p = .cmp op
  · obtain ⟨op, rfl⟩ := h1
    exact ⟨fun hφ G h => (c_cmp hφ G S h).1, fun hφ G h => (c_cmp hφ G S h).2.1, fun hφ G h hb => by
      rw [(c_cmp hφ G S h).2.2] at hb
      cases hb⟩
  · by_cases h2 : p = .neg
    · subst h2
      exact ⟨fun hφ G h => (c_neg hφ G S h).1, fun hφ G h => Bool.noConfusion (c_neg hφ G S h).2, fun hφ G h _ => Bool.noConfusion (c_neg hφ G S h).2⟩
    · exact .of fun hφ G h => c_prim hφ G S h (fun op e => h1 ⟨op, e⟩) h2
theorem snd_cut {a b c : Ex} (Sa : SndE a) (Sb : SndE b) (Sc : SndE c) : SndE (.cut a b c) := .of fun hφ G h => c_cut hφ G Sa Sb Sc h

/-! ### methods -/
section
variable {C : Ck} {ca : Nat → Addr} {φ : Phi} {k : Nat} {X : Cx} {W : WX} {es : Exs} {e : Expr} {t : Bool}
theorem isL_ty {K : PySem.W.Frag} {ι : List Addr} {H : Hp} {S : Store} {d : D} {v : V} (R : Rep K ca ι S H) (h : isL d S = true) (r : RelD K ι H d v) : tyV K "list" v H := by
  unfold isL at h
  split at h
  · split at h
    · rename_i l ds e
      obtain ⟨a, vs, rfl, e2, e3, e4⟩ := R.lst e r
      exact .inl ⟨rfl, vs, SqL.of e3⟩
    · cases h
  · cases h
theorem meth_tE {K : PySem.W.Frag} {g : Bool} (hφ : PhiMono φ) {p : Prim} {o : Ex} {σ : L2.St} {H : Hp} {Q : VK} (h : tE K ca g φ W (.meth p o es) σ H Q) :
    tE K ca g φ W o σ H fun x H1 => tyV K "list" x H1 ∧ tAs K ca g φ W es σ H1 fun xs H2 => rP K ca g p (x :: xs) H2 Q := by
  obtain ⟨ι, S, σd, R, r, q⟩ := h
  simp only [wpE] at q
  refine tE_mk hφ R r q fun d S1 ι1 H1 v q x1 R1 rv => ⟨isL_ty R1 q.1 rv, ?_⟩
  refine tAs_mk hφ R1 (r.mono x1) (wpAs_mono hφ es (fun _ _ q => q) (fun _ _ z => z.of x1) q.2) fun ds S2 ι2 H2 vs q x2 R2 rs => ?_
  unfold primW at q
  split at q
  · rename_i o ho
    exact ⟨ι2, S2, _, o, R2, .cons (rv.mono x2) rs, ho, q.1, q.2.of (x1.trans x2)⟩
  · exact q.elim
theorem c_meth (hφ : PhiMono φ) (G : Good C ca φ k X W) {o : Ex} (So : SndE o) (S : SndEs es) {p : Prim} (h : chkE C t (.meth p o es) e = true) : PE X e (tE X.K ca C.g φ W (.meth p o es)) ∧ testX e = true := by
  simp only [chkE] at h
  split at h
  · split at h
    · simp only [Bool.and_eq_true, decide_eq_true_eq] at h
      obtain ⟨⟨⟨⟨hx, ho⟩, h⟩, hb⟩, hl⟩ := h
      subst hx
      obtain ⟨m, rfl, ha, pa⟩ := (S.all hφ G h).one
      exact ⟨(pe_bm PySem.F.plainAttrs_list PySem.F.slot_list_append PySem.F.type_list_append (mt_app (g := C.g) (ca := ca)) (So.pe hφ G ho) (pa_cons ha pa_nil (star_of pa _ _)) (base_of hb _ _ _) (by rw [star_of pa]; rfl) hl (star_of pa _ _) rfl).weak fun σ H Q q => by
        obtain ⟨ι, S, σd, R, r, q⟩ := meth_tE hφ q
        refine tE_mk hφ R r q fun d S1 ι1 H1 v q x1 R1 rv => ?_
        obtain ⟨q1, q2⟩ := q ι1 H1 v x1 R1 rv
        exact ⟨q1, tAs_one hφ q2⟩, rfl⟩
    · cases h
  · split at h
    · simp only [Bool.and_eq_true, decide_eq_true_eq] at h
      obtain ⟨⟨⟨⟨hx, ho⟩, h⟩, hb⟩, hl⟩ := h
      subst hx
      obtain ⟨m, n, rfl, ha, pa, hb', pb⟩ := (S.all hφ G h).two
      exact ⟨(pe_bm PySem.F.plainAttrs_list PySem.F.slot_list_insert PySem.F.type_list_insert (mt_ins (g := C.g) (ca := ca)) (So.pe hφ G ho) (pa_cons ha (pa_cons hb' pa_nil (star_of pb _ _)) (star_of pa _ _)) (base_of hb _ _ _) (by rw [star_of pa, star_of pb]; rfl) hl (star_of pa _ _) (by rw [star_of pb]; rfl)).weak fun σ H Q q => by
        obtain ⟨ι, S, σd, R, r, q⟩ := meth_tE hφ q
        refine tE_mk hφ R r q fun d S1 ι1 H1 v q x1 R1 rv => ?_
        obtain ⟨q1, q2⟩ := q ι1 H1 v x1 R1 rv
        exact ⟨q1, tAs_two hφ q2⟩, rfl⟩
    · cases h
  · split at h
    · simp only [Bool.and_eq_true, decide_eq_true_eq] at h
      obtain ⟨⟨⟨⟨hx, ho⟩, h⟩, hb⟩, hl⟩ := h
      subst hx
      obtain ⟨m, rfl, ha, pa⟩ := (S.all hφ G h).one
      exact ⟨(pe_bm PySem.F.plainAttrs_list PySem.F.slot_list_pop PySem.F.type_list_pop (mt_pop (g := C.g) (ca := ca)) (So.pe hφ G ho) (pa_cons ha pa_nil (star_of pa _ _)) (base_of hb _ _ _) (by rw [star_of pa]; rfl) hl (star_of pa _ _) rfl).weak fun σ H Q q => by
        obtain ⟨ι, S, σd, R, r, q⟩ := meth_tE hφ q
        refine tE_mk hφ R r q fun d S1 ι1 H1 v q x1 R1 rv => ?_
        obtain ⟨q1, q2⟩ := q ι1 H1 v x1 R1 rv
        exact ⟨q1, tAs_one hφ q2⟩, rfl⟩
    · cases h
  · split at h
    · simp only [Bool.and_eq_true, decide_eq_true_eq] at h
      obtain ⟨⟨⟨⟨hx, ho⟩, h⟩, hb⟩, hl⟩ := h
      subst hx
      obtain ⟨m, rfl, ha, pa⟩ := (S.all hφ G h).one
      exact ⟨(pe_bm PySem.F.plainAttrs_list PySem.F.slot_list_extend PySem.F.type_list_extend (mt_ext (g := C.g) (ca := ca)) (So.pe hφ G ho) (pa_cons ha pa_nil (star_of pa _ _)) (base_of hb _ _ _) (by rw [star_of pa]; rfl) hl (star_of pa _ _) rfl).weak fun σ H Q q => by
        obtain ⟨ι, S, σd, R, r, q⟩ := meth_tE hφ q
        refine tE_mk hφ R r q fun d S1 ι1 H1 v q x1 R1 rv => ?_
        obtain ⟨q1, q2⟩ := q ι1 H1 v x1 R1 rv
        exact ⟨q1, tAs_one hφ q2⟩, rfl⟩
    · cases h
  · cases h
end
theorem snd_meth {p : Prim} {o : Ex} {es : Exs} (So : SndE o) (S : SndEs es) : SndE (.meth p o es) := .of fun hφ G h => c_meth hφ G So S h

/-! ### tests -/
section
variable {C : Ck} {ca : Nat → Addr} {φ : Phi} {k : Nat} {X : Cx} {W : WX} {es : Exs} {e : Expr} {t : Bool}
theorem snd_not {m : Ex} (S : SndE m) : SndE (.notE m) where
  pe := fun {C ca φ k X W e} hφ G h => by
    simp only [chkE] at h
    split at h
    · refine (pe_notT (S.pe hφ G h)).weak fun σ H Q q => ?_
      obtain ⟨ι, S, σd, R, r, q⟩ := q
      simp only [wpE] at q
      refine tE_mk hφ R r q fun d S1 ι1 H1 v q x1 R1 rv => ?_
      split at q
      · rename_i b hb
        exact ⟨b, truth_of R1 hb rv, q ι1 H1 _ x1 R1 (.bl _)⟩
      · exact q.elim
    · cases h
  pt := fun {C ca φ k X W e} hφ G h => by
    simp only [chkE] at h
    split at h
    · refine (pt_not (S.pt hφ G h)).weak fun σ H Q q => ?_
      obtain ⟨ι, S, σd, R, r, q⟩ := q
      simp only [wpE] at q
      refine tT_mk hφ R r q fun d S1 q => ?_
      split at q
      · rename_i b hb
        obtain ⟨c, hc, q⟩ := q
        cases hc
        exact ⟨b, hb, q⟩
      · exact q.elim
    · cases h
  pw := fun {C ca φ k X W e} hφ G h hb => by
    simp only [chkE] at h
    split at h
    · cases hb
    · cases h
theorem snd_one {m : Ex} (S : SndE m) : SndE (.one m) := by
  have w : ∀ {C : Ck} {ca : Nat → Addr} {φ : Phi} {k : Nat} {X : Cx} {W : WX} {e : Expr}, PhiMono φ → Good C ca φ k X W → chkE C true (.one m) e = true → PW X e (tT X.K ca C.g φ W (.one m)) := fun {C ca φ k X W e} hφ G h => by
    simp only [chkE] at h
    split at h
    · rename_i o x pos
      have z := S.pt hφ G h
      have i : ∀ σ H Q, tT X.K ca C.g φ W (.one m) σ H Q → tT X.K ca C.g φ W m σ H Q := fun σ H Q ⟨ι, S, σd, R, r, q⟩ => ⟨ι, S, σd, R, r, by simp only [wpE] at q; exact q⟩
      cases o with
      | And => exact ⟨fun wh pins s σ H Q I q => (pw_and1 z).run wh pins s σ H Q I (i σ H Q q)⟩
      | Or => exact ⟨fun wh pins s σ H Q I q => (pw_or1 z).run wh pins s σ H Q I (i σ H Q q)⟩
    · cases h
  refine ⟨fun {C ca φ k X W e} hφ G h => ?_, fun hφ G h => (w hφ G h).pt, fun hφ G h _ => w hφ G h⟩
  simp only [chkE] at h
  split at h
  · exact (pe_one (S.pe hφ G h)).weak fun σ H Q ⟨ι, S, σd, R, r, q⟩ => ⟨ι, S, σd, R, r, by simp only [wpE] at q; exact q⟩
  · cases h
theorem snd_and {a b : Ex} (Sa : SndE a) (Sb : SndE b) : SndE (.andE a b) := by
  have w : ∀ {C : Ck} {ca : Nat → Addr} {φ : Phi} {k : Nat} {X : Cx} {W : WX} {e : Expr}, PhiMono φ → Good C ca φ k X W → chkE C true (.andE a b) e = true → PW X e (tT X.K ca C.g φ W (.andE a b)) := fun {C ca φ k X W e} hφ G h => by
    simp only [chkE] at h
    split at h
    · simp only [Bool.and_eq_true] at h
      refine ⟨fun wh pins s σ H Q I q => (pw_and (Sa.pt hφ G h.1) (Sb.pw hφ G h.2 rfl)).run wh pins s σ H Q I ?_⟩
      obtain ⟨ι, S, σd, R, r, q⟩ := q
      simp only [wpE] at q
      refine tT_mk hφ R r q fun d S1 q => ?_
      split at q
      · rename_i hb
        exact ⟨true, hb, fun ι1 H1 x1 R1 => by
          rw [if_pos rfl]
          exact ⟨ι1, S1, σd, R1, r.mono x1, wpE_mono hφ b (fun d2 S2 ⟨c, hc, q⟩ => ⟨c, hc, fun ι2 H2 x2 R2 => q ι2 H2 (x1.trans x2) R2⟩) (fun _ _ z => z.of x1) q⟩⟩
      · rename_i hb
        obtain ⟨c, hc, q⟩ := q
        rw [hb] at hc
        cases hc
        exact ⟨false, hb, fun ι1 H1 x1 R1 => by
          rw [if_neg Bool.false_ne_true]
          exact q ι1 H1 x1 R1⟩
      · exact q.elim
    · cases h
  refine ⟨fun {C ca φ k X W e} hφ G h => ?_, fun hφ G h => (w hφ G h).pt, fun hφ G h _ => w hφ G h⟩
  simp only [chkE] at h
  split at h
  · simp only [Bool.and_eq_true] at h
    refine (pe_andT (Sa.pe hφ G h.1) (Sb.pe hφ G h.2)).weak fun σ H Q q => ?_
    obtain ⟨ι, S, σd, R, r, q⟩ := q
    simp only [wpE] at q
    refine tE_mk hφ R r q fun d S1 ι1 H1 v q x1 R1 rv => ?_
    split at q
    · rename_i hb
      refine ⟨true, truth_of R1 hb rv, ?_⟩
      rw [if_pos rfl]
      exact ⟨ι1, S1, σd, R1, r.mono x1, wpE_mono hφ b (fun d2 S2 q => q.of x1) (fun _ _ z => z.of x1) q⟩
    · rename_i hb
      refine ⟨false, truth_of R1 hb rv, ?_⟩
      rw [if_neg Bool.false_ne_true]
      exact q ι1 H1 v x1 R1 rv
    · exact q.elim
  · cases h
theorem snd_or {a b : Ex} (Sa : SndE a) (Sb : SndE b) : SndE (.orE a b) := by
  have w : ∀ {C : Ck} {ca : Nat → Addr} {φ : Phi} {k : Nat} {X : Cx} {W : WX} {e : Expr}, PhiMono φ → Good C ca φ k X W → chkE C true (.orE a b) e = true → PW X e (tT X.K ca C.g φ W (.orE a b)) := fun {C ca φ k X W e} hφ G h => by
    simp only [chkE] at h
    split at h
    · simp only [Bool.and_eq_true] at h
      refine ⟨fun wh pins s σ H Q I q => (pw_or (Sa.pt hφ G h.1) (Sb.pw hφ G h.2 rfl)).run wh pins s σ H Q I ?_⟩
      obtain ⟨ι, S, σd, R, r, q⟩ := q
      simp only [wpE] at q
      refine tT_mk hφ R r q fun d S1 q => ?_
      split at q
      · rename_i hb
        obtain ⟨c, hc, q⟩ := q
        rw [hb] at hc
        cases hc
        exact ⟨true, hb, fun ι1 H1 x1 R1 => by
          rw [if_pos rfl]
          exact q ι1 H1 x1 R1⟩
      · rename_i hb
        exact ⟨false, hb, fun ι1 H1 x1 R1 => by
          rw [if_neg Bool.false_ne_true]
          exact ⟨ι1, S1, σd, R1, r.mono x1, wpE_mono hφ b (fun d2 S2 ⟨c, hc, q⟩ => ⟨c, hc, fun ι2 H2 x2 R2 => q ι2 H2 (x1.trans x2) R2⟩) (fun _ _ z => z.of x1) q⟩⟩
      · exact q.elim
    · cases h
  refine ⟨fun {C ca φ k X W e} hφ G h => ?_, fun hφ G h => (w hφ G h).pt, fun hφ G h _ => w hφ G h⟩
  simp only [chkE] at h
  split at h
  · simp only [Bool.and_eq_true] at h
    refine (pe_orT (Sa.pe hφ G h.1) (Sb.pe hφ G h.2)).weak fun σ H Q q => ?_
    obtain ⟨ι, S, σd, R, r, q⟩ := q
    simp only [wpE] at q
    refine tE_mk hφ R r q fun d S1 ι1 H1 v q x1 R1 rv => ?_
    split at q
    · rename_i hb
      refine ⟨true, truth_of R1 hb rv, ?_⟩
      rw [if_pos rfl]
      exact q ι1 H1 v x1 R1 rv
    · rename_i hb
      refine ⟨false, truth_of R1 hb rv, ?_⟩
      rw [if_neg Bool.false_ne_true]
      exact ⟨ι1, S1, σd, R1, r.mono x1, wpE_mono hφ b (fun d2 S2 q => q.of x1) (fun _ _ z => z.of x1) q⟩
    · exact q.elim
  · cases h
theorem snd_ite {c a b : Ex} (Sc : SndE c) (Sa : SndE a) (Sb : SndE b) : SndE (.ite c a b) where
  pe := fun {C ca φ k X W e} hφ G h => by
    simp only [chkE] at h
    split at h
    · simp only [Bool.and_eq_true] at h
      refine (pe_ifExp (Sc.pt hφ G h.1.1.2) (Sa.pe hφ G h.1.2) (Sb.pe hφ G h.2)).weak fun σ H Q q => ?_
      obtain ⟨ι, S, σd, R, r, q⟩ := q
      simp only [wpE] at q
      refine tT_mk hφ R r q fun d S1 q => ?_
      split at q
      · rename_i hb
        exact ⟨true, hb, fun ι1 H1 x1 R1 => by
          rw [if_pos rfl]
          exact ⟨ι1, S1, σd, R1, r.mono x1, wpE_mono hφ a (fun d2 S2 q => q.of x1) (fun _ _ z => z.of x1) q⟩⟩
      · rename_i hb
        exact ⟨false, hb, fun ι1 H1 x1 R1 => by
          rw [if_neg Bool.false_ne_true]
          exact ⟨ι1, S1, σd, R1, r.mono x1, wpE_mono hφ b (fun d2 S2 q => q.of x1) (fun _ _ z => z.of x1) q⟩⟩
      · exact q.elim
    · cases h
  pt := fun {C ca φ k X W e} hφ G h => by
    simp only [chkE] at h
    split at h
    · simp only [Bool.not_true, Bool.false_and] at h
      cases h
    · cases h
  pw := fun {C ca φ k X W e} hφ G h hb => by
    simp only [chkE] at h
    split at h
    · cases hb
    · cases h
end
end CC
/-! Expressions: chains, calls; what is walked. -/
namespace CC
open L2 PySem PySem.Spec PyProof.Rows

theorem chain_tE {K : PySem.W.Frag} {ca : Nat → Addr} {φ : Phi} {W : WX} {g : Bool} {σ : L2.St} {H : Hp} {Q : VK} (hφ : PhiMono φ) {op op' : CmpOp} {a b c : Ex} (h : tE K ca g φ W (.chain op op' a b c) σ H Q) :
    tChain (rP2 K ca g (.cmp op)) (rP2 K ca g (.cmp op')) (tE K ca g φ W a) (tE K ca g φ W b) (tE K ca g φ W c) σ H Q := by
  obtain ⟨ι, S, σd, R, r, q⟩ := h
  simp only [wpE] at q
  refine tE_mk hφ R r q fun d1 S1 ι1 H1 v1 q x1 R1 rv1 => ?_
  refine tE_mk hφ R1 (r.mono x1) (wpE_mono hφ b (fun _ _ q => q) (fun _ _ z => z.of x1) q) fun d2 S2 ι2 H2 v2 q x2 R2 rv2 => ?_
  unfold primW at q
  split at q
  · rename_i o ho
    refine ⟨ι2, S2, _, o, R2, .cons (rv1.mono x2) (.cons rv2 .nil), ho, q.1, fun ι3 H3 v3 x3 R3 rv3 => ?_⟩
    have q2 := q.2
    generalize o.d = od at q2 rv3
    split at q2
    · cases rv3
      refine ⟨true, rfl, ?_⟩
      rw [if_pos rfl]
      refine tE_mk hφ R3 (((r.mono x1).mono x2).mono x3) (wpE_mono hφ c (fun _ _ q => q) (fun _ _ z => ((z.of x1).of x2).of x3) q2) fun d4 S4 ι4 H4 v4 q4 x4 R4 rv4 => ?_
      unfold primW at q4
      split at q4
      · rename_i o2 ho2
        exact ⟨ι4, S4, _, o2, R4, .cons ((rv2.mono x3).mono x4) (.cons rv4 .nil), ho2, q4.1, q4.2.of (((x1.trans x2).trans x3).trans x4)⟩
      · exact q4.elim
    · cases rv3
      refine ⟨false, rfl, ?_⟩
      rw [if_neg Bool.false_ne_true]
      exact q2 ι3 H3 _ ((x1.trans x2).trans x3) R3 (.bl _)
    · exact q2.elim
  · exact q.elim

theorem snd_chain {op op' : CmpOp} {a b c : Ex} (Sa : SndE a) (Sb : SndE b) (Sc : SndE c) : SndE (.chain op op' a b c) := by
  have key : ∀ {C : Ck} {ca : Nat → Addr} {φ : Phi} {k : Nat} {X : Cx} {W : WX} {e : Expr} {t : Bool}, PhiMono φ → Good C ca φ k X W → chkE C t (.chain op op' a b c) e = true →
      PE X e (tE X.K ca C.g φ W (.chain op op' a b c)) ∧ PT X e (tT X.K ca C.g φ W (.chain op op' a b c)) ∧ isBoolOp e = false := fun {C ca φ k X W e t} hφ G h => by
    simp only [chkE] at h
    split at h
    · simp only [Bool.and_eq_true, decide_eq_true_eq] at h
      obtain ⟨⟨⟨⟨⟨⟨rfl, rfl⟩, h1⟩, h2⟩, h3⟩, p1⟩, p2⟩ := h
      have hu : X.A.units + 65 < cLine := by
        have := G.un
        omega
      refine ⟨(pe_chain (op_cmpP (g := C.g) (ca := ca) hu op) (op_cmpP (g := C.g) (ca := ca) hu op') (Sa.pe hφ G h1) (Sb.pe hφ G h2) (Sc.pe hφ G h3) (mark_of p2)).weak fun σ H Q q => chain_tE hφ q, ?_, rfl⟩
      exact (pt_chain (op_cmpP (g := C.g) (ca := ca) hu op) (op_cmpP (g := C.g) (ca := ca) hu op') (Sa.pe hφ G h1) (Sb.pe hφ G h2) (Sc.pe hφ G h3) (mark_of p2)).weak fun σ H Q q => chain_tE hφ (tT_tE hφ (boolE_chain hφ) q)
    · cases h
  exact ⟨fun hφ G h => (key hφ G h).1, fun hφ G h => (key hφ G h).2.1, fun hφ G h hb => by
    rw [(key hφ G h).2.2] at hb
    cases hb⟩

/-! ### calls -/
theorem snd_call {f : Nat} {es : Exs} (S : SndEs es) : SndE (.call f es) := .of fun {C ca φ k X W e t} hφ G h => by
  simp only [chkE] at h
  split at h
  · rename_i x p xs pos
    simp only [Bool.and_eq_true] at h
    obtain ⟨⟨h1, h2⟩, h3⟩ := h
    split at h1
    · rename_i fn hf
      simp only [Bool.and_eq_true, decide_eq_true_eq, Bool.or_eq_true, Bool.not_eq_true', Option.isNone_iff_eq_none] at h1
      obtain ⟨⟨h4, h5⟩, hcn⟩ := h1
      subst h4
      obtain ⟨g1, g2⟩ := gl_ok G h2
      obtain ⟨fd, hm, hk, hb, _, F⟩ := (G.fns f fn hf).ex
      have hm := hm hcn
      have hg : fn.g = true → X.A.guards = some [] := fun z => by
        rcases h5 with h5 | h5
        · rw [z] at h5; cases h5
        · exact G.gd h5
      have A := S.all hφ G h3
      refine ⟨⟨fun pins s σ H Q I q => ?_⟩, rfl⟩
      have q := tE_call (X := X) hφ q
      refine wpAny_Call_Name_kw (ld_glob I g1 hm ?_ g2)
      cases xs with
      | nil =>
        cases A
        have q := tAs_nil q
        exact PySem.W.callWith_K0 I.kIn hk (call_fnG F G.room hg G.takes I .nil (hb s [] (F.len _ _ _ _ q)) q)
      | cons y ys =>
        refine PySem.W.callWith_K (h₀ := X.base) I.ok.mod.kin hk (thn ((A.pa hφ).run pos pins s σ H _ I q) fun us s1 hq => ?_) ?_ ?_
        · obtain ⟨vs, H1, I1, r, q1⟩ := hq
          exact ⟨I1.kIn, call_fnG F G.room hg G.takes I1 r (hb s1 us (by rw [← r.length]; exact F.len _ _ _ _ q1)) q1⟩
        · cases A with
          | cons z1 z2 z3 => exact star_of z2 _ _
        · cases A with
          | cons z1 z2 z3 => exact z3.plain
    · cases h1
  · cases h

/-! ### calls with keywords -/
def exsLen : Exs → Nat
  | .nil => 0
  | .cons _ r => exsLen r + 1
/-- as many values as arguments -/
theorem lenW {φ : Phi} {g : Bool} (hφ : PhiMono φ) : ∀ {es : Exs} {σ : Sd} {S : Store} {Q : List D → Store → Prop} {E : EPost}, wpAs g φ es σ S Q E → wpAs g φ es σ S (fun ds S1 => ds.length = exsLen es ∧ Q ds S1) E
  | .nil, σ, S, Q, E, h => by
    simp only [wpAs] at h ⊢
    exact ⟨rfl, h⟩
  | .cons a r, σ, S, Q, E, h => by
    simp only [wpAs] at h ⊢
    exact wpE_mono hφ a (fun d S1 q => wpAs_mono hφ r (fun ds S2 q => ⟨congrArg (· + 1) q.1, q.2⟩) (fun _ _ z => z) (lenW hφ q)) (fun _ _ z => z) h
theorem AllE.len {X : Cx} {ca : Nat → Addr} {g : Bool} {φ : Phi} {W : WX} : ∀ {ms : Exs} {es : List Expr}, AllE X ca g φ W ms es → es.length = exsLen ms
  | _, _, .nil => rfl
  | _, _, .cons _ _ r => congrArg (· + 1) r.len
theorem AllE.pk {X : Cx} {ca : Nat → Addr} {g : Bool} {φ : Phi} {W : WX} (hφ : PhiMono φ) : ∀ {kws : List Keyword} {ms : Exs}, AllE X ca g φ W ms (kws.map (·.value)) → PK X kws (tAs X.K ca g φ W ms)
  | [], _, .nil => ⟨fun pos pins s σ H Q I h => pk_nil.run pos pins s σ H Q I (tAs_nil h)⟩
  | ⟨nm, e, p⟩ :: kws, _, .cons h hp r => ⟨fun pos pins s σ H Q I q => (pk_cons h (AllE.pk hφ r)).run pos pins s σ H Q I (tAs_cons hφ q)⟩
theorem kw_names {pos : Pos} {env : Env} : ∀ {kws : List Keyword} {ks : List Str}, kws.map (·.arg) = ks.map some →
    (backToKw pos (keywordEach kws env)).all (·.1.isSome) = true ∧ (backToKw pos (keywordEach kws env)).filterMap (·.1) = ks ∧ (backToKw pos (keywordEach kws env)).any (·.1.isNone) = false
  | [], [], _ => ⟨rfl, rfl, rfl⟩
  | [], _ :: _, h => by cases h
  | _ :: _, [], h => by cases h
  | ⟨nm, e, p⟩ :: kws, x :: ks, h => by
    simp only [List.map_cons, List.cons.injEq] at h
    obtain ⟨h1, h2⟩ := h
    obtain ⟨a, b, c⟩ := kw_names (pos := pos) (env := env) h2
    subst h1
    show ((some x, _) :: backToKw pos (keywordEach kws env)).all (·.1.isSome) = true ∧ ((some x, _) :: backToKw pos (keywordEach kws env)).filterMap (·.1) = x :: ks ∧ ((some x, _) :: backToKw pos (keywordEach kws env)).any (·.1.isNone) = false
    refine ⟨?_, ?_, ?_⟩
    · rw [List.all_cons, a]; rfl
    · rw [List.filterMap_cons, b]
    · rw [List.any_cons, c]; rfl
theorem pick_rel {K : PySem.W.Frag} {ι : List Addr} {H : Hp} {ds : List D} {vs : List V} (r : RelDs K ι H ds vs) : ∀ {is : List Nat} {rs : List D}, pick ds is = some rs → ∃ ws, pick vs is = some ws ∧ RelDs K ι H rs ws
  | [], rs, h => by
    cases h
    exact ⟨[], rfl, .nil⟩
  | i :: is, rs, h => by
    unfold pick at h
    split at h
    · rename_i x r2 h1 h2
      cases h
      obtain ⟨v, e, rv⟩ := r.get h1
      obtain ⟨ws, e2, r3⟩ := pick_rel r h2
      exact ⟨v :: ws, by unfold pick; rw [e, e2], .cons rv r3⟩
    · cases h
theorem pick_vals {vs : List V} {us : List Value} (r : Vals vs us) : ∀ {is : List Nat} {rs : List V}, pick vs is = some rs → ∃ ws, pick us is = some ws ∧ Vals rs ws
  | [], rs, h => by
    cases h
    exact ⟨[], rfl, .nil⟩
  | i :: is, rs, h => by
    unfold pick at h
    split at h
    · rename_i x r2 h1 h2
      cases h
      obtain ⟨v, e, rv⟩ := r.get h1
      obtain ⟨ws, e2, r3⟩ := pick_vals r h2
      exact ⟨v :: ws, by unfold pick; rw [e, e2], .cons rv r3⟩
    · cases h
theorem callk_tE {X : Cx} {ca : Nat → Addr} {φ : Phi} {W : WX} {g : Bool} {σ : L2.St} {H : Hp} {Q : VK} (hφ : PhiMono φ) {f : Nat} {es kes : Exs} {ks : List Str} {perm : List Nat} (h : tE X.K ca g φ W (.callk f es ks kes perm) σ H Q) :
    tAs X.K ca g φ W es σ H fun vs H1 => vs.length = exsLen es ∧ tAs X.K ca g φ W kes σ H1 fun zs H2 => zs.length = exsLen kes ∧ ∃ rs, pick (vs ++ zs) perm = some rs ∧ spF X.K ca φ f rs H2 Q (WE W σ) := by
  obtain ⟨ι, S, σd, R, r, h⟩ := h
  simp only [wpE] at h
  refine tAs_mk hφ R r (lenW hφ h) fun ds S1 ι1 H1 vs q x1 R1 rv => ?_
  refine ⟨by rw [← rv.length]; exact q.1, tAs_mk hφ R1 (r.mono x1) (lenW hφ (wpAs_mono hφ kes (fun _ _ q => q) (fun _ _ z => z.of x1) q.2)) fun ks S2 ι2 H2 zs q x2 R2 rz => ⟨by rw [← rz.length]; exact q.1, ?_⟩⟩
  have q := q.2
  split at q
  · rename_i rs hp
    obtain ⟨ws, e, r3⟩ := pick_rel ((rv.mono x2).append rz) hp
    exact ⟨ws, e, ι2, S2, rs, R2, r3, hφ _ _ _ _ _ _ _ (fun d S3 q => q.of (x1.trans x2)) (fun e S3 q => q.of (x1.trans x2)) q⟩
  · exact q.elim
theorem snd_callk {f : Nat} {es : Exs} {ks : List Str} {kes : Exs} {perm : List Nat} (S : SndEs es) (Sk : SndEs kes) : SndE (.callk f es ks kes perm) := .of fun {C ca φ k X W e t} hφ G h => by
  simp only [chkE] at h
  split at h
  · rename_i x p xs kws pos
    simp only [Bool.and_eq_true, List.any_eq_true, decide_eq_true_eq] at h
    obtain ⟨⟨⟨⟨⟨h1, h2⟩, h3⟩, h4⟩, h5⟩, q0, h6, h7⟩ := h
    subst h7
    split at h1
    · rename_i fn hf
      simp only [Bool.and_eq_true, decide_eq_true_eq, Bool.or_eq_true, Bool.not_eq_true', Option.isNone_iff_eq_none] at h1
      obtain ⟨⟨h8, h9⟩, hcn⟩ := h1
      subst h8
      obtain ⟨g1, g2⟩ := gl_ok G h2
      obtain ⟨fd, hm, hk, _, hb, F⟩ := (G.fns f fn hf).ex
      have hm := hm hcn
      have hg : fn.g = true → X.A.guards = some [] := fun z => by
        rcases h9 with h9 | h9
        · rw [z] at h9; cases h9
        · exact G.gd h9
      have A := S.all hφ G h3
      have B := Sk.all hφ G h4
      obtain ⟨n1, n2, n3⟩ := kw_names (pos := pos) (env := X.env) h5
      have lk : ks.length = exsLen kes := by
        have := congrArg List.length h5
        simp only [List.length_map] at this
        rw [← this, ← B.len, List.length_map]
      refine ⟨⟨fun pins s σ H Q I q => ?_⟩, rfl⟩
      have q := callk_tE (X := X) hφ q
      refine wpAny_Call_Name_kw (ld_glob I g1 hm ?_ g2)
      have fin : ∀ {pins : List (Addr × Obj)} {s2 : Shared} {H2 : Hp} {us ws : List Value} {vs zs : List V}, Inv X pins σ H2 s2 → Vals vs us → Vals zs ws → vs.length = xs.length → zs.length = exsLen kes → (∃ rs, pick (vs ++ zs) perm = some rs ∧ spF X.K ca φ f rs H2 Q (WE W σ)) →
          wpAny (model X.prog X.w) X.A (call (.ref (fadr ca f)) us (ks.zip ws)) (EP X pins σ Q) X.xe s2 := fun {pins s2 H2 us ws vs zs} I2 r rz l1 l2 q => by
        obtain ⟨rs, hp, q⟩ := q
        obtain ⟨us2, hp2, r2⟩ := pick_vals (r.append rz) hp
        exact call_fnG F G.room hg G.takes I2 r2 (hb _ h6 s2 us ws us2 (by rw [← r.length]; exact l1) (by rw [← rz.length, l2]; exact lk.symm) hp2 (by rw [← r2.length]; exact F.len _ _ _ _ q)) q
      cases xs with
      | nil =>
        cases A
        obtain ⟨_, q⟩ := tAs_nil q
        refine PySem.W.callWith_KW0 (h₀ := X.base) I.ok.mod.kin hk n1 (thn ((B.pk hφ).run pos pins s σ H _ I q) fun ws s2 hq => ?_) (by rw [n3]; rfl)
        obtain ⟨zs, H2, I2, rz, l2, q2⟩ := hq
        refine ⟨I2.kIn, ?_⟩
        rw [n2]
        exact fin I2 .nil rz rfl l2 q2
      | cons y ys =>
        have hst : starEach (y :: ys) X.env = (false, eval y X.env) :: starEach ys X.env := by
          cases A with
          | cons z1 z2 z3 => exact star_of z2 _ _
        refine PySem.W.callWith_KW (h₀ := X.base) I.ok.mod.kin hk n1 (thn ((A.pa hφ).run pos pins s σ H _ I q) fun us s1 hq => ?_) (by rw [A.plain, n3]; rfl) hst
        obtain ⟨vs, H1, I1, r, l1, q1⟩ := hq
        refine thn ((B.pk hφ).run pos pins s1 σ H1 _ I1 q1) fun ws s2 hq => ?_
        obtain ⟨zs, H2, I2, rz, l2, q2⟩ := hq
        refine ⟨I2.kIn, ?_⟩
        rw [n2]
        exact fin I2 r rz (by rw [l1, A.len]) l2 q2
    · cases h1
  · cases h

/-! ### what is walked -/
section
variable {K : PySem.W.Frag} {ca : Nat → Addr} {φ : Phi} {W : WX} {g : Bool}
/-- the iterator yields those items as long as what it reads stays -/
def ItOk (K : PySem.W.Frag) (ca : Nat → Addr) (ι : List Addr) (H : Hp) (w : Src) (J : It) : Prop :=
  ∀ ι' H' S', Ext K ι H ι' H' → Rep K ca ι' S' H' → w.ok S' →
    (∀ i x, w.xs[i]? = some x → J.go i H' ∧ ∀ v H2, J.yld i H' v H2 → Ext K ι' H' ι' H2 ∧ Rep K ca ι' S' H2 ∧ RelD K ι' H2 x v) ∧ ∀ i, w.xs.length ≤ i → J.stop i H'
def tI (K : PySem.W.Frag) (ca : Nat → Addr) (g : Bool) (φ : Phi) (W : WX) (k : ItK) (es : Exs) : TI := fun σ H R =>
  ∃ ι S σd, Rep K ca ι S H ∧ RelS K ι H σd σ ∧ wpAs g φ es σd S (fun ds S1 => ∃ c w, iterR k ds S1 = some (c, w) ∧ c ∧ ∀ ι' H' J, Ext K ι H ι' H' → Rep K ca ι' S1 H' → ItOk K ca ι' H' w J → R J H') (EL K ca W σ ι H)
theorem _root_.L2.PI.weak {X : Cx} {tg e : Expr} {t t' : TI} (h : PI X tg e t) (i : ∀ σ H Q, t' σ H Q → t σ H Q) : PI X tg e t' := ⟨fun pins s σ H Q I q => h.run pins s σ H Q I (i σ H Q q)⟩
theorem seqL_inj {ι : List Addr} {H : Hp} {S : Store} {l : Nat} {a : Addr} {ds : List D} (R : Rep K ca ι S H) (h : seqAt S l = some ds) (hl : ι[l]? = some a) : ∃ vs, SqL K H a vs ∧ RelDs K ι H ds vs := by
  obtain ⟨b, vs, e, h1, h2⟩ := R.seq h (.ref hl)
  cases e
  exact ⟨vs, h1, h2⟩
theorem RelDs.none {ι : List Addr} {H : Hp} {ds : List D} {vs : List V} (r : RelDs K ι H ds vs) {i : Nat} (h : ds.length ≤ i) : vs.length ≤ i := by rw [← r.length]; exact h
theorem it_list {ι : List Addr} {H : Hp} {l : Nat} {a : Addr} {ds : List D} (hl : ι[l]? = some a) : ItOk K ca ι H ⟨ds, [(l, ds)]⟩ (Itl K a) := fun ι' H' S' x R ok => by
  obtain ⟨vs, h1, h2⟩ := seqL_inj R (ok _ List.mem_cons_self) (x.pre _ _ hl)
  refine ⟨fun i d hd => ?_, fun i hi => ⟨vs, h1, h2.none hi⟩⟩
  obtain ⟨v, e, rv⟩ := h2.get hd
  refine ⟨⟨vs, v, h1, e⟩, fun u H2 y => ?_⟩
  obtain ⟨rfl, y⟩ := y
  have := y vs h1
  rw [e] at this
  cases this
  exact ⟨Ext.refl, R, rv⟩
theorem it_tup {ι : List Addr} {H : Hp} {a : Addr} {ds : List D} {vs : List V} (h : SqT K H a vs) (r : RelDs K ι H ds vs) : ItOk K ca ι H ⟨ds, []⟩ (Itt K a) := fun ι' H' S' x R ok => by
  have h1 := x.tup _ _ h
  have h2 := r.mono x
  refine ⟨fun i d hd => ?_, fun i hi => ⟨vs, h1, h2.none hi⟩⟩
  obtain ⟨v, e, rv⟩ := h2.get hd
  refine ⟨⟨vs, v, h1, e⟩, fun u H2 y => ?_⟩
  obtain ⟨rfl, y⟩ := y
  have := y vs h1
  rw [e] at this
  cases this
  exact ⟨Ext.refl, R, rv⟩
theorem rangeL_length : ∀ (n : Nat) (lo : Int), (rangeL lo n).length = n
  | 0, _ => rfl
  | n + 1, lo => congrArg (· + 1) (rangeL_length n (lo + 1))
theorem rangeL_get : ∀ (n : Nat) (lo : Int) (i : Nat) (d : D), (rangeL lo n)[i]? = some d → d = .int (lo + i)
  | 0, _, _, _, h => by simp [rangeL] at h
  | n + 1, lo, 0, d, h => by
    simp [rangeL] at h
    rw [← h]; simp
  | n + 1, lo, i + 1, d, h => by
    have := rangeL_get n (lo + 1) i d (by simpa [rangeL] using h)
    rw [this]
    congr 1
    omega
theorem it_range {ι : List Addr} {H : Hp} (lo : Int) (n : Nat) : ItOk K ca ι H ⟨rangeL lo n, []⟩ (Itr lo n) := fun ι' H' S' x R ok => by
  refine ⟨fun i d hd => ?_, fun i hi => by rw [rangeL_length] at hi; exact hi⟩
  have hl := (List.getElem?_eq_some_iff.mp hd).1
  have e := rangeL_get n lo i d hd
  refine ⟨by rw [rangeL_length] at hl; exact hl, fun u H2 y => ?_⟩
  obtain ⟨rfl, y⟩ := y
  subst y
  exact ⟨Ext.refl, R, by rw [e]; exact .int _⟩
theorem pair_new {ι : List Addr} {S : Store} {H : Hp} {x y : D} {v u : V} {T : Addr} (R : Rep K ca ι S H) (hT : H T = none) (r1 : RelD K ι H x v) (r2 : RelD K ι H y u) :
    Ext K ι H ι (upd H T (.tup [v, u])) ∧ Rep K ca ι S (upd H T (.tup [v, u])) ∧ RelD K ι (upd H T (.tup [v, u])) (.tup [x, y]) (.ref T) :=
  ⟨Ext.laid hT, R.laid hT, .tup (.inl (.inl upd_same)) (.cons (r1.mono (Ext.laid hT)) (.cons (r2.mono (Ext.laid hT)) .nil))⟩
theorem zip_get {xs ys : List D} {i : Nat} {d : D} (h : ((xs.zip ys).map fun p => D.tup [p.1, p.2])[i]? = some d) : ∃ x y, xs[i]? = some x ∧ ys[i]? = some y ∧ d = .tup [x, y] := by
  rw [List.getElem?_map] at h
  cases e : (xs.zip ys)[i]? with
  | none => rw [e] at h; cases h
  | some p =>
    rw [e] at h
    cases h
    have := List.getElem?_zip_eq_some.mp e
    exact ⟨p.1, p.2, this.1, this.2, rfl⟩
theorem it_zip {ι : List Addr} {H : Hp} {l m : Nat} {a b : Addr} {xs ys : List D} (hl : ι[l]? = some a) (hm : ι[m]? = some b) : ItOk K ca ι H ⟨(xs.zip ys).map fun p => .tup [p.1, p.2], [(l, xs), (m, ys)]⟩ (Itz K a b) := fun ι' H' S' x R ok => by
  obtain ⟨vs, h1, h2⟩ := seqL_inj R (ok (l, xs) (by simp)) (x.pre _ _ hl)
  obtain ⟨us, k1, k2⟩ := seqL_inj R (ok (m, ys) (by simp)) (x.pre _ _ hm)
  refine ⟨fun i d hd => ?_, fun i hi => ⟨vs, us, h1, k1, ?_⟩⟩
  · obtain ⟨d1, d2, e1, e2, rfl⟩ := zip_get hd
    obtain ⟨v, f1, r1⟩ := h2.get e1
    obtain ⟨u, f2, r2⟩ := k2.get e2
    refine ⟨⟨vs, us, v, u, h1, k1, f1, f2⟩, fun w H2 y => ?_⟩
    obtain ⟨T, v', u', rfl, hT, rfl, y1, y2⟩ := y
    have z1 := y1 vs h1
    have z2 := y2 us k1
    rw [f1] at z1
    rw [f2] at z2
    cases z1
    cases z2
    exact pair_new R hT r1 r2
  · simp only [List.length_map, List.length_zip] at hi
    have l1 : xs.length = vs.length := h2.length
    have l2 : ys.length = us.length := k2.length
    omega
theorem it_zipT {ι : List Addr} {H : Hp} {a b : Addr} {xs ys : List D} {vs us : List V} (h1 : SqT K H a vs) (h2 : RelDs K ι H xs vs) (k1 : SqT K H b us) (k2 : RelDs K ι H ys us) : ItOk K ca ι H ⟨(xs.zip ys).map fun p => .tup [p.1, p.2], []⟩ (RZ.ItzT K a b) := fun ι' H' S' x R ok => by
  have h1 := x.tup _ _ h1
  have h2 := h2.mono x
  have k1 := x.tup _ _ k1
  have k2 := k2.mono x
  refine ⟨fun i d hd => ?_, fun i hi => ⟨vs, us, h1, k1, ?_⟩⟩
  · obtain ⟨d1, d2, e1, e2, rfl⟩ := zip_get hd
    obtain ⟨v, f1, r1⟩ := h2.get e1
    obtain ⟨u, f2, r2⟩ := k2.get e2
    refine ⟨⟨vs, us, v, u, h1, k1, f1, f2⟩, fun w H2 y => ?_⟩
    obtain ⟨T, v', u', rfl, hT, rfl, y1, y2⟩ := y
    have z1 := y1 vs h1
    have z2 := y2 us k1
    rw [f1] at z1
    rw [f2] at z2
    cases z1
    cases z2
    exact pair_new R hT r1 r2
  · simp only [List.length_map, List.length_zip] at hi
    have l1 : xs.length = vs.length := h2.length
    have l2 : ys.length = us.length := k2.length
    omega
theorem enum_get {xs : List D} {i : Nat} {d : D} (h : ((xs.zipIdx).map fun p => D.tup [.int p.2, p.1])[i]? = some d) : ∃ x, xs[i]? = some x ∧ d = .tup [.int i, x] := by
  rw [List.getElem?_map, List.getElem?_zipIdx] at h
  cases e : xs[i]? with
  | none => rw [e] at h; cases h
  | some x =>
    rw [e] at h
    simp at h
    exact ⟨x, rfl, h.symm⟩
theorem it_enum {ι : List Addr} {H : Hp} {l : Nat} {a : Addr} {xs : List D} (hl : ι[l]? = some a) : ItOk K ca ι H ⟨(xs.zipIdx).map fun p => .tup [.int p.2, p.1], [(l, xs)]⟩ (Ite K a) := fun ι' H' S' x R ok => by
  obtain ⟨vs, h1, h2⟩ := seqL_inj R (ok (l, xs) (by simp)) (x.pre _ _ hl)
  refine ⟨fun i d hd => ?_, fun i hi => ⟨vs, h1, ?_⟩⟩
  · obtain ⟨d1, e1, rfl⟩ := enum_get hd
    obtain ⟨v, f1, r1⟩ := h2.get e1
    refine ⟨⟨vs, v, h1, f1⟩, fun w H2 y => ?_⟩
    obtain ⟨T, v', rfl, hT, rfl, y1⟩ := y
    have z1 := y1 vs h1
    rw [f1] at z1
    cases z1
    exact pair_new R hT (.int _) r1
  · simp only [List.length_map, List.length_zipIdx] at hi
    exact h2.none hi
theorem holdOf_eq {S : Store} {l : Nat} {ds : List D} (h : seqAt S l = some ds) : holdOf S (.ref l) = [(l, ds)] := by
  unfold holdOf
  dsimp only
  rw [h]
end

section
variable {C : Ck} {ca : Nat → Addr} {φ : Phi} {k : Nat} {X : Cx} {W : WX} {es : Exs} {e tg : Expr} {g : Bool}
theorem pi_seq (hφ : PhiMono φ) {m : Ex} (he : PE X e (tE X.K ca g φ W m)) : PI X tg e (tI X.K ca g φ W .seq (.cons m .nil)) := by
  refine ⟨fun pins s σ H R I h => ?_⟩
  obtain ⟨ι, S, σd, Rp, r, h⟩ := h
  simp only [wpAs] at h
  have h2 : tE X.K ca g φ W m σ H (fun x H1 => ∃ a, x = .ref a ∧ ((∃ xs, SqL X.K H1 a xs ∧ R (Itl X.K a) H1) ∨ (∃ xs, SqT X.K H1 a xs ∧ R (Itt X.K a) H1))) := tE_mk hφ Rp r h fun d S' ι' H' v q x R' rv => by
    obtain ⟨c, w, h1, hc, hR⟩ := q
    unfold iterR at h1
    dsimp only at h1
    split at h1
    · rename_i xs hs
      cases h1
      cases rv with
      | tup t1 t2 =>
        cases hs
        exact ⟨_, rfl, .inr ⟨_, t1, hR ι' H' _ x R' (it_tup t1 t2)⟩⟩
      | ref hl =>
        obtain ⟨a, vs, e1, e2, e3⟩ := R'.seq hs (.ref hl)
        cases e1
        exact ⟨_, rfl, .inl ⟨vs, e2, hR ι' H' _ x R' (by rw [holdOf_eq hs]; exact it_list hl)⟩⟩
      | non => cases hs
      | bl _ => cases hs
      | int _ => cases hs
      | str _ => cases hs
    · cases h1
  refine thn (he.run pins s σ H _ I h2) fun u s1 hq => ?_
  obtain ⟨x, H1, I1, r1, a, rfl, q1⟩ := hq
  cases r1
  have keep : ∀ {cl : Value} {dt : Data}, Inv X pins σ H1 { s1 with heap := s1.heap.push { cls := cl, data := dt } } := I1.kept (t' := s1.toks) fun b o z => Heap.get?_push_of_some _ z
  have mine : ∀ b ∈ [s1.heap.objs.size], FpOk X pins H1 b := fun b hb => by
    rw [List.mem_singleton.mp hb]
    exact I1.fpOk (Nat.le_refl _) (I1.hok.fresh (Nat.le_refl _))
  rcases q1 with ⟨xs, hq, hR⟩ | ⟨xs, hq, hR⟩
  · obtain ⟨its, _, pl, _⟩ := I1.list hq
    exact wpAny_pyIter_list pl.isList ⟨_, _, _, _, H1, rfl, keep, turn_list a _, ⟨_, Heap.get?_push_size _ rfl, rfl, rfl⟩, mine, hR⟩
  · obtain ⟨its, _, pl, _⟩ := I1.tuple hq
    exact wpAny_pyIter_tuple (show s1.heap.IsTuple a its.toArray from pl) ⟨_, _, _, _, H1, rfl, keep, turn_tuple a _, ⟨_, Heap.get?_push_size _ rfl, rfl, rfl⟩, mine, hR⟩

theorem snd_it (hφ : PhiMono φ) (G : Good C ca φ k X W) {kk : ItK} {xs : List Expr} (hi : itArgs C kk tg e = some xs) (A : AllE X ca C.g φ W es xs) : PI X tg e (tI X.K ca C.g φ W kk es) := by
  have ref_of : ∀ {K : PySem.W.Frag} {ι : List Addr} {H : Hp} {l : Nat} {v : V}, RelD K ι H (.ref l) v → ∃ a, v = .ref a ∧ ι[l]? = some a := fun r => by
    cases r with
    | ref h => exact ⟨_, rfl, h⟩
  unfold itArgs at hi
  cases kk with
  | seq =>
    cases hi
    obtain ⟨m, rfl, ha, pa⟩ := A.one
    exact pi_seq hφ ha
  | range =>
    dsimp only at hi
    split at hi
    · split at hi
      · rename_i hc
        cases hi
        simp only [Bool.and_eq_true, decide_eq_true_eq] at hc
        obtain ⟨rfl, hg⟩ := hc
        obtain ⟨m, rfl, ha, pa⟩ := A.one
        refine (pi_range1 (gl_ok G hg).1 (G.blt' (by decide +kernel)) (A.pa hφ) (star_of pa _ _)).weak fun σ H R q => ?_
        obtain ⟨ι, S, σd, Rp, r, q⟩ := q
        refine tAs_mk hφ Rp r (lenW hφ q) fun ds S' ι' H' vs q x R' rv => ?_
        obtain ⟨q0, c, w, h1, hc, hR⟩ := q
        unfold iterR at h1
        dsimp only at h1
        split at h1
        · cases h1
          cases rv with
          | cons r1 r2 =>
            cases r2
            cases r1
            exact ⟨_, rfl, hc.1, hc.2, hR ι' H' _ x R' (it_range _ _)⟩
        · have z := q0
          cases z
        · cases h1
      · cases hi
    · split at hi
      · rename_i hc
        cases hi
        simp only [Bool.and_eq_true, decide_eq_true_eq] at hc
        obtain ⟨rfl, hg⟩ := hc
        obtain ⟨m, n, rfl, ha, pa, hb, pb⟩ := A.two
        refine (pi_range2 (gl_ok G hg).1 (G.blt' (by decide +kernel)) (A.pa hφ) (by rw [star_of pa, star_of pb]; rfl) (star_of pb _ _)).weak fun σ H R q => ?_
        obtain ⟨ι, S, σd, Rp, r, q⟩ := q
        refine tAs_mk hφ Rp r (lenW hφ q) fun ds S' ι' H' vs q x R' rv => ?_
        obtain ⟨q0, c, w, h1, hc, hR⟩ := q
        unfold iterR at h1
        dsimp only at h1
        split at h1
        · have z := q0
          cases z
        · cases h1
          cases rv with
          | cons r1 r2 =>
            cases r2 with
            | cons r2 r3 =>
              cases r3
              cases r1
              cases r2
              exact ⟨_, _, rfl, hc, hR ι' H' _ x R' (it_range _ _)⟩
        · cases h1
      · cases hi
    · cases hi
  | enum =>
    dsimp only at hi
    split at hi
    · split at hi
      · rename_i hc
        cases hi
        simp only [Bool.and_eq_true, decide_eq_true_eq] at hc
        obtain ⟨rfl, hg⟩ := hc
        obtain ⟨m, rfl, ha, pa⟩ := A.one
        refine (pi_enum (gl_ok G hg).1 (G.blt' (by decide +kernel)) (A.pa hφ) (star_of pa _ _)).weak fun σ H R q => ?_
        obtain ⟨ι, S, σd, Rp, r, q⟩ := q
        refine tAs_mk hφ Rp r q fun ds S' ι' H' vs q x R' rv => ?_
        obtain ⟨c, w, h1, hc, hR⟩ := q
        unfold iterR at h1
        dsimp only at h1
        split at h1
        · split at h1
          · rename_i l xs hs
            cases h1
            cases rv with
            | cons r1 r2 =>
              cases r2
              cases r1 with
              | ref hl =>
                obtain ⟨us, e2, e3⟩ := seqL_inj R' hs hl
                exact ⟨_, us, rfl, e2, hR ι' H' _ x R' (it_enum hl)⟩
          · cases h1
        · cases h1
      · cases hi
    · cases hi
  | zip =>
    dsimp only at hi
    split at hi
    · split at hi
      · rename_i hc
        cases hi
        simp only [Bool.and_eq_true, decide_eq_true_eq] at hc
        obtain ⟨rfl, hg⟩ := hc
        obtain ⟨m, n, rfl, ha, pa, hb, pb⟩ := A.two
        refine (RZ.pi_zipA (gl_ok G hg).1 (G.blt' (by decide +kernel)) (A.pa hφ) (star_of pa _ _) (by rw [star_of pb]; rfl)).weak fun σ H R q => ?_
        obtain ⟨ι, S, σd, Rp, r, q⟩ := q
        refine tAs_mk hφ Rp r q fun ds S' ι' H' vs q x R' rv => ?_
        obtain ⟨c, w, h1, hc, hR⟩ := q
        unfold iterR at h1
        dsimp only at h1
        split at h1
        · split at h1
          · rename_i l m xs ys hs1 hs2
            cases h1
            cases rv with
            | cons r1 r2 =>
              cases r2 with
              | cons r2 r3 =>
                cases r3
                cases r1 with
                | ref hl =>
                  cases r2 with
                  | ref hm =>
                    obtain ⟨us, e2, e3⟩ := seqL_inj R' hs1 hl
                    obtain ⟨ws, f2, f3⟩ := seqL_inj R' hs2 hm
                    exact ⟨_, _, us, ws, rfl, .inl ⟨e2, f2, hR ι' H' _ x R' (it_zip hl hm)⟩⟩
          · cases h1
        · cases h1
          cases rv with
          | cons r1 r2 =>
            cases r2 with
            | cons r2 r3 =>
              cases r3
              cases r1 with
              | tup t1 t2 =>
                cases r2 with
                | tup s1 s2 => exact ⟨_, _, _, _, rfl, .inr ⟨t1, s1, hR ι' H' _ x R' (it_zipT t1 t2 s1 s2)⟩⟩
        · cases h1
      · cases hi
    · cases hi
end
end CC
/-! != of an instance whose class has its own == and object's !=. -/
namespace CC
open PyProof.Rows PySem PySem.W PySem.Calls
section
variable {prog : Program} {w : World} {A : Around} {E : Value → Shared → Prop} {s : Shared} {K : Frag} {x C L f : Addr} {h₀ : Heap} {m : Str → Option Value} {ox : Obj} {od : Option Obj} {name : Str} {b tb : Value}
theorem ifBoundB_K {M : Model} {args : List Value} {id : String} {Q : Option Value → Shared → Prop} (X : K.In s.heap) (I : InstAt s.heap x ox C od) (hs : findIn K (.ref C) name = some (some (.builtin id))) (hbnd : ∀ self, bindSpecial (.builtin id) self = pure (.builtin id, [self]))
    (h : wpAny M A (call (.builtin id) (.ref x :: args)) (fun v => Q (some v)) E s) : wpAny M A (callSpecialIfBound? (.ref x) name args) Q E s := by
  simp only [callSpecialIfBound?, bindSpecialIfBound?]
  refine wpAny_holding (wpAny_bind (wpAny_bind (wpAny_bind (I.type.here ((looks_findIn X hs).here ?_)))))
  refine wpAny_bind (wpAny_askSetting (wpAny_ite ?_))
  have fin : wpAny M A (call (.builtin id) ([.ref x] ++ args) >>= fun v => pure (some v)) Q E s := wpAny_bind (wpAny_mono h (fun v s' h' => wpAny_pure h') fun _ _ h' => h')
  have bd : Looks M s.heap (bindSpecial (.builtin id) (.ref x)) (.builtin id, [.ref x]) := Looks.of_pure (hbnd _)
  split
  · exact wpAny_bind (bd.here (wpAny_pure (by exact fin)))
  · exact wpAny_tryCatch (wpAny_bind (bd.here (wpAny_pure (by exact fin))))
theorem ne_bind (self : Value) : bindSpecial (.builtin "object.__ne__") self = pure (.builtin "object.__ne__", [self]) :=
  (Slot.of (T := "object") (name := "__ne__") (owner := "object") (n := "__ne__") (by rw [typeLookup_type, builtinLookup_eq_fast]; kernel_rfl) (by decide +kernel) (by decide +kernel) (by decide +kernel)
    (.inl (by decide +kernel)) (by rw [isSubtype_type]; kernel_rfl)).bind self
theorem objNe_K {Q : Fin → Shared → Prop} (hu : A.units < cLine) (X : K.In s.heap) (I : InstAt s.heap x ox C od) (hs : findIn K (.ref C) "__eq__" = some (some (.ref f))) (hf : isFn K (.ref f) = true)
    (h : wpAny (model prog w) A (call (.ref f) [.ref x, b]) (fun v s' => ∃ t, v = .bool t ∧ Q (.done (.ret (.bool (!t)))) s') E s) :
    wpAny (model prog w) A (Builtin.«object.__ne__» ⟨[.ref x, b], []⟩) Q E s := by
  unfold Builtin.«object.__ne__»
  repeat (first
    | with_reducible refine wpAny_cRoomFor hu ?_
    | (refine wpAny_bind (m := callSpecialIfBound? (.ref x) (Str.ofString "__eq__") [b])
        (ifBound_K X I hs hf (wpAny_mono h (fun r s' hr => by
          obtain ⟨t, rfl, hq⟩ := hr
          repeat (first | exact hq | exact wpAny_pure hq | exact wpAny_truthy_bool hq | (refine wpAny_bind (m := truthy (.bool _)) (wpAny_truthy_bool ?_)) | wp_step)) fun _ _ e => e)))
    | wp_step)
theorem ne_K {Q : Value → Shared → Prop} (hu : A.units + 1 < cLine) (F : Fr h₀ L s.heap m) (X₀ : K.In h₀) (I : InstAt s.heap x ox C od) (hb : Looks (model prog w) s.heap (typeOf b) tb) (hn : notFirst K C tb = true)
    (hne : findIn K (.ref C) "__ne__" = some (some (.builtin "object.__ne__"))) (hs : findIn K (.ref C) "__eq__" = some (some (.ref f))) (hf : isFn K (.ref f) = true) (hi : mroIn K C (.type "object") = some true)
    (h : wpAny (model prog w) A.in1 (call (.ref f) [.ref x, b]) (fun v s' => ∃ t, v = .bool t ∧ Q (.bool (!t)) s') E s) : wpAny (model prog w) A (richCompare .NotEq (.ref x) b) Q E s := by
  have X := X₀.keeps F.keep
  have one : wpAny (model prog w) A (tryCompare (.ref x) "__ne__" b) (fun r s' => ∃ v, r = some v ∧ Q v s') E s := by
    unfold tryCompare
    have hi2 : Looks (model prog w) s.heap (isInstance (.ref x) (.type "object")) true := I.type.andThen (looks_mroIn X hi)
    refine wpAny_bind (ifBoundB_K X I hne ne_bind (wpAny_call (codeAny_call_builtin (by decide +kernel) PySem.F.cmpEntry_ne (check_slot PySem.F.cmpKind_ne PySem.F.cmpSplit_ne hi2 (PySem.F.cmpArgs_ne _ _) (objNe_K (A := A.in1) hu X I hs hf (wpAny_mono h (fun v s' hv => ?_) fun _ _ e => e))))))
    obtain ⟨t, rfl, hq⟩ := hv
    first | exact ⟨t, rfl, wpAny_pure ⟨_, rfl, hq⟩⟩ | exact ⟨t, rfl, ⟨_, rfl, hq⟩⟩
  unfold richCompare
  simp only [oneThing_ref]
  refine wpAny_holding (wpAny_bind (wpAny_cRoomFor (Nat.lt_of_succ_lt hu) ?_))
  refine wpAny_bind (I.type.here (wpAny_bind (hb.here ?_)))
  split
  · rename_i q
    have e : subIn K tb (.ref C) = some false := by
      rcases Bool.or_eq_true_iff.mp hn with e | e
      · rw [beq_iff_eq.mp e] at q; simp at q
      · exact beq_iff_eq.mp e
    refine wpAny_bind ((looks_subIn X e).here ?_)
    simp only [Bool.false_eq_true, if_false]
    refine wpAny_bind (wpAny_mono one (fun r s' z => ?_) fun _ _ e => e)
    obtain ⟨v, rfl, hq⟩ := z
    exact wpAny_pure hq
  · refine wpAny_bind (wpAny_pure ?_)
    simp only [Bool.false_eq_true, if_false]
    refine wpAny_bind (wpAny_mono one (fun r s' z => ?_) fun _ _ e => e)
    obtain ⟨v, rfl, hq⟩ := z
    exact wpAny_pure hq
end
end CC
/-! Instances: fields, properties, making. -/
namespace CC
open L2 PySem PySem.Spec PyProof.Rows
section
variable {C : Ck} {ca : Nat → Addr} {φ : Phi} {k : Nat} {X : Cx} {W : WX}
theorem snd_fld {cs : List Nat} {o : Ex} {x : Str} (So : SndE o) : SndE (.fld cs o x) := .of fun {C ca φ k X W e t} hφ G h => by
  simp only [chkE] at h
  split at h
  · simp only [Bool.and_eq_true, decide_eq_true_eq, List.all_eq_true] at h
    obtain ⟨⟨⟨rfl, h1⟩, h2⟩, h3⟩ := h
    refine ⟨(pe_fld (So.pe hφ G h1) (base_of h2 _ _ _)).weak fun σ H Q q => ?_, rfl⟩
    obtain ⟨ι, S, σd, R, r, q⟩ := q
    simp only [wpE] at q
    refine tE_mk hφ R r q fun d S1 ι1 H1 v q1 x1 R1 rv => ?_
    clear q
    split at q1
    · rename_i c fs hi
      obtain ⟨hc, q2⟩ := q1
      split at q2
      · rename_i d2 hl
        obtain ⟨l, a, dx, gs, rfl, e1, rfl, e2, e3, e4, e5⟩ := R1.ins hi rv
        obtain ⟨v2, e6, rv2⟩ := e5.look hl
        have hx := h3 c (by simpa using hc)
        split at hx
        · rename_i cl hcl
          simp only [List.any_eq_true, decide_eq_true_eq] at hx
          obtain ⟨z, hz, rfl⟩ := hx
          have F := G.cls c cl hcl
          exact ⟨a, ca c, dx, gs, v2, rfl, e3, F.ok, F.fld _ hz, e6, q2 ι1 H1 v2 x1 R1 rv2⟩
        · cases hx
      · exact q2.elim
    · exact q1.elim
  · cases h
theorem look_mem {c f : Nat} : ∀ {tb : List (Nat × Nat)}, tb.lookup c = some f → (c, f) ∈ tb
  | [], h => by cases h
  | p :: r, h => by
    rw [List.lookup_cons] at h
    cases e : c == p.1 with
    | true =>
      rw [e] at h
      cases h
      rw [eq_of_beq e]
      exact List.mem_cons_self
    | false =>
      rw [e] at h
      exact List.mem_cons_of_mem _ (look_mem h)
/-- a property's getter runs -/
theorem prop_run {pins : List (Addr × Obj)} {σ : L2.St} {H : Hp} {s : Shared} {Q : VK} {b g : Bool} {E' : Value → Shared → Prop} {c p a dx gf : Addr} {x : Str} {fd : FuncData} {ps : List Str} {sp : Sp} {gs : List (Str × V)} (I : Inv X pins σ H s) (ea : H a = some (.ins c dx gs)) (ok : Cls X.K c) (hp : PropOf X.K c x p gf)
    (F : FnOkG X.prog X.w X.K X.mg X.base g k gf fd ps sp) (hr : Room k X.A.in1) (hg : g = true → X.A.guards = some []) (hb : ∀ (s : Shared) (us : List Value), us.length = ps.length → BindsTo s fd ⟨us, []⟩ (ps.zip us)) (h : sp [.ref a] H Q fun _ _ _ => False) :
    wpAny (model X.prog X.w) X.A (getAttr (.ref a) x b) (EP X pins σ Q) E' s := by
  obtain ⟨mA, O, _⟩ := ins_get I.hok ea
  obtain ⟨od, J, _⟩ := O.look
  obtain ⟨rest, hrec⟩ := hp.rec_
  have It := I.tok (s.toks + 1)
  have hl : [Value.ref a].length = ps.length := F.len _ _ _ _ h
  obtain ⟨cd, hcd, _⟩ := PySem.W.any_some ok.hd
  refine PySem.W.get_bind I.kIn J (PySem.W.plainGet_of (ok.get x)).1 (PySem.W.findObj_data (by rw [hcd]; rfl) hp.at_ hp.get hp.tak) (PySem.W.plainGet_of (ok.get x)).2 (wpAny_call (PySem.W.prop_get (s := { s with toks := s.toks + 1 }) I.kIn hrec ?_))
  refine codeAny_mono (F.run X.A.in1 X.stack { s with toks := s.toks + 1 } H ⟨[.ref a], []⟩ [.ref a] [.ref a] Q _ hr hg It.env0.in1 (hb _ [.ref a] hl) (.cons rfl .nil) h) fun r s2 hq => ?_
  cases r with
  | error er =>
    obtain ⟨_, _, _, _, _, _, _, _, _, _, _, _, z⟩ := hq
    exact z.elim
  | ok fl =>
    cases fl with
    | ret u =>
      obtain ⟨v, H2, J2, rv, q2⟩ := It.after hq
      show wpAny _ _ (handedOut u) _ _ _
      rw [PySem.W.handedOut_of (handed_of rv)]
      exact wpAny_pure ⟨v, H2, J2, rv, q2⟩
    | next => exact (show False from hq).elim
    | brk => exact (show False from hq).elim
    | cont => exact (show False from hq).elim
theorem snd_prop {tb : List (Nat × Nat)} {o : Ex} {x : Str} (So : SndE o) : SndE (.prop tb o x) := .of fun {C ca φ k X W e t} hφ G h => by
  simp only [chkE] at h
  split at h
  · simp only [Bool.and_eq_true, decide_eq_true_eq, List.all_eq_true] at h
    obtain ⟨⟨⟨⟨hxe, rfl⟩, h1⟩, h2⟩, h3⟩ := h
    refine ⟨⟨fun pins s σ H Q I q => ?_⟩, rfl⟩
    obtain ⟨ι, S, σd, R, r, q⟩ := q
    simp only [wpE] at q
    have q1 : tE X.K ca C.g φ W o σ H (fun v H1 => ∃ a dx gs c f, v = .ref a ∧ H1 a = some (.ins (ca c) dx gs) ∧ tb.lookup c = some f ∧ spF X.K ca φ f [.ref a] H1 Q fun _ _ _ => False) := tE_mk hφ R r q fun d S1 ι1 H1 v q x1 R1 rv => by
      split at q
      · rename_i c fs hi
        split at q
        · rename_i f hl
          obtain ⟨l, a, dx, gs, rfl, e1, rfl, e2, e3, e4, e5⟩ := R1.ins hi rv
          exact ⟨a, dx, gs, c, f, rfl, e3, hl, ι1, S1, _, R1, .cons (.ref e2) .nil, hφ _ _ _ _ _ _ _ (fun d S2 q => q.of x1) (fun _ _ z => z.elim) q⟩
        · exact q.elim
      · exact q.elim
    refine attr_of (base_of h2 _ _ _) (thn ((So.pe hφ G h1).run pins s σ H _ I q1) fun u s1 hq => ?_)
    obtain ⟨v, H1, I1, rv, a, dx, gs, c, f, rfl, e3, hl, q⟩ := hq
    cases rv
    have hmem : (c, f) ∈ tb := look_mem hl
    obtain ⟨h4, h5⟩ := h3 _ hmem
    split at h4
    · rename_i cl hcl
      simp only [List.any_eq_true, decide_eq_true_eq] at h4
      obtain ⟨p, hp, e4⟩ := h4
      subst e4
      split at h5
      · rename_i fn hf
        simp only [Bool.or_eq_true, Bool.not_eq_true'] at h5
        obtain ⟨fd, _, _, hb, _, F⟩ := (G.fns f fn hf).ex
        have Fc := G.cls c cl hcl
        obtain ⟨pa, P⟩ := Fc.prp _ hp hxe
        refine prop_run I1 e3 Fc.ok P F (G.room2 _ rfl (Nat.le_succ _) (Nat.le_trans (Nat.le_refl _) (Nat.add_le_add_left (by decide : 1 ≤ 8) _))) (fun z => ?_) hb q
        rcases h5 with h5 | h5
        · rw [z] at h5; cases h5
        · exact G.gd h5
      · cases h5
    · cases h4
  · cases h
/-! ### the class's own == -/
/-- a call one step deeper, nothing raised -/
theorem call_in1 {pins : List (Addr × Obj)} {σ : L2.St} {H : Hp} {s : Shared} {Q : VK} {g : Bool} {E' : Value → Shared → Prop} {gf : Addr} {fd : FuncData} {ps : List Str} {sp : Sp} {vs : List V} {ws : List Value} (I : Inv X pins σ H s)
    (F : FnOkG X.prog X.w X.K X.mg X.base g k gf fd ps sp) (hr : Room k X.A.in1) (hg : g = true → X.A.guards = some []) (r : Vals vs ws) (hb : BindsTo s fd ⟨ws, []⟩ (ps.zip ws)) (h : sp vs H Q fun _ _ _ => False) :
    wpAny (model X.prog X.w) X.A.in1 (call (.ref gf) ws) (EP X pins σ Q) E' s := by
  refine wpAny_call (codeAny_mono (F.run X.A.in1 X.stack s H ⟨ws, []⟩ ws vs Q _ hr hg I.env0.in1 hb r h) fun r s2 hq => ?_)
  cases r with
  | error er =>
    obtain ⟨_, _, _, _, _, _, _, _, _, _, _, _, z⟩ := hq
    exact z.elim
  | ok fl =>
    cases fl with
    | ret u =>
      obtain ⟨v, H2, J2, rv, q2⟩ := I.after hq
      exact ⟨v, H2, J2, rv, q2⟩
    | next => exact (show False from hq).elim
    | brk => exact (show False from hq).elim
    | cont => exact (show False from hq).elim
/-- the right side -/
def EqTy (K : PySem.W.Frag) (H : Hp) (c : Addr) (y : V) : Prop := (∃ b dy gs, y = .ref b ∧ H b = some (.ins c dy gs)) ∨ ∃ t ∈ tyNames, TyX K H y (.type t)
/-- what == of an instance wants -/
def rEqm (K : PySem.W.Frag) (ca : Nat → Addr) (φ : Phi) (neg : Bool) (tb : List (Nat × Nat)) : R2 := fun x y H Q =>
  ∃ a c dx fs f, x = .ref a ∧ H a = some (.ins (ca c) dx fs) ∧ EqTy K H (ca c) y ∧ tb.lookup c = some f ∧ spF K ca φ f [.ref a, y] H (fun v H1 => ∃ t, v = .bl t ∧ Q (.bl (neg != t)) H1) fun _ _ _ => False
theorem op_eqm (hφ : PhiMono φ) (G : Good C ca φ k X W) {neg : Bool} {tb : List (Nat × Nat)} (ht : (tb.all fun p => (match C.cls p.1 with
      | some cl => cl.props.any fun q => decide (q = (("__eq__" : Str), p.2))
      | none => false) && (match C.fns p.2 with
      | some fn => !fn.g || C.g
      | none => false)) = true) : OpR X (compareOp (if neg = true then CmpOp.NotEq else CmpOp.Eq)) (rEqm X.K ca φ neg tb) := by
  intro pins s σ H x y v u Q I rx ry h
  obtain ⟨a, c, dx, fs, f, rfl, ea, ey, hl, q⟩ := h
  cases rx
  have hmem : (c, f) ∈ tb := look_mem hl
  have h3 := List.all_eq_true.mp ht _ hmem
  simp only [Bool.and_eq_true] at h3
  obtain ⟨h4, h5⟩ := h3
  split at h4
  · rename_i cl hcl
    simp only [List.any_eq_true, decide_eq_true_eq] at h4
    obtain ⟨p, hp, rfl⟩ := h4
    split at h5
    · rename_i fn hf
      simp only [Bool.or_eq_true, Bool.not_eq_true'] at h5
      obtain ⟨fd, _, _, hb, _, F⟩ := (G.fns f fn hf).ex
      have Fc := G.cls c cl hcl
      have Eq := Fc.eqs _ hp rfl
      obtain ⟨mA, O, _⟩ := ins_get I.hok ea
      obtain ⟨od, J, _⟩ := O.look
      obtain ⟨m, hF⟩ := I.fr
      have hg : fn.g = true → X.A.guards = some [] := fun z => by
        rcases h5 with h5 | h5
        · rw [z] at h5; cases h5
        · exact G.gd h5
      have hu : X.A.units + 1 < cLine := by
        have := G.un
        omega
      obtain ⟨tb, hlk, hnf⟩ : ∃ tb, PySem.W.Looks (model X.prog X.w) s.heap (typeOf u) tb ∧ PySem.W.notFirst X.K (ca c) tb = true := by
        rcases ey with ⟨b, dy, gs, rfl, eb⟩ | ⟨t, htn, ty⟩
        · cases ry
          obtain ⟨mB, O', _⟩ := ins_get I.hok eb
          obtain ⟨od', J', _⟩ := O'.look
          exact ⟨_, J'.type, by simp [PySem.W.notFirst]⟩
        · obtain ⟨P, Z, p, _⟩ := kit_of I ry ty
          exact ⟨_, Z.ty _ _ I.kIn p, by simp [PySem.W.notFirst, Eq.nf t htn]⟩
      have r2 : Vals [V.ref a, y] [Value.ref a, u] := .cons rfl (.cons ry .nil)
      cases neg with
      | false =>
        have q2 : spF X.K ca φ f [.ref a, y] H (fun v H1 => ∃ t, v = .bl t ∧ Q (.bl t) H1) (WE W σ) := by
          obtain ⟨ι, S, ds, R, r, q⟩ := q
          refine ⟨ι, S, ds, R, r, hφ _ _ _ _ _ _ _ (fun d S2 z ι2 H2 v2 x2 R2 rv => ?_) (fun x S' z ι' H' dd v e1 e2 e3 e4 => (z ι' H' dd v e1 e2 e3 e4).elim) q⟩
          obtain ⟨t, e, z⟩ := z ι2 H2 v2 x2 R2 rv
          have et : (false != t) = t := by cases t <;> rfl
          rw [et] at z
          exact ⟨t, e, z⟩
        refine PySem.W.cmp_K (op := .Eq) (Nat.lt_of_succ_lt hu) hF I.ok.mod.kin J hlk hnf Eq.find Eq.fn ?_
        refine wpAny_mono (call_fnG F G.room hg G.takes I r2 (hb s [.ref a, u] (F.len _ _ _ _ q2)) q2) (fun w s2 hq => ?_) fun _ _ e => e
        obtain ⟨z, H1, I1, rz, t, rfl, q3⟩ := hq
        cases rz
        exact ⟨.bl t, H1, I1, rfl, q3⟩
      | true =>
        refine ne_K hu hF I.ok.mod.kin J hlk hnf Eq.ne Eq.find Eq.fn Eq.hm ?_
        refine wpAny_mono (call_in1 I F (G.room2 _ rfl (Nat.le_succ _) (Nat.le_trans (Nat.le_refl _) (Nat.add_le_add_left (by decide : 1 ≤ 8) _))) hg r2 (hb s [.ref a, u] (F.len _ _ _ _ q)) q) (fun w s2 hq => ?_) fun _ _ e => e
        obtain ⟨z, H1, I1, rz, t, rfl, q3⟩ := hq
        cases rz
        have et : (true != t) = !t := by cases t <;> rfl
        rw [et] at q3
        exact ⟨t, rfl, .bl (!t), H1, I1, rfl, q3⟩
    · cases h5
  · cases h4
/-- a value's type, off the store -/
theorem eqTy_of {ι : List Addr} {H : Hp} {S : Store} {c : Nat} {y : D} {v : V} (R : Rep X.K ca ι S H) (r : RelD X.K ι H y v) (h : eqRt c y S = true) : EqTy X.K H (ca c) v := by
  cases r with
  | non => exact .inr ⟨"NoneType", by decide, .base .non⟩
  | bl b => exact .inr ⟨"bool", by decide, .base (.bl b)⟩
  | int i => exact .inr ⟨"int", by decide, .base (.int i)⟩
  | str x => exact .inr ⟨"str", by decide, .base (.str x)⟩
  | tup h1 h2 => exact .inr ⟨"tuple", by decide, tyx_tup h1⟩
  | @ref l a e =>
    unfold eqRt at h
    dsimp only at h
    split at h
    · rename_i c2 gs hs
      simp only [decide_eq_true_eq] at h
      subst h
      obtain ⟨l', a', dx, gs', e0, e1, e2, e3, e4, e5, e6⟩ := R.ins (c := c2) (fs := gs) (by simp only [insAt, hs]) (RelD.ref (K := X.K) e)
      cases e2
      exact .inl ⟨_, dx, gs', rfl, e4⟩
    · rename_i xs hs
      obtain ⟨a', vs, e0, e1, e2, e3⟩ := R.lst hs (RelD.ref (K := X.K) e)
      cases e0
      exact .inr ⟨"list", by decide, .base (.lst e2)⟩
    · cases h
theorem eqm_tE (hφ : PhiMono φ) {g : Bool} {σ : L2.St} {H : Hp} {Q : VK} {neg : Bool} {tb : List (Nat × Nat)} {a b : Ex} (h : tE X.K ca g φ W (.eqm neg tb (.cons a (.cons b .nil))) σ H Q) : tOp (rEqm X.K ca φ neg tb) (tE X.K ca g φ W a) (tE X.K ca g φ W b) σ H Q := by
  have h2 : tAs X.K ca g φ W (.cons a (.cons b .nil)) σ H fun vs H1 => ∃ x y, vs = [x, y] ∧ rEqm X.K ca φ neg tb x y H1 Q := by
    obtain ⟨ι, S, σd, R, r, q⟩ := h
    simp only [wpE] at q
    refine tAs_mk hφ R r q fun ds S1 ι1 H1 vs q x1 R1 rv => ?_
    obtain ⟨x, y, c, fs, f, rfl, i1, i2, hl, q⟩ := q
    cases rv with
    | cons rv1 rv2 =>
      cases rv2 with
      | cons rv2 rv3 =>
        cases rv3
        obtain ⟨l, a1, dx, gs1, rfl, _, rfl, e2, e3, _, _⟩ := R1.ins i1 rv1
        refine ⟨_, _, rfl, a1, c, dx, gs1, f, rfl, e3, eqTy_of R1 rv2 i2, hl, ι1, S1, _, R1, .cons (.ref e2) (.cons rv2 .nil), hφ _ _ _ _ _ _ _ (fun d S2 z => ?_) (fun _ _ z => z.elim) q⟩
        obtain ⟨t, rfl, z⟩ := z
        intro ι2 H2 v x2 R2 rv
        cases rv
        exact ⟨t, rfl, z ι2 H2 _ (x1.trans x2) R2 (.bl _)⟩
  obtain ⟨ι, S, σd, R, r, q⟩ := tAs_two hφ h2
  refine ⟨ι, S, σd, R, r, wpE_mono hφ a (fun d S1 q ι1 H1 v x1 R1 rv => ?_) (fun _ _ z => z) q⟩
  obtain ⟨ι', S', σd', R', r', q'⟩ := q ι1 H1 v x1 R1 rv
  refine ⟨ι', S', σd', R', r', wpE_mono hφ b (fun d S1 q ι1 H1 v x1 R1 rv => ?_) (fun _ _ z => z) q'⟩
  obtain ⟨x, y, e, q⟩ := q ι1 H1 v x1 R1 rv
  cases e
  exact q
theorem boolE_eqm {g : Bool} (hφ : PhiMono φ) {neg : Bool} {tb : List (Nat × Nat)} {es : Exs} : BoolE g φ (.eqm neg tb es) := fun σ S Q E h => by
  simp only [wpE] at h ⊢
  refine wpAs_mono hφ es (fun ds S1 q => ?_) (fun _ _ z => z) h
  obtain ⟨x, y, c, fs, f, h1, h2, h3, h4, q⟩ := q
  exact ⟨x, y, c, fs, f, h1, h2, h3, h4, hφ _ _ _ _ _ _ _ (fun d S2 ⟨b, z1, z2⟩ => ⟨b, z1, ⟨_, rfl⟩, z2⟩) (fun _ _ z => z) q⟩
theorem snd_eqm {neg : Bool} {tb : List (Nat × Nat)} {es : Exs} (S : SndEs es) : SndE (.eqm neg tb es) := by
  have key : ∀ {C : Ck} {ca : Nat → Addr} {φ : Phi} {k : Nat} {X : Cx} {W : WX} {e : Expr} {t : Bool}, PhiMono φ → Good C ca φ k X W → chkE C t (.eqm neg tb es) e = true →
      PE X e (tE X.K ca C.g φ W (.eqm neg tb es)) ∧ PT X e (tT X.K ca C.g φ W (.eqm neg tb es)) ∧ isBoolOp e = false := fun {C ca φ k X W e t} hφ G h => by
    simp only [chkE] at h
    split at h
    · rename_i a o b pos
      rw [Bool.and_eq_true, Bool.and_eq_true, decide_eq_true_eq] at h
      obtain ⟨⟨rfl, h1⟩, h2⟩ := h
      obtain ⟨m, n, rfl, ha, pa, hb, pb⟩ := (S.all hφ G h1).two
      have op := op_eqm (neg := neg) hφ G h2
      exact ⟨(pe_cmpR op ha hb (mark_of pb)).weak fun σ H Q q => eqm_tE hφ q, (pt_cmpR op ha hb (mark_of pb)).weak fun σ H Q q => eqm_tE hφ (tT_tE hφ (boolE_eqm hφ) q), rfl⟩
    · cases h
  exact ⟨fun hφ G h => (key hφ G h).1, fun hφ G h => (key hφ G h).2.1, fun hφ G h hb => by
    rw [(key hφ G h).2.2] at hb
    cases hb⟩
/-! ### isinstance of the own class -/
theorem isM_ok {ι : List Addr} {H : Hp} {S : Store} {c : Nat} {y : D} {v : V} {b : Bool} (R : Rep X.K ca ι S H) (r : RelD X.K ι H y v) (h : isMv c y S = some b) (Ok : Cls X.K (ca c)) {f : Addr} (Eq : EqOf X.K (ca c) f) : ∃ t : Value, TyX X.K H v t ∧ PySem.W.kitOne X.K t (.ref (ca c)) = some b := by
  cases r with
  | non => cases h; exact ⟨_, .base .non, Eq.kf "NoneType" (by decide)⟩
  | bl b => cases h; exact ⟨_, .base (.bl b), Eq.kf "bool" (by decide)⟩
  | int i => cases h; exact ⟨_, .base (.int i), Eq.kf "int" (by decide)⟩
  | str x => cases h; exact ⟨_, .base (.str x), Eq.kf "str" (by decide)⟩
  | tup h1 h2 => cases h; exact ⟨_, tyx_tup h1, Eq.kf "tuple" (by decide)⟩
  | @ref l a e =>
    unfold isMv at h
    dsimp only at h
    split at h
    · rename_i c2 gs hs
      split at h
      · rename_i hc
        subst hc
        cases h
        obtain ⟨l', a', dx, gs', e0, e1, e2, e3, e4, e5, e6⟩ := R.ins (c := c2) (fs := gs) (by simp only [insAt, hs]) (RelD.ref (K := X.K) e)
        cases e2
        exact ⟨_, .base (.ins e4 Ok Eq.ha Eq.hn Eq.htk Eq.hm), Eq.kit⟩
      · cases h
    · rename_i xs hs
      cases h
      obtain ⟨a', vs, e0, e1, e2, e3⟩ := R.lst hs (RelD.ref (K := X.K) e)
      cases e0
      exact ⟨_, .base (.lst e2), Eq.kf "list" (by decide)⟩
    · cases h
theorem snd_isM {c : Nat} {x : Str} {o : Ex} (So : SndE o) : SndE (.isM c x o) := .of fun {C ca φ k X W e t} hφ G h => by
  simp only [chkE] at h
  split at h
  · rename_i y p1 a z p2 p3
    simp only [Bool.and_eq_true, decide_eq_true_eq] at h
    obtain ⟨⟨⟨⟨⟨⟨hy, hg⟩, hz⟩, hgz⟩, ha⟩, pa⟩, hc⟩ := h
    subst hy hz
    split at hc
    · rename_i cl hcl
      simp only [Bool.and_eq_true, decide_eq_true_eq, List.any_eq_true] at hc
      obtain ⟨hn, q0, hq0, eq0⟩ := hc
      obtain ⟨g1, g2⟩ := gl_ok G hg
      obtain ⟨g3, g4⟩ := gl_ok G hgz
      have Fc := G.cls c cl hcl
      have Eq := Fc.eqs _ hq0 eq0
      have hm := Fc.mg
      rw [hn] at hm
      have hb : PE X (.Name z p2) (tC (.ref (ca c))) := pe_glob g3 hm rfl g4
      refine ⟨(pe_callB call_isi g1 (G.blt' (by decide +kernel)) (by decide +kernel) (pa_cons (So.pe hφ G ha) (pa_cons hb pa_nil rfl) (star_of pa _ _)) (by decide) g2 (star_of pa _ _) rfl).weak fun σ H Q q => ?_, rfl⟩
      obtain ⟨ι, S, σd, R, r, q⟩ := q
      simp only [wpE] at q
      refine tE_mk hφ R r q fun d S' ι' H' v q x R' rv => ?_
      obtain ⟨b, hi, q⟩ := q
      obtain ⟨t, ty, kt⟩ := isM_ok R' rv hi Fc.ok Eq
      exact ⟨v, .ref (ca c), t, .ref (ca c), b, rfl, .own _, ty, kt, q ι' H' _ x R' (.bl b)⟩
    · cases hc
  · cases h
theorem make_guards {A : Around} {D : Addr} {us : List Value} {kw : List (Str × Value)} (h : A.guards = some []) : (A.under (.builtin "type.__call__" ⟨.ref D :: us, kw⟩)).guards = some [] := by
  simp [Around.under, Code.guards, Code.isGuard, pushGuards, h, guardIds]
theorem make_run {pins : List (Addr × Obj)} {σ : L2.St} {H : Hp} {s : Shared} {Q : VK} {us ws : List Value} {kw : List (Str × Value)} {vs : List V} {g : Bool} {c gf : Addr} {fd : FuncData} {ps : List Str} {sp : Sp} (M : Mk X.K c gf) (F : FnOkG X.prog X.w X.K X.mg X.base g k gf fd ps sp)
    (hr : Room k (X.A.under (.builtin "type.__call__" ⟨.ref c :: us, kw⟩))) (hg : g = true → X.A.guards = some []) (tk : Takes X W) (I : Inv X pins σ H s) (r : Vals vs ws) (hb : ∀ (s : Shared) (x : Value), BindsTo s fd ⟨x :: us, kw⟩ (ps.zip (x :: ws)))
    (h : ∀ x dx, H x = none → H dx = none → dx ≠ x → sp (.ref x :: vs) (upd (upd H dx (.own x)) x (.ins c dx [])) (fun v H2 => v = .non ∧ Q (.ref x) H2) (WE W σ)) :
    wpAny (model X.prog X.w) X.A (call (.ref c) us kw) (EP X pins σ Q) X.xe s := by
  have hq := h (s.heap.objs.size + 1) s.heap.objs.size (I.hok.fresh (Nat.le_succ _)) (I.hok.fresh (Nat.le_refl _)) (Nat.ne_of_lt (Nat.lt_succ_self _))
  have Im := Inv.made (C := c) I
  refine wpAny_call (make_map (f := gf) I.kIn M.makes M.init (beq_iff_eq.mp M.fn) (codeAny_mono (F.run _ X.stack _ _ _ (Value.ref (s.heap.objs.size + 1) :: ws) (V.ref (s.heap.objs.size + 1) :: vs) _ _ hr (fun z => make_guards (hg z)) (Im.env0.make c us kw) (hb _ _) (.cons rfl r) hq) fun r s2 hz => ?_))
  cases r with
  | error e => exact passAt tk σ pins _ _ e s2 Im hz
  | ok fl =>
    cases fl with
    | ret u =>
      obtain ⟨v, H2, J2, rv, ev, q3⟩ := Im.after hz
      subst ev
      exact ⟨rv, V.ref (s.heap.objs.size + 1), H2, J2, rfl, q3⟩
    | next => exact (show False from hz).elim
    | brk => exact (show False from hz).elim
    | cont => exact (show False from hz).elim
theorem made_sp {K : PySem.W.Frag} (hφ : PhiMono φ) {c f : Nat} {ds : List D} {vs : List V} {S1 : Store} {ι1 ι : List Addr} {H1 H : Hp} {Q : VK} {σ : L2.St} (x1 : Ext K ι H ι1 H1) (R1 : Rep K ca ι1 S1 H1) (rv : RelDs K ι1 H1 ds vs)
    (q : φ f (.ref S1.length :: ds) (S1 ++ [.ins c []]) (fun d S2 => d = .non ∧ QL K ca Q ι H (.ref S1.length) S2) (EL K ca W σ ι H)) :
    ∀ x dx, H1 x = none → H1 dx = none → dx ≠ x → spF K ca φ f (.ref x :: vs) (upd (upd H1 dx (.own x)) x (.ins (ca c) dx [])) (fun v H2 => v = .non ∧ Q (.ref x) H2) (WE W σ) := fun x dx hx hd ne => by
  have x2 : Ext K ι1 H1 (ι1 ++ [x]) (upd (upd H1 dx (.own x)) x (.ins (ca c) dx [])) := Ext.pushIns hx hd
  have hL : (ι1 ++ [x])[S1.length]? = some x := by rw [← R1.len]; simp
  refine ⟨ι1 ++ [x], S1 ++ [.ins c []], _, R1.pushIns hx hd ne, .cons (.ref hL) (rv.mono x2), hφ _ _ _ _ _ _ _ (fun d S2 q => ?_) (fun e S2 q => q.of (x1.trans x2)) q⟩
  intro ι' H' v x3 R3 rv3
  obtain ⟨rfl, q⟩ := q
  cases rv3
  exact ⟨rfl, q ι' H' _ ((x1.trans x2).trans x3) R3 (.ref (x3.pre _ _ hL))⟩
theorem pick_succ {α : Type} (x : α) (xs : List α) : ∀ (is : List Nat), pick (x :: xs) (is.map (· + 1)) = pick xs is
  | [] => rfl
  | i :: is => by
    rw [List.map_cons]
    unfold pick
    rw [pick_succ x xs is]
    simp
theorem snd_make {c f : Nat} {es : Exs} (S : SndEs es) : SndE (.make c f es) := .of fun {C ca φ k X W e t} hφ G h => by
  simp only [chkE] at h
  split at h
  · rename_i x p xs pos
    simp only [Bool.and_eq_true] at h
    obtain ⟨⟨⟨h1, h2⟩, h3⟩, h4⟩ := h
    split at h1
    · rename_i cl hcl
      simp only [Bool.and_eq_true, decide_eq_true_eq] at h1
      obtain ⟨rfl, rfl⟩ := h1
      split at h2
      · rename_i fn hf
        simp only [Bool.or_eq_true, Bool.not_eq_true'] at h2
        obtain ⟨g1, g2⟩ := gl_ok G h3
        obtain ⟨fd, _, _, hb, _, F⟩ := (G.fns _ fn hf).ex
        have Fc := G.cls c cl hcl
        have hg : fn.g = true → X.A.guards = some [] := fun z => by
          rcases h2 with h2 | h2
          · rw [z] at h2; cases h2
          · exact G.gd h2
        have A := S.all hφ G h4
        refine ⟨⟨fun pins s σ H Q I q => ?_⟩, rfl⟩
        have q : tAs X.K ca C.g φ W es σ H fun vs H1 => ∀ x dx, H1 x = none → H1 dx = none → dx ≠ x → spF X.K ca φ cl.init (.ref x :: vs) (upd (upd H1 dx (.own x)) x (.ins (ca c) dx [])) (fun v H2 => v = .non ∧ Q (.ref x) H2) (WE W σ) := by
          obtain ⟨ι, S, σd, R, r, q⟩ := q
          simp only [wpE] at q
          exact tAs_mk hφ R r q fun ds S1 ι1 H1 vs q x1 R1 rv => made_sp hφ x1 R1 rv q
        have hr : ∀ us, Room k (X.A.under (.builtin "type.__call__" ⟨.ref (ca c) :: us, []⟩)) := fun us => G.room2 _ rfl (by rw [make_depth]; exact Nat.le_refl _) (by rw [make_units]; omega)
        refine wpAny_Call_Name_kw (ld_glob I g1 Fc.mg ?_ g2)
        have fin : ∀ {pins : List (Addr × Obj)} {s1 : Shared} {H1 : Hp} {us : List Value} {vs : List V}, Inv X pins σ H1 s1 → Vals vs us → (∀ x dx, H1 x = none → H1 dx = none → dx ≠ x → spF X.K ca φ cl.init (.ref x :: vs) (upd (upd H1 dx (.own x)) x (.ins (ca c) dx [])) (fun v H2 => v = .non ∧ Q (.ref x) H2) (WE W σ)) →
            wpAny (model X.prog X.w) X.A (call (.ref (ca c)) us) (EP X pins σ Q) X.xe s1 := fun {pins s1 H1 us vs} I1 r q => by
          have hq := q (s1.heap.objs.size + 1) s1.heap.objs.size (I1.hok.fresh (Nat.le_succ _)) (I1.hok.fresh (Nat.le_refl _)) (Nat.ne_of_lt (Nat.lt_succ_self _))
          have hl := F.len _ _ _ _ hq
          exact make_run Fc.made F (hr us) hg G.takes I1 r (fun s x => hb s (x :: us) (by rw [← hl, List.length_cons, List.length_cons, r.length])) q
        cases xs with
        | nil =>
          cases A
          exact PySem.W.callWith_K0 I.kIn Fc.made.kp (fin I .nil (tAs_nil q))
        | cons y ys =>
          refine PySem.W.callWith_K (h₀ := X.base) I.ok.mod.kin Fc.made.kp (thn ((A.pa hφ).run pos pins s σ H _ I q) fun us s1 hq => ?_) ?_ ?_
          · obtain ⟨vs, H1, I1, r, q1⟩ := hq
            exact ⟨I1.kIn, fin I1 r q1⟩
          · cases A with
            | cons z1 z2 z3 => exact star_of z2 _ _
          · cases A with
            | cons z1 z2 z3 => exact z3.plain
      · cases h2
    · cases h1
  · cases h
theorem snd_makek {c f : Nat} {es : Exs} {ks : List Str} {kes : Exs} {perm : List Nat} (S : SndEs es) (Sk : SndEs kes) : SndE (.makek c f es ks kes perm) := .of fun {C ca φ k X W e t} hφ G h => by
  simp only [chkE] at h
  split at h
  · rename_i x p xs kws pos
    simp only [Bool.and_eq_true, List.any_eq_true, decide_eq_true_eq] at h
    obtain ⟨⟨⟨⟨⟨⟨h1, h2⟩, h3⟩, h4⟩, h5⟩, h6⟩, q0, h7, h8⟩ := h
    subst h8
    split at h1
    · rename_i cl hcl
      simp only [Bool.and_eq_true, decide_eq_true_eq] at h1
      obtain ⟨rfl, rfl⟩ := h1
      split at h2
      · rename_i fn hf
        simp only [Bool.or_eq_true, Bool.not_eq_true'] at h2
        obtain ⟨g1, g2⟩ := gl_ok G h3
        obtain ⟨fd, _, _, _, hb, F⟩ := (G.fns _ fn hf).ex
        have Fc := G.cls c cl hcl
        have hg : fn.g = true → X.A.guards = some [] := fun z => by
          rcases h2 with h2 | h2
          · rw [z] at h2; cases h2
          · exact G.gd h2
        have A := S.all hφ G h4
        have B := Sk.all hφ G h5
        obtain ⟨n1, n2, n3⟩ := kw_names (pos := pos) (env := X.env) h6
        have lk : ks.length = exsLen kes := by
          have := congrArg List.length h6
          simp only [List.length_map] at this
          rw [← this, ← B.len, List.length_map]
        refine ⟨⟨fun pins s σ H Q I q => ?_⟩, rfl⟩
        have q : tAs X.K ca C.g φ W es σ H fun vs H1 => vs.length = exsLen es ∧ tAs X.K ca C.g φ W kes σ H1 fun zs H2 => zs.length = exsLen kes ∧ ∃ rs, pick (vs ++ zs) perm = some rs ∧
            ∀ x dx, H2 x = none → H2 dx = none → dx ≠ x → spF X.K ca φ cl.init (.ref x :: rs) (upd (upd H2 dx (.own x)) x (.ins (ca c) dx [])) (fun v H3 => v = .non ∧ Q (.ref x) H3) (WE W σ) := by
          obtain ⟨ι, S, σd, R, r, q⟩ := q
          simp only [wpE] at q
          refine tAs_mk hφ R r (lenW hφ q) fun ds S1 ι1 H1 vs q x1 R1 rv => ?_
          refine ⟨by rw [← rv.length]; exact q.1, tAs_mk hφ R1 (r.mono x1) (lenW hφ (wpAs_mono hφ kes (fun _ _ q => q) (fun _ _ z => z.of x1) q.2)) fun ks S2 ι2 H2 zs q x2 R2 rz => ⟨by rw [← rz.length]; exact q.1, ?_⟩⟩
          have q := q.2
          split at q
          · rename_i rs hp
            obtain ⟨ws, e, r3⟩ := pick_rel ((rv.mono x2).append rz) hp
            exact ⟨ws, e, made_sp hφ (x1.trans x2) R2 r3 q⟩
          · exact q.elim
        have hr : ∀ us kw, Room k (X.A.under (.builtin "type.__call__" ⟨.ref (ca c) :: us, kw⟩)) := fun us kw => G.room2 _ rfl (by rw [make_depth]; exact Nat.le_refl _) (by rw [make_units]; omega)
        refine wpAny_Call_Name_kw (ld_glob I g1 Fc.mg ?_ g2)
        have fin : ∀ {pins : List (Addr × Obj)} {s2 : Shared} {H2 : Hp} {us ws : List Value} {vs zs : List V}, Inv X pins σ H2 s2 → Vals vs us → Vals zs ws → vs.length = xs.length → zs.length = exsLen kes → (∃ rs, pick (vs ++ zs) perm = some rs ∧
            ∀ x dx, H2 x = none → H2 dx = none → dx ≠ x → spF X.K ca φ cl.init (.ref x :: rs) (upd (upd H2 dx (.own x)) x (.ins (ca c) dx [])) (fun v H3 => v = .non ∧ Q (.ref x) H3) (WE W σ)) →
            wpAny (model X.prog X.w) X.A (call (.ref (ca c)) us (ks.zip ws)) (EP X pins σ Q) X.xe s2 := fun {pins s2 H2 us ws vs zs} I2 r rz l1 l2 q => by
          obtain ⟨rs, hp, q⟩ := q
          obtain ⟨us2, hp2, r2⟩ := pick_vals (r.append rz) hp
          have hq := q (s2.heap.objs.size + 1) s2.heap.objs.size (I2.hok.fresh (Nat.le_succ _)) (I2.hok.fresh (Nat.le_refl _)) (Nat.ne_of_lt (Nat.lt_succ_self _))
          have hl := F.len _ _ _ _ hq
          refine make_run Fc.made F (hr us _) hg G.takes I2 r2 (fun s x => hb _ h7 s (x :: us) ws (x :: us2) (by rw [List.length_cons, ← r.length, l1]) (by rw [← rz.length, l2]; exact lk.symm) ?_ (by rw [← hl, List.length_cons, List.length_cons, r2.length])) q
          unfold pick
          rw [List.cons_append, pick_succ, hp2]
          rfl
        cases xs with
        | nil =>
          cases A
          obtain ⟨_, q⟩ := tAs_nil q
          refine PySem.W.callWith_KW0 (h₀ := X.base) I.ok.mod.kin Fc.made.kp n1 (thn ((B.pk hφ).run pos pins s σ H _ I q) fun ws s2 hq => ?_) (by rw [n3]; rfl)
          obtain ⟨zs, H2, I2, rz, l2, q2⟩ := hq
          refine ⟨I2.kIn, ?_⟩
          rw [n2]
          exact fin I2 .nil rz rfl l2 q2
        | cons y ys =>
          have hst : starEach (y :: ys) X.env = (false, eval y X.env) :: starEach ys X.env := by
            cases A with
            | cons z1 z2 z3 => exact star_of z2 _ _
          refine PySem.W.callWith_KW (h₀ := X.base) I.ok.mod.kin Fc.made.kp n1 (thn ((A.pa hφ).run pos pins s σ H _ I q) fun us s1 hq => ?_) (by rw [A.plain, n3]; rfl) hst
          obtain ⟨vs, H1, I1, r, l1, q1⟩ := hq
          refine thn ((B.pk hφ).run pos pins s1 σ H1 _ I1 q1) fun ws s2 hq => ?_
          obtain ⟨zs, H2, I2, rz, l2, q2⟩ := hq
          refine ⟨I2.kIn, ?_⟩
          rw [n2]
          exact fin I2 r rz (by rw [l1, A.len]) l2 q2
      · cases h2
    · cases h1
  · cases h
end
end CC
/-! Targets, comprehensions; every expression of the little language is what it says. -/
namespace CC
open L2 PySem PySem.Spec PyProof.Rows

/-! ### slots that are written -/
def Off (vs : List Nat) (σ σ' : L2.St) : Prop := σ'.length = σ.length ∧ ∀ i, i ∉ vs → σ'[i]? = σ[i]?
theorem Off.trans {us vs : List Nat} {σ σ1 σ2 : L2.St} (h : Off us σ σ1) (k : Off vs σ1 σ2) : Off (us ++ vs) σ σ2 :=
  ⟨k.1.trans h.1, fun i hi => (k.2 i fun z => hi (List.mem_append_right _ z)).trans (h.2 i fun z => hi (List.mem_append_left _ z))⟩
theorem wipe_get (σ : L2.St) (i : Nat) : ∀ vs : List Nat, (wipe σ vs)[i]? = if i ∈ vs then (if i < σ.length then some none else none) else σ[i]?
  | [] => by simp [wipe]
  | v :: vs => by
    unfold wipe
    by_cases h : v = i
    · subst h
      rw [if_pos List.mem_cons_self]
      by_cases hl : v < σ.length
      · rw [if_pos hl, List.getElem?_set_self (by rw [wipe_length]; exact hl)]
      · rw [if_neg hl, List.getElem?_eq_none (by rw [List.length_set, wipe_length]; omega)]
    · rw [List.getElem?_set_ne h, wipe_get σ i vs]
      have : i ∈ v :: vs ↔ i ∈ vs := by simp [Ne.symm h]
      simp only [this]
theorem Off.wipe {us vs : List Nat} {σ σ' : L2.St} (h : Off us (wipe σ vs) σ') (hs : ∀ i ∈ us, i ∈ vs) : wipe σ' vs = L2.wipe σ vs := by
  apply List.ext_getElem?
  intro i
  rw [wipe_get, wipe_get, h.1, wipe_length]
  by_cases hi : i ∈ vs
  · rw [if_pos hi, if_pos hi]
  · rw [if_neg hi, if_neg hi, h.2 i fun z => hi (hs i z), wipe_get, if_neg hi]

/-! ### targets -/
section
variable (K : PySem.W.Frag) (ca : Nat → Addr) (g : Bool) (φ : Phi)
def tG (t : Tg) : TG := fun v σ H Q => ∃ ι S σd d E, Rep K ca ι S H ∧ RelS K ι H σd σ ∧ RelD K ι H d v ∧ wpTg g φ t d σd S (fun σd' S' => ∀ σ' ι' H', Ext K ι H ι' H' → Rep K ca ι' S' H' → RelS K ι' H' σd' σ' → Off (slots t) σ σ' → Q σ' H') E
def tGs (ts : Tgs) : TGs := fun vs σ H Q => ∃ ι S σd ds E, Rep K ca ι S H ∧ RelS K ι H σd σ ∧ RelDs K ι H ds vs ∧ wpTgs g φ ts ds σd S (fun σd' S' => ∀ σ' ι' H', Ext K ι H ι' H' → Rep K ca ι' S' H' → RelS K ι' H' σd' σ' → Off (slotsL ts) σ σ' → Q σ' H') E
end
structure SndTg (t : Tg) : Prop where
  pg : ∀ {C : Ck} {ca : Nat → Addr} {φ : Phi} {k : Nat} {X : Cx} {W : WX} {e : Expr}, PhiMono φ → Good C ca φ k X W → chkTg C t e = true → PG X e (tG X.K ca C.g φ t)
structure SndTgs (ts : Tgs) : Prop where
  pgs : ∀ {C : Ck} {ca : Nat → Addr} {φ : Phi} {k : Nat} {X : Cx} {W : WX} {es : List Expr}, PhiMono φ → Good C ca φ k X W → chkTgs C ts es = true → PGs X es (tGs X.K ca C.g φ ts) ∧ (assignEach es X.env).length = tgsLen ts ∧ (assignEach es X.env).findIdx? (·.1) = none
theorem each_of {e : Expr} (h : plainX e = true) (es : List Expr) (env : Env) : assignEach (e :: es) env = (false, assign e env) :: assignEach es env := by
  cases e <;> first | rfl | cases h
theorem _root_.L2.PG.weak {X : Cx} {e : Expr} {t t' : TG} (h : PG X e t) (i : ∀ v σ H Q, t' v σ H Q → t v σ H Q) : PG X e t' := ⟨fun pins s σ H v u Q I r q => h.run pins s σ H v u Q I r (i v σ H Q q)⟩
theorem _root_.L2.PGs.weak {X : Cx} {e : List Expr} {t t' : TGs} (h : PGs X e t) (i : ∀ v σ H Q, t' v σ H Q → t v σ H Q) : PGs X e t' := ⟨fun pins s σ H v u Q I r q => h.run pins s σ H v u Q I r (i v σ H Q q)⟩
theorem snd_name (i : Nat) : SndTg (.name i) where
  pg := fun {C ca φ k X W e} hφ G h => by
    simp only [chkTg] at h
    split at h
    · obtain ⟨h1, h2, h3⟩ := loc_ok G h
      refine (pg_name G.nd h1 h2 h3).weak fun v σ H Q q => ?_
      obtain ⟨ι, S, σd, d, E, R, r, rd, q⟩ := q
      simp only [wpTg] at q
      exact q _ ι H Ext.refl R (r.set rd i) ⟨List.length_set .., fun j hj => by rw [List.getElem?_set_ne (fun z => hj (by simp [slots, z]))]⟩
    · cases h
theorem snd_sub {o i : Ex} (So : SndE o) (Si : SndE i) : SndTg (.sub o i) where
  pg := fun {C ca φ k X W e} hφ G h => by
    simp only [chkTg] at h
    split at h
    · rename_i a b pos
      simp only [Bool.and_eq_true] at h
      refine (pg_sub (So.pe hφ G h.1.1) (Si.pe hφ G h.1.2) set_list fun v => ?_).weak fun v σ H Q q => ?_
      · have z := h.2
        cases b <;> first | rfl | cases z
      · obtain ⟨ι, S, σd, d, E, R, r, rd, q⟩ := q
        simp only [wpTg] at q
        refine tE_mk hφ R r (wpE_mono hφ o (fun _ _ q => q) (fun _ _ z => z.elim) q) fun d1 S1 ι1 H1 v1 q1 x1 R1 rv1 => ?_
        refine tE_mk hφ R1 (r.mono x1) (wpE_mono hφ i (fun _ _ q => q) (fun _ _ z => z.elim) q1) fun d2 S2 ι2 H2 v2 q2 x2 R2 rv2 => ?_
        clear q q1
        split at q2
        · rename_i l j
          split at q2
          · rename_i xs hs
            split at q2
            · rename_i n hn
              cases rv2
              obtain ⟨p, vs, rfl, e2, e3, e4⟩ := R2.lst hs (rv1.mono x2)
              refine ⟨p, vs, j, n, rfl, rfl, e3, by rw [← e4.length]; exact hn, ?_⟩
              exact q2 σ ι2 _ ((x1.trans x2).trans (Ext.wrote e3 trivial)) (R2.setLst hs e2 (e4.set ((rd.mono x1).mono x2) n)) (((r.mono x1).mono x2).mono (Ext.wrote e3 trivial)) ⟨rfl, fun _ _ => rfl⟩
            · exact q2.elim
          · exact q2.elim
        · exact q2.elim
    · cases h
theorem snd_tgnil : SndTgs .nil where
  pgs := fun {C ca φ k X W es} hφ G h => by
    simp only [chkTgs] at h
    split at h
    · refine ⟨pgs_nil.weak fun v σ H Q q => ?_, rfl, rfl⟩
      obtain ⟨ι, S, σd, ds, E, R, r, rd, q⟩ := q
      cases rd with
      | nil =>
        simp only [wpTgs] at q
        exact ⟨rfl, q σ ι H Ext.refl R r ⟨rfl, fun _ _ => rfl⟩⟩
      | cons _ _ => simp only [wpTgs] at q
    · cases h
theorem snd_tgcons {t : Tg} {ts : Tgs} (S1 : SndTg t) (S2 : SndTgs ts) : SndTgs (.cons t ts) where
  pgs := fun {C ca φ k X W es} hφ G h => by
    simp only [chkTgs] at h
    split at h
    · rename_i e es
      simp only [Bool.and_eq_true] at h
      obtain ⟨p1, p2, p3⟩ := S2.pgs hφ G h.2
      refine ⟨(pgs_cons (S1.pg hφ G h.1.1) p1 (by rw [each_of h.1.2]; rfl)).weak fun v σ H Q q => ?_, by rw [each_of h.1.2]; exact congrArg (· + 1) p2, by
        rw [each_of h.1.2, List.findIdx?_cons, p3]
        rfl⟩
      obtain ⟨ι, S, σd, ds, E, R, r, rd, q⟩ := q
      cases rd with
      | nil => simp only [wpTgs] at q
      | cons rd rds =>
        simp only [wpTgs] at q
        refine ⟨_, _, rfl, ι, S, σd, _, E, R, r, rd, wpTg_mono hφ t (fun σ1 S1 q => ?_) (fun _ _ z => z) q⟩
        intro σ' ι' H' x R' r' off
        refine ⟨ι', S1, σ1, _, E, R', r', rds.mono x, wpTgs_mono hφ ts (fun σ2 S2 q => ?_) (fun _ _ z => z) q⟩
        intro σ2' ι2 H2 x2 R2 r2 off2
        exact q σ2' ι2 H2 (x.trans x2) R2 r2 (off.trans off2)
    · cases h
theorem snd_tgtup {ts : Tgs} (S : SndTgs ts) : SndTg (.tup ts) where
  pg := fun {C ca φ k X W e} hφ G h => by
    simp only [chkTg] at h
    split at h
    · obtain ⟨p1, p2, p3⟩ := S.pgs hφ G h
      refine ⟨fun pins s σ H v u Q I rv q => ?_⟩
      obtain ⟨ι, S, σd, d, E, R, r, rd, q⟩ := q
      simp only [wpTg] at q
      split at q
      · rename_i ds hs
        obtain ⟨hl, q⟩ := q
        obtain ⟨a, vs, rfl, h3, h4⟩ := seq_of R hs rd
        have hv : vs.length = tgsLen ts := by rw [← h4.length]; exact hl
        have t : tGs X.K ca C.g φ ts vs σ H Q := ⟨ι, S, σd, ds, E, R, r, h4, q⟩
        rcases h3 with h3 | h3
        · exact (pg_lst G.calm p1 p2 p3).run pins s σ H _ u Q I rv ⟨a, vs, rfl, h3, hv, t⟩
        · exact (pg_tup G.calm p1 p2 p3).run pins s σ H _ u Q I rv ⟨a, vs, rfl, h3, hv, t⟩
      · exact q.elim
    · cases h

/-! ### comprehensions -/
theorem Good.blk {C : Ck} {ca : Nat → Addr} {φ : Phi} {k : Nat} {X : Cx} {W : WX} (G : Good C ca φ k X W) (s : Shared) (H : Hp) (scope : Scope) (D : Addr) (cl : List (Str × Addr)) (fp : List Addr) :
    Good (C.blk scope) ca φ k (X.blk s H scope (compEnvC scope cl D X.env) fp) (fun _ _ _ _ => False) where
  calm := G.calm
  nd := G.nd
  N := G.N
  sc := by
    show relS scope X.env.scope = relS scope C.sc
    rw [G.sc]
  cell := fun x h => h
  gd := G.gd
  own := PySem.PassesOwn.never
  room := G.room
  room2 := G.room2
  cls := G.cls
  takes := takes_none5
  fns := G.fns
  blt := G.blt
  exs := G.exs
  stk := fun z => by cases z
  gls := G.gls

/-- a comprehension's parts -/
theorem comp_parts {elt : Ex} {tg : Tg} {kk : ItK} {src cond : Exs} {own : List (Str × Nat)} (Se : SndE elt) (St : SndTg tg) (Ss : SndEs src) (Sc : SndEs cond) {C : Ck} {ca : Nat → Addr} {φ : Phi} {k : Nat} {X : Cx} {W : WX} {e tge it : Expr} {ifs : List Expr} {scope : Scope} {pos : Pos} {t : Bool} (hφ : PhiMono φ) (G : Good C ca φ k X W)
    (h : chkE C t (.comp elt tg kk src cond own) (.ListComp e [⟨tge, it, ifs, 0⟩] scope pos) = true) :
    PI X tge it (tI X.K ca C.g φ W kk src) ∧ BlkOk X.N X.env.scope scope own ∧ (∀ (s : Shared) (H : Hp) (D : Addr) (cl : List (Str × Addr)) (fp : List Addr), PG (X.blk s H scope (compEnvC scope cl D X.env) fp) tge (tG X.K ca C.g φ tg)) ∧
      (∀ (s : Shared) (H : Hp) (D : Addr) (cl : List (Str × Addr)) (fp : List Addr), PE (X.blk s H scope (compEnvC scope cl D X.env) fp) e (tE X.K ca C.g φ (fun _ _ _ _ => False) elt)) ∧ (∀ x, foldedSetIterable it X.env x = pure x) ∧
      ∃ tt : TT, (∀ (s : Shared) (H : Hp) (D : Addr) (cl : List (Str × Addr)) (fp : List Addr), PTs (X.blk s H scope (compEnvC scope cl D X.env) fp) ifs tt) ∧
        ∀ σ H Q, tE X.K ca C.g φ W (.comp elt tg kk src cond own) σ H Q → tLc (tI X.K ca C.g φ W kk src) (tG X.K ca C.g φ tg) tt (tE X.K ca C.g φ (fun _ _ _ _ => False) elt) (own.map (·.2)) σ H Q := by
  simp only [chkE] at h
  · simp only [Bool.and_eq_true] at h
    obtain ⟨⟨⟨⟨⟨⟨hb, hsl⟩, hit⟩, htg⟩, helt⟩, hcond⟩, hpl⟩ := h
    split at hit
    · rename_i xs hi
      have A := Ss.all hφ G hit
      have pi := snd_it hφ G hi A
      have ok : BlkOk X.N X.env.scope scope own := by
        rw [G.N, G.sc]
        exact blkOk_by hb
      have hsl : ∀ i ∈ slots tg, i ∈ own.map (·.2) := fun i hi => by
        have := List.all_eq_true.mp hsl i hi
        simpa using this
      refine ⟨pi, ok, fun s H D cl fp => St.pg (C := C.blk scope) hφ (G.blk s H scope D cl fp) htg, fun s H D cl fp => Se.pe (C := C.blk scope) hφ (G.blk s H scope D cl fp) helt, fun x => fold_of hpl _ x, ?_⟩
      -- the test
      have key : ∀ tt : TT, (∀ (s : Shared) (H : Hp) (D : Addr) (cl : List (Str × Addr)) (fp : List Addr), PTs (X.blk s H scope (compEnvC scope cl D X.env) fp) ifs tt) →
          (∀ σ H Q, (∃ ι S σd, Rep X.K ca ι S H ∧ RelS X.K ι H σd σ ∧ wpAs C.g φ cond σd S (fun bs S4 => match bs with
            | [] => ∀ ι' H', Ext X.K ι H ι' H' → Rep X.K ca ι' S4 H' → Q true H'
            | [b] => ∃ c, truth b S4 = some c ∧ ∀ ι' H', Ext X.K ι H ι' H' → Rep X.K ca ι' S4 H' → Q c H'
            | _ => False) (fun _ _ => False)) → tt σ H Q) → ∃ tt : TT, (∀ (s : Shared) (H : Hp) (D : Addr) (cl : List (Str × Addr)) (fp : List Addr), PTs (X.blk s H scope (compEnvC scope cl D X.env) fp) ifs tt) ∧
        ∀ σ H Q, tE X.K ca C.g φ W (.comp elt tg kk src cond own) σ H Q → tLc (tI X.K ca C.g φ W kk src) (tG X.K ca C.g φ tg) tt (tE X.K ca C.g φ (fun _ _ _ _ => False) elt) (own.map (·.2)) σ H Q := fun tt htt hT => by
        refine ⟨tt, htt, fun σ H Q q => ?_⟩
        obtain ⟨ι, S, σd, R, r, q⟩ := q
        simp only [wpE] at q
        refine ⟨ι, S, σd, R, r, wpAs_mono hφ src (fun ds S1 q => ?_) (fun _ _ z => z) q⟩
        split at q
        · rename_i c w hw
          refine ⟨c, w, hw, q.1, fun ι' H' J x R' okJ D hD => ?_⟩
          have q := q.2
          have R1 : Rep X.K ca (ι' ++ [D]) (S1 ++ [.lst []]) (upd H' D (.lst [])) := R'.pushLst hD .nil
          have x1 : Ext X.K ι' H' (ι' ++ [D]) (upd H' D (.lst [])) := Ext.push hD
          have hL : (ι' ++ [D])[S1.length]? = some D := by rw [← R'.len]; simp
          generalize hturn : (fun (x : CC.D) S2 (yes : CC.D → Store → Prop) (no : Store → Prop) => wpTg C.g φ tg x (wipeD σd (own.map (·.2))) S2 (fun σ2 S3 => wpAs C.g φ cond σ2 S3 (fun bs S4 => match bs with
            | [] => wpE C.g φ elt σ2 S4 yes (fun _ _ => False)
            | [b] => (match truth b S4 with
              | some true => wpE C.g φ elt σ2 S4 yes (fun _ _ => False)
              | some false => no S4
              | none => False)
            | _ => False) (fun _ _ => False)) (fun _ _ => False)) = turn at q
          have ht : ∀ (x : CC.D) S2 (yes : CC.D → Store → Prop) (no : Store → Prop), turn x S2 yes no → wpTg C.g φ tg x (wipeD σd (own.map (·.2))) S2 (fun σ2 S3 => wpAs C.g φ cond σ2 S3 (fun bs S4 => match bs with
            | [] => wpE C.g φ elt σ2 S4 yes (fun _ _ => False)
            | [b] => (match truth b S4 with
              | some true => wpE C.g φ elt σ2 S4 yes (fun _ _ => False)
              | some false => no S4
              | none => False)
            | _ => False) (fun _ _ => False)) (fun _ _ => False) := fun x S2 yes no z => by
            rw [← hturn] at z
            exact z
          refine ⟨fun i m Hh => ∃ ι2 S2, Ext X.K (ι' ++ [D]) (upd H' D (.lst [])) ι2 Hh ∧ Rep X.K ca ι2 S2 Hh ∧ m = w.xs.length - i ∧ i ≤ w.xs.length ∧ compW w S1.length (QL X.K ca Q ι H) turn (w.xs.drop i) S2,
            ⟨w.xs.length, ι' ++ [D], _, Ext.refl, R1, by simp, Nat.zero_le _, by rw [List.drop_zero]; exact q⟩, fun i m Hh hW => ?_⟩
          obtain ⟨ι2, S2, x2, R2, rfl, hi, q⟩ := hW
          have hL2 : ι2[S1.length]? = some D := x2.pre _ _ hL
          by_cases hlt : i < w.xs.length
          · rw [List.drop_eq_getElem_cons hlt] at q
            obtain ⟨wok, q⟩ := q
            obtain ⟨go, yl⟩ := (okJ ι2 Hh S2 (x1.trans x2) R2 wok).1 i _ (List.getElem?_eq_getElem hlt)
            refine .inr ⟨go, fun Hn => ∃ ι2 S2, Ext X.K (ι' ++ [D]) (upd H' D (.lst [])) ι2 Hn ∧ Rep X.K ca ι2 S2 Hn ∧ compW w S1.length (QL X.K ca Q ι H) turn (w.xs.drop (i + 1)) S2,
              fun Hn ⟨ι3, S3, a1, a2, a3⟩ => ⟨w.xs.length - (i + 1), by omega, ι3, S3, a1, a2, rfl, hlt, a3⟩, fun v H3 hy => ?_⟩
            obtain ⟨x3, R3, rv⟩ := yl v H3 hy
            have q := ht _ _ _ _ q
            refine ⟨ι2, S2, _, _, _, R3, (r.mono (((x.trans x1).trans x2).trans x3)).wipe _, rv, wpTg_mono hφ tg (fun σ2 S3 q => ?_) (fun _ _ z => z) q⟩
            intro σ' ι4 H4 x4 R4 r4 off
            refine ⟨off.wipe hsl, hT _ _ _ ⟨ι4, S3, σ2, R4, r4, wpAs_mono hφ cond (fun bs S4 q => ?_) (fun _ _ z => z) q⟩⟩
            have fin : ∀ ι5 H5, Ext X.K ι4 H4 ι5 H5 → Rep X.K ca ι5 S4 H5 → wpE C.g φ elt σ2 S4 (fun d S6 => ∃ acc, S6[S1.length]? = some (.lst acc) ∧ acc.length < sizeLine ∧ compW w S1.length (QL X.K ca Q ι H) turn (w.xs.drop (i + 1)) (S6.set S1.length (.lst (acc ++ [d])))) (fun _ _ => False) →
                tE X.K ca C.g φ (fun _ _ _ _ => False) elt σ' H5 fun y H6 => ∃ acc, H6 D = some (.lst acc) ∧ acc.length < sizeLine ∧ ∃ ι2 S2, Ext X.K (ι' ++ [D]) (upd H' D (.lst [])) ι2 (upd H6 D (.lst (acc ++ [y]))) ∧ Rep X.K ca ι2 S2 (upd H6 D (.lst (acc ++ [y]))) ∧ compW w S1.length (QL X.K ca Q ι H) turn (w.xs.drop (i + 1)) S2 := fun ι5 H5 x5 R5 q => by
              refine tE_mk hφ R5 (r4.mono x5) (wpE_mono hφ elt (fun _ _ q => q) (fun _ _ z => z.elim) q) fun d S6 ι6 H6 v6 q x6 R6 rv6 => ?_
              obtain ⟨acc, hacc, hlen, q⟩ := q
              have y6 : Ext X.K (ι' ++ [D]) (upd H' D (.lst [])) ι6 H6 := (((x2.trans x3).trans x4).trans x5).trans x6
              obtain ⟨p, us, e1, e2, e3, e4⟩ := R6.lst hacc (.ref (y6.pre _ _ hL))
              cases e1
              exact ⟨us, e3, by rw [← e4.length]; exact hlen, ι6, _, y6.trans (Ext.wrote e3 trivial), R6.setLst hacc e2 (e4.append (.cons rv6 .nil)), q⟩
            split at q
            · exact fun ι5 H5 x5 R5 => by
                rw [if_pos rfl]
                exact fin ι5 H5 x5 R5 q
            · split at q
              · rename_i hb
                exact ⟨true, hb, fun ι5 H5 x5 R5 => by
                  rw [if_pos rfl]
                  exact fin ι5 H5 x5 R5 q⟩
              · rename_i hb
                exact ⟨false, hb, fun ι5 H5 x5 R5 => by
                  rw [if_neg Bool.false_ne_true]
                  exact ⟨ι5, _, ((x2.trans x3).trans x4).trans x5, R5, q⟩⟩
              · exact q.elim
            · exact q.elim
          · have hi : i = w.xs.length := by omega
            rw [List.drop_of_length_le (by omega)] at q
            exact .inl ⟨(okJ ι2 Hh S2 (x1.trans x2) R2 q.1).2 i (by omega), q.2 ι2 Hh _ ((x.trans x1).trans x2) R2 (.ref hL2)⟩
        · exact q.elim
      cases cond with
      | nil =>
        simp only [chkCond] at hcond
        split at hcond
        · refine key tYes (fun _ _ _ _ _ => pts_nil) fun σ H Q q => ?_
          obtain ⟨ι, S, σd, R, r, q⟩ := q
          simp only [wpAs] at q
          exact q ι H Ext.refl R
        · cases hcond
      | cons m rest =>
        have hcond0 := hcond
        simp only [chkCond] at hcond
        split at hcond
        · refine key (tT X.K ca C.g φ (fun _ _ _ _ => False) m) (fun s H D cl fp => ?_) fun σ H Q q => ?_
          · rcases Sc.cond hφ (G.blk s H scope D cl fp) hcond0 with ⟨z, _⟩ | ⟨m', ec', z1, z2, pt⟩
            · cases z
            · cases z1
              cases z2
              exact pts_one pt
          · obtain ⟨ι, S, σd, R, r, q⟩ := q
            simp only [wpAs] at q
            exact ⟨ι, S, σd, R, r, wpE_mono hφ m (fun _ _ q => q) (fun _ _ z => z.elim) q⟩
        · cases hcond
    · cases hit
theorem snd_comp {elt : Ex} {tg : Tg} {kk : ItK} {src cond : Exs} {own : List (Str × Nat)} (Se : SndE elt) (St : SndTg tg) (Ss : SndEs src) (Sc : SndEs cond) : SndE (.comp elt tg kk src cond own) := .of fun {C ca φ k X W e t} hφ G h => by
  have h0 := h
  simp only [chkE] at h
  split at h
  · obtain ⟨p1, p2, p3, p4, p5, tt, p6, p7⟩ := comp_parts Se St Ss Sc hφ G h0
    exact ⟨(pe_lc G.calm G.nd p1 p2 p3 p6 p4 p5).weak p7, rfl⟩
  · cases h

/-- a comprehension of two clauses -/
theorem cond_tt {cond : Exs} (Sc : SndEs cond) {C : Ck} {ca : Nat → Addr} {φ : Phi} {k : Nat} {X : Cx} {W : WX} {ifs : List Expr} {scope : Scope} (hφ : PhiMono φ) (G : Good C ca φ k X W) (hcond : chkCond (C.blk scope) cond ifs = true) :
    ∃ tt : TT, (∀ (s : Shared) (H : Hp) (D : Addr) (cl : List (Str × Addr)) (fp : List Addr), PTs (X.blk s H scope (compEnvC scope cl D X.env) fp) ifs tt) ∧
      ∀ σ H Q, (∃ ι S σd, Rep X.K ca ι S H ∧ RelS X.K ι H σd σ ∧ wpAs C.g φ cond σd S (fun bs S4 => match bs with
            | [] => ∀ ι' H', Ext X.K ι H ι' H' → Rep X.K ca ι' S4 H' → Q true H'
            | [b] => ∃ c, truth b S4 = some c ∧ ∀ ι' H', Ext X.K ι H ι' H' → Rep X.K ca ι' S4 H' → Q c H'
            | _ => False) (fun _ _ => False)) → tt σ H Q := by
  cases cond with
  | nil =>
    simp only [chkCond] at hcond
    split at hcond
    · refine ⟨tYes, fun _ _ _ _ _ => pts_nil, fun σ H Q q => ?_⟩
      obtain ⟨ι, S, σd, R, r, q⟩ := q
      simp only [wpAs] at q
      exact q ι H Ext.refl R
    · cases hcond
  | cons m rest =>
    have hcond0 := hcond
    simp only [chkCond] at hcond
    split at hcond
    · refine ⟨tT X.K ca C.g φ (fun _ _ _ _ => False) m, fun s H D cl fp => ?_, fun σ H Q q => ?_⟩
      · rcases Sc.cond hφ (G.blk s H scope D cl fp) hcond0 with ⟨z, _⟩ | ⟨m', ec', z1, z2, pt⟩
        · cases z
        · cases z1
          cases z2
          exact pts_one pt
      · obtain ⟨ι, S, σd, R, r, q⟩ := q
        simp only [wpAs] at q
        exact ⟨ι, S, σd, R, r, wpE_mono hφ m (fun _ _ q => q) (fun _ _ z => z.elim) q⟩
    · cases hcond
theorem snd_comp2 {elt : Ex} {tg tg1 : Tg} {kk kk1 : ItK} {src src1 cond : Exs} {own own1 : List (Str × Nat)} (Se : SndE elt) (St : SndTg tg) (Ss : SndEs src) (St1 : SndTg tg1) (Ss1 : SndEs src1) (Sc : SndEs cond) : SndE (.comp2 elt tg kk src tg1 kk1 src1 cond own own1) := .of fun {C ca φ k X W e t} hφ G h => by
  simp only [chkE] at h
  split at h
  · rename_i e tge it tge1 it1 ifs1 scope pos
    simp only [Bool.and_eq_true] at h
    obtain ⟨⟨⟨⟨⟨⟨⟨⟨⟨⟨⟨hb, hsl⟩, hsl1⟩, hsub⟩, hit⟩, hit1⟩, htg⟩, htg1⟩, helt⟩, hcond⟩, hpl⟩, hpl1⟩ := h
    split at hit
    · rename_i xs hi
      split at hit1
      · rename_i xs1 hi1
        have A := Ss.all hφ G hit
        have pi := snd_it hφ G hi A
        have ok : BlkOk X.N X.env.scope scope own := by
          rw [G.N, G.sc]
          exact blkOk_by hb
        have mem : ∀ {l m : List Nat}, (l.all fun i => m.contains i) = true → ∀ i ∈ l, i ∈ m := fun {l m} z i hi => by
          have := List.all_eq_true.mp z i hi
          simpa using this
        have hsl : ∀ i ∈ slots tg, i ∈ own.map (·.2) := mem hsl
        have hsl1 : ∀ i ∈ slots tg1, i ∈ own1.map (·.2) := mem hsl1
        have hsub : ∀ i ∈ own1.map (·.2), i ∈ own.map (·.2) := mem hsub
        obtain ⟨tt, htt, hT⟩ := cond_tt Sc hφ G hcond
        refine ⟨(pe_lc2 (tt := tYes) (wi := tI X.K ca C.g φ W kk src) (g := tG X.K ca C.g φ tg) (te := tE X.K ca C.g φ (fun _ _ _ _ => False) elt) (wi1 := tI X.K ca C.g φ (fun _ _ _ _ => False) kk1 src1) (g1 := tG X.K ca C.g φ tg1) G.calm G.nd pi ok hsub (fun s H D cl fp => St.pg (C := C.blk scope) hφ (G.blk s H scope D cl fp) htg) (fun _ _ _ _ _ => pts_nil)
          (fun s H D cl fp => snd_it (C := C.blk scope) hφ (G.blk s H scope D cl fp) hi1 (Ss1.all (C := C.blk scope) hφ (G.blk s H scope D cl fp) hit1)) (fun s H D cl fp => St1.pg (C := C.blk scope) hφ (G.blk s H scope D cl fp) htg1) htt
          (fun s H D cl fp => Se.pe (C := C.blk scope) hφ (G.blk s H scope D cl fp) helt) (fun x => fold_of hpl _ x) (fun env x => fold_of hpl1 _ x)).weak fun σ H Q q => ?_, rfl⟩
        obtain ⟨ι, S, σd, R, r, q⟩ := q
        simp only [wpE] at q
        refine ⟨ι, S, σd, R, r, wpAs_mono hφ src (fun ds S1 q => ?_) (fun _ _ z => z) q⟩
        split at q
        · rename_i c w hw
          refine ⟨c, w, hw, q.1, fun ι' H' J x R' okJ D hD => ?_⟩
          have q := q.2
          have R1 : Rep X.K ca (ι' ++ [D]) (S1 ++ [.lst []]) (upd H' D (.lst [])) := R'.pushLst hD .nil
          have x1 : Ext X.K ι' H' (ι' ++ [D]) (upd H' D (.lst [])) := Ext.push hD
          have hL : (ι' ++ [D])[S1.length]? = some D := by rw [← R'.len]; simp
          generalize hturn : (fun (x : CC.D) S2 (more : Store → Prop) => wpTg C.g φ tg x (wipeD σd (own.map (·.2))) S2 (fun σ2 S3 => wpAs C.g φ src1 σ2 S3 (fun ds1 S4 => match iterR kk1 ds1 S4 with
            | some (c1, w1) => c1 ∧ compW w1 S1.length (fun _ S5 => more S5) (fun x1 S5 yes no => wpTg C.g φ tg1 x1 (wipeD σ2 (own1.map (·.2))) S5 (fun σ3 S6 => wpAs C.g φ cond σ3 S6 (fun bs S7 => match bs with
                | [] => wpE C.g φ elt σ3 S7 yes (fun _ _ => False)
                | [b] => (match truth b S7 with
                  | some true => wpE C.g φ elt σ3 S7 yes (fun _ _ => False)
                  | some false => no S7
                  | none => False)
                | _ => False) (fun _ _ => False)) (fun _ _ => False)) w1.xs S4
            | none => False) (fun _ _ => False)) (fun _ _ => False)) = turn at q
          have ht : ∀ (x : CC.D) S2 (more : Store → Prop), turn x S2 more → wpTg C.g φ tg x (wipeD σd (own.map (·.2))) S2 (fun σ2 S3 => wpAs C.g φ src1 σ2 S3 (fun ds1 S4 => match iterR kk1 ds1 S4 with
            | some (c1, w1) => c1 ∧ compW w1 S1.length (fun _ S5 => more S5) (fun x1 S5 yes no => wpTg C.g φ tg1 x1 (wipeD σ2 (own1.map (·.2))) S5 (fun σ3 S6 => wpAs C.g φ cond σ3 S6 (fun bs S7 => match bs with
                | [] => wpE C.g φ elt σ3 S7 yes (fun _ _ => False)
                | [b] => (match truth b S7 with
                  | some true => wpE C.g φ elt σ3 S7 yes (fun _ _ => False)
                  | some false => no S7
                  | none => False)
                | _ => False) (fun _ _ => False)) (fun _ _ => False)) w1.xs S4
            | none => False) (fun _ _ => False)) (fun _ _ => False) := fun x S2 more z => by
            rw [← hturn] at z
            exact z
          refine ⟨fun i m Hh => ∃ ι2 S2, Ext X.K (ι' ++ [D]) (upd H' D (.lst [])) ι2 Hh ∧ Rep X.K ca ι2 S2 Hh ∧ m = w.xs.length - i ∧ i ≤ w.xs.length ∧ comp2W w S1.length (QL X.K ca Q ι H) turn (w.xs.drop i) S2,
            ⟨w.xs.length, ι' ++ [D], _, Ext.refl, R1, by simp, Nat.zero_le _, by rw [List.drop_zero]; exact q⟩, fun i m Hh hW => ?_⟩
          obtain ⟨ι2, S2, x2, R2, rfl, hi, q⟩ := hW
          have hL2 : ι2[S1.length]? = some D := x2.pre _ _ hL
          by_cases hlt : i < w.xs.length
          · rw [List.drop_eq_getElem_cons hlt] at q
            obtain ⟨wok, q⟩ := q
            obtain ⟨go, yl⟩ := (okJ ι2 Hh S2 (x1.trans x2) R2 wok).1 i _ (List.getElem?_eq_getElem hlt)
            refine .inr ⟨go, fun Hn => ∃ ι2 S2, Ext X.K (ι' ++ [D]) (upd H' D (.lst [])) ι2 Hn ∧ Rep X.K ca ι2 S2 Hn ∧ comp2W w S1.length (QL X.K ca Q ι H) turn (w.xs.drop (i + 1)) S2,
              fun Hn ⟨ι3, S3, a1, a2, a3⟩ => ⟨w.xs.length - (i + 1), by omega, ι3, S3, a1, a2, rfl, hlt, a3⟩, fun v H3 hy => ?_⟩
            obtain ⟨x3, R3, rv⟩ := yl v H3 hy
            have q := ht _ _ _ q
            refine ⟨ι2, S2, _, _, _, R3, (r.mono (((x.trans x1).trans x2).trans x3)).wipe _, rv, wpTg_mono hφ tg (fun σ2 S3 q => ?_) (fun _ _ z => z) q⟩
            intro σ' ι4 H4 x4 R4 r4 off
            refine ⟨off.wipe hsl, ?_⟩
            show tYes σ' H4 _
            unfold tYes
            dsimp only
            rw [if_pos rfl]
            refine ⟨ι4, S3, σ2, R4, r4, wpAs_mono hφ src1 (fun ds1 S4 q => ?_) (fun _ _ z => z.elim) q⟩
            split at q
            · rename_i c1 w1 hw1
              refine ⟨c1, w1, hw1, q.1, fun ι5 H5 J1 x5 R5 okJ1 => ?_⟩
              have q := q.2
              have y5 : Ext X.K (ι' ++ [D]) (upd H' D (.lst [])) ι5 H5 := ((x2.trans x3).trans x4).trans x5
              generalize hturn1 : (fun (x1 : CC.D) S5 (yes : CC.D → Store → Prop) (no : Store → Prop) => wpTg C.g φ tg1 x1 (wipeD σ2 (own1.map (·.2))) S5 (fun σ3 S6 => wpAs C.g φ cond σ3 S6 (fun bs S7 => match bs with
                | [] => wpE C.g φ elt σ3 S7 yes (fun _ _ => False)
                | [b] => (match truth b S7 with
                  | some true => wpE C.g φ elt σ3 S7 yes (fun _ _ => False)
                  | some false => no S7
                  | none => False)
                | _ => False) (fun _ _ => False)) (fun _ _ => False)) = turn1 at q
              have ht1 : ∀ (x1 : CC.D) S5 (yes : CC.D → Store → Prop) (no : Store → Prop), turn1 x1 S5 yes no → wpTg C.g φ tg1 x1 (wipeD σ2 (own1.map (·.2))) S5 (fun σ3 S6 => wpAs C.g φ cond σ3 S6 (fun bs S7 => match bs with
                | [] => wpE C.g φ elt σ3 S7 yes (fun _ _ => False)
                | [b] => (match truth b S7 with
                  | some true => wpE C.g φ elt σ3 S7 yes (fun _ _ => False)
                  | some false => no S7
                  | none => False)
                | _ => False) (fun _ _ => False)) (fun _ _ => False) := fun x S2 yes no z => by
                rw [← hturn1] at z
                exact z
              refine ⟨fun j m Hh => ∃ ι6 S6, Ext X.K ι5 H5 ι6 Hh ∧ Rep X.K ca ι6 S6 Hh ∧ m = w1.xs.length - j ∧ j ≤ w1.xs.length ∧ compW w1 S1.length (fun _ S5 => comp2W w S1.length (QL X.K ca Q ι H) turn (w.xs.drop (i + 1)) S5) turn1 (w1.xs.drop j) S6,
                ⟨w1.xs.length, ι5, S4, Ext.refl, R5, by simp, Nat.zero_le _, by rw [List.drop_zero]; exact q⟩, fun j m Hh hW => ?_⟩
              obtain ⟨ι6, S6, x6, R6, rfl, hj, q⟩ := hW
              by_cases hlt1 : j < w1.xs.length
              · rw [List.drop_eq_getElem_cons hlt1] at q
                obtain ⟨wok1, q⟩ := q
                obtain ⟨go1, yl1⟩ := (okJ1 ι6 Hh S6 x6 R6 wok1).1 j _ (List.getElem?_eq_getElem hlt1)
                refine .inr ⟨go1, fun Hn => ∃ ι7 S7, Ext X.K ι5 H5 ι7 Hn ∧ Rep X.K ca ι7 S7 Hn ∧ compW w1 S1.length (fun _ S5 => comp2W w S1.length (QL X.K ca Q ι H) turn (w.xs.drop (i + 1)) S5) turn1 (w1.xs.drop (j + 1)) S7,
                  fun Hn ⟨ι3, S3, a1, a2, a3⟩ => ⟨w1.xs.length - (j + 1), by omega, ι3, S3, a1, a2, rfl, hlt1, a3⟩, fun v1 H7 hy1 => ?_⟩
                obtain ⟨x7, R7, rv7⟩ := yl1 v1 H7 hy1
                have q := ht1 _ _ _ _ q
                refine ⟨ι6, S6, _, _, _, R7, (r4.mono ((x5.trans x6).trans x7)).wipe _, rv7, wpTg_mono hφ tg1 (fun σ3 S7 q => ?_) (fun _ _ z => z) q⟩
                intro σ8 ι8 H8 x8 R8 r8 off1
                refine ⟨off1.wipe hsl1, hT _ _ _ ⟨ι8, S7, σ3, R8, r8, wpAs_mono hφ cond (fun bs S8 q => ?_) (fun _ _ z => z) q⟩⟩
                have fin : ∀ ι9 H9, Ext X.K ι8 H8 ι9 H9 → Rep X.K ca ι9 S8 H9 → wpE C.g φ elt σ3 S8 (fun d S6 => ∃ acc, S6[S1.length]? = some (.lst acc) ∧ acc.length < sizeLine ∧ compW w1 S1.length (fun _ S5 => comp2W w S1.length (QL X.K ca Q ι H) turn (w.xs.drop (i + 1)) S5) turn1 (w1.xs.drop (j + 1)) (S6.set S1.length (.lst (acc ++ [d])))) (fun _ _ => False) →
                    tE X.K ca C.g φ (fun _ _ _ _ => False) elt σ8 H9 fun y H6 => ∃ acc, H6 D = some (.lst acc) ∧ acc.length < sizeLine ∧ ∃ ι7 S7, Ext X.K ι5 H5 ι7 (upd H6 D (.lst (acc ++ [y]))) ∧ Rep X.K ca ι7 S7 (upd H6 D (.lst (acc ++ [y]))) ∧ compW w1 S1.length (fun _ S5 => comp2W w S1.length (QL X.K ca Q ι H) turn (w.xs.drop (i + 1)) S5) turn1 (w1.xs.drop (j + 1)) S7 := fun ι9 H9 x9 R9 q => by
                  refine tE_mk hφ R9 (r8.mono x9) (wpE_mono hφ elt (fun _ _ q => q) (fun _ _ z => z.elim) q) fun d S10 ι10 H10 v10 q x10 R10 rv10 => ?_
                  obtain ⟨acc, hacc, hlen, q⟩ := q
                  have z10 : Ext X.K ι5 H5 ι10 H10 := (((x6.trans x7).trans x8).trans x9).trans x10
                  obtain ⟨p, us, e1, e2, e3, e4⟩ := R10.lst hacc (.ref ((y5.trans z10).pre _ _ hL))
                  cases e1
                  exact ⟨us, e3, by rw [← e4.length]; exact hlen, ι10, _, z10.trans (Ext.wrote e3 trivial), R10.setLst hacc e2 (e4.append (.cons rv10 .nil)), q⟩
                split at q
                · exact fun ι9 H9 x9 R9 => by
                    rw [if_pos rfl]
                    exact fin ι9 H9 x9 R9 q
                · split at q
                  · rename_i hb
                    exact ⟨true, hb, fun ι9 H9 x9 R9 => by
                      rw [if_pos rfl]
                      exact fin ι9 H9 x9 R9 q⟩
                  · rename_i hb
                    exact ⟨false, hb, fun ι9 H9 x9 R9 => by
                      rw [if_neg Bool.false_ne_true]
                      exact ⟨ι9, _, ((x6.trans x7).trans x8).trans x9, R9, q⟩⟩
                  · exact q.elim
                · exact q.elim
              · have hj : j = w1.xs.length := by omega
                rw [show w1.xs.drop j = [] from List.drop_of_length_le (by omega)] at q
                exact .inl ⟨(okJ1 ι6 Hh S6 x6 R6 q.1).2 j (by omega), ι6, S6, y5.trans x6, R6, q.2⟩
            · exact q.elim
          · have hi : i = w.xs.length := by omega
            rw [List.drop_of_length_le (by omega)] at q
            exact .inl ⟨(okJ ι2 Hh S2 (x1.trans x2) R2 q.1).2 i (by omega), q.2 ι2 Hh _ ((x.trans x1).trans x2) R2 (.ref hL2)⟩
        · exact q.elim
      · cases hit1
    · cases hit
  · cases h

mutual
theorem sndE : ∀ m : Ex, SndE m
  | .var i => snd_var i
  | .const d => snd_const d
  | .glob x d => snd_glob x d
  | .prim p es => snd_prim (sndEs es)
  | .meth p o es => snd_meth (sndE o) (sndEs es)
  | .notE a => snd_not (sndE a)
  | .fld cs o x => snd_fld (sndE o)
  | .prop tb o x => snd_prop (sndE o)
  | .eqm neg tb es => snd_eqm (sndEs es)
  | .isM c x o => snd_isM (sndE o)
  | .make c f es => snd_make (sndEs es)
  | .makek c f es ks kes perm => snd_makek (sndEs es) (sndEs kes)
  | .cut a b c => snd_cut (sndE a) (sndE b) (sndE c)
  | .andE a b => snd_and (sndE a) (sndE b)
  | .orE a b => snd_or (sndE a) (sndE b)
  | .one a => snd_one (sndE a)
  | .ite c a b => snd_ite (sndE c) (sndE a) (sndE b)
  | .chain op op' a b c => snd_chain (sndE a) (sndE b) (sndE c)
  | .call f es => snd_call (sndEs es)
  | .callk f es ks kes perm => snd_callk (sndEs es) (sndEs kes)
  | .comp elt tg k src cond own => snd_comp (sndE elt) (sndTg tg) (sndEs src) (sndEs cond)
  | .comp2 elt tg k src tg1 k1 src1 cond own own1 => snd_comp2 (sndE elt) (sndTg tg) (sndEs src) (sndTg tg1) (sndEs src1) (sndEs cond)
theorem sndEs : ∀ ms : Exs, SndEs ms
  | .nil => snd_nil
  | .cons a r => snd_cons (sndE a) (sndEs r)
theorem sndTg : ∀ t : Tg, SndTg t
  | .name i => snd_name i
  | .tup ts => snd_tgtup (sndTgs ts)
  | .sub o i => snd_sub (sndE o) (sndE i)
theorem sndTgs : ∀ ts : Tgs, SndTgs ts
  | .nil => snd_tgnil
  | .cons a r => snd_tgcons (sndTg a) (sndTgs r)
end
end CC
/-! Statements. -/
namespace CC
open L2 PySem PySem.Spec PyProof.Rows

/-! ### which stores are exchanged -/
/-- a target that is no local name -/
def notLoc (sc : Scope) : Expr → Bool
  | .Name id _ => !(decide (sc.names.lookup id = some .local))
  | _ => true
/-- a tuple to a tuple whose stores go as they stand -/
def swNone (sc : Scope) (tg e : Expr) : Bool := match tg, e with
  | .Tuple ts _ _, .Tuple vs _ _ => !(ts.length == 2 || ts.length == 3) || ts.any (notLoc sc) || vs.all (foldedForSure 8)
  | .List _ _, _ => false
  | _, _ => true
theorem names_lt (env : Env) (line : Nat) (ts : List Expr) (h : ts.any (notLoc env.scope) = true) : (ts.filterMap fun
    | .Name id pos => if env.kindOf id == some .local && pos.line == line then some id else none
    | _ => none).length < ts.length := by
  induction ts with
  | nil => cases h
  | cons t r ih =>
    have le : ∀ l : List Expr, (l.filterMap fun
        | .Name id pos => if env.kindOf id == some .local && pos.line == line then some id else none
        | _ => none).length ≤ l.length := fun l => List.length_filterMap_le _ _
    rw [List.any_cons] at h
    cases t with
    | Name id pos =>
      by_cases hk : env.scope.names.lookup id = some .local
      · have h : r.any (notLoc env.scope) = true := by simpa [notLoc, hk] using h
        have := ih h
        rw [List.filterMap_cons]
        split
        · rw [List.length_cons]; omega
        · rw [List.length_cons, List.length_cons]; omega
      · have e : (if env.kindOf id == some .local && pos.line == line then some id else none) = none := by
          have k : env.kindOf id ≠ some .local := hk
          rw [if_neg]
          simp [k]
        rw [List.filterMap_cons]
        dsimp only
        rw [e]
        exact Nat.lt_succ_of_le (le r)
    | _ =>
      rw [List.filterMap_cons]
      exact Nat.lt_succ_of_le (le r)
theorem sw_none {tg e : Expr} (env : Env) (h : swNone env.scope tg e = true) : swappedStores [tg] e env = pure none := by
  unfold swappedStores
  unfold swNone at h
  cases tg with
  | Tuple ts k p =>
    cases e with
    | Tuple vs k2 p2 =>
      dsimp only at h ⊢
      simp only [Bool.or_eq_true, Bool.not_eq_true'] at h
      split
      · rfl
      · rename_i h1
        split
        · rfl
        · split
          · rfl
          · rename_i h3
            split
            · rfl
            · rename_i h4
              exfalso
              rcases h with (h | h) | h
              · apply h1
                rw [h]
                rfl
              · apply h3
                have z := names_lt env ((ts.head?.map (·.pos.line)).getD 0) ts h
                rw [Bool.or_eq_true]
                refine .inl (bne_iff_ne.mpr fun q => ?_)
                exact absurd (q ▸ z) (Nat.lt_irrefl _)
              · exact h4 h
    | _ => rfl
  | List ts p => cases h
  | _ => rfl
theorem blockF {env : Env} (h : env.scope.kind = .function) : env.blockKind = .function := by
  unfold Env.blockKind
  rw [h]
  rfl
theorem beq_loc : (some NameKind.local == some NameKind.local) = true := by decide
theorem dups2 {x y : Str} (h : (y == x) = false) : ([x, y] : List Str).eraseDups = [x, y] := by
  rw [List.eraseDups_cons]
  have : (List.filter (fun b => !b == x) [y]) = [y] := by simp [List.filter, h]
  rw [this]
  rfl
theorem dups3 {x y z : Str} (h : (y == x) = false) (h2 : (z == x) = false) (h3 : (z == y) = false) : ([x, y, z] : List Str).eraseDups = [x, y, z] := by
  rw [List.eraseDups_cons]
  have : (List.filter (fun b => !b == x) [y, z]) = [y, z] := by simp [List.filter, h, h2]
  rw [this, dups2 h3]
theorem sw_par2 {x y : Str} {px py pt pt2 : Pos} {kt k2 : Nat} {a b : Expr} {env : Env} (hk : env.scope.kind = .function) (hx : env.scope.names.lookup x = some .local) (hy : env.scope.names.lookup y = some .local) (hxy : (y == x) = false) (hl : (py.line == px.line) = true)
    (hp : [a, b].all plainX = true) (h1 : [a, b].all (foldedForSure 8) = false) (h2 : [a, b].all (constantsAlone 8) = false) : swappedStores [.Tuple [.Name x px, .Name y py] kt pt] (.Tuple [a, b] k2 pt2) env = pure (some [x, y]) := by
  have kx : env.kindOf x = some .local := hx
  have ky : env.kindOf y = some .local := hy
  have e2 : (px.line == px.line) = true := by simp
  unfold swappedStores
  dsimp only
  split
  · rename_i z
    rw [blockF hk] at z
    cases z
  · split
    · rename_i z
      obtain ⟨v, hv, hs⟩ := List.any_eq_true.mp z
      have hq := List.all_eq_true.mp hp v hv
      exfalso
      cases v <;> first | (cases hs; done) | (cases hq; done)
    · simp only [List.head?, Option.map, Option.getD, Expr.pos, List.filterMap, kx, ky, hl, e2, beq_loc, Bool.and_self, if_true, h1, h2, dups2 hxy]
      rfl
theorem sw_par3 {x y z : Str} {px py pz pt pt2 : Pos} {kt k2 : Nat} {a b c : Expr} {env : Env} (hk : env.scope.kind = .function) (hx : env.scope.names.lookup x = some .local) (hy : env.scope.names.lookup y = some .local) (hz : env.scope.names.lookup z = some .local) (hxy : (y == x) = false) (hxz : (z == x) = false) (hyz : (z == y) = false) (hl : (py.line == px.line) = true) (hl2 : (pz.line == px.line) = true)
    (hp : [a, b, c].all plainX = true) (h1 : [a, b, c].all (foldedForSure 8) = false) (h2 : [a, b, c].all (constantsAlone 8) = false) : swappedStores [.Tuple [.Name x px, .Name y py, .Name z pz] kt pt] (.Tuple [a, b, c] k2 pt2) env = pure (some [x, y, z]) := by
  have kx : env.kindOf x = some .local := hx
  have ky : env.kindOf y = some .local := hy
  have kz : env.kindOf z = some .local := hz
  have e2 : (px.line == px.line) = true := by simp
  unfold swappedStores
  dsimp only
  split
  · rename_i z
    rw [blockF hk] at z
    cases z
  · split
    · rename_i z
      obtain ⟨v, hv, hs⟩ := List.any_eq_true.mp z
      have hq := List.all_eq_true.mp hp v hv
      exfalso
      cases v <;> first | (cases hs; done) | (cases hq; done)
    · simp only [List.head?, Option.map, Option.getD, Expr.pos, List.filterMap, kx, ky, kz, hl, hl2, e2, beq_loc, Bool.and_self, if_true, h1, h2, dups3 hxy hxz hyz]
      rfl
theorem sw_no {tg e : Expr} (line : Nat) (env : Env) (h : noComp e = true ∨ notLoc env.scope tg = true) : swapsWithSole [tg] e line env = pure false := by
  show swapsWith e (some tg) line env = pure false
  unfold swapsWith
  rcases h with h | h
  · cases e <;> first | rfl | cases h
  · cases tg with
    | Name y p =>
      have h : ¬ env.scope.names.lookup y = some .local := by simpa [notLoc] using h
      have k : (env.kindOf y == some .local) = false := by
        have k : env.kindOf y ≠ some .local := h
        simp [k]
      cases e <;> first | rfl | simp only [k, Bool.and_false, Bool.false_and]
    | _ => cases e <;> rfl
theorem sw_attr (e a : Expr) (y : Str) (p : Pos) (line : Nat) (env : Env) : swapsWith e (some (.Attribute a y p)) line env = pure false := by
  unfold swapsWith
  cases e <;> rfl
theorem sw_drop {e : Expr} (h : noComp e = true) (line : Nat) (env : Env) : swapsWith e none line env = pure false := by
  unfold swapsWith
  cases e <;> first | rfl | cases h

/-! ### the check -/
def isCompE : Ex → Bool
  | .comp _ _ _ _ _ _ => true
  | _ => false
def chkHS (C : Ck) (i : Nat) : Hs → List Stmt → Bool
  | .set j a r, s => (match s with
    | .Assign [.Name x px] e _ :: ss => C.locL j x && !(j == i) && chkH C i false a e && noComp e && swNone C.sc (.Name x px) e && chkHS C i r ss
    | _ => false)
  | .ret a, s => (match s with
    | [.Return (some e) _] => chkH C i false a e
    | _ => false)
mutual
def chkS (C : Ck) : Sm → Stmt → Bool
  | .expr m, s => (match s with
    | .Expr e _ => chkE C false m e && noComp e
    | _ => false)
  | .asg t m, s => (match s with
    | .Assign [tg] e _ => chkTg C t tg && chkE C false m e && plainX tg && (noComp e || notLoc C.sc tg) && swNone C.sc tg e
    | _ => false)
  | .setc i m, s => (match s with
    | .Assign [.Name y py] (.ListComp e gs scope pos) _ => chkE C false m (.ListComp e gs scope pos) && C.locL i y && (match C.sc.kind with
      | .function => true
      | _ => false) && (py.line == pos.line) && !(scope.names.any fun (n, k) => n == y && (k == .local || k == .cell)) && isCompE m
    | _ => false)
  | .par2 i j es, s => (match s with
    | .Assign [.Tuple [.Name x px, .Name y py] kt pt] (.Tuple [a, b] k2 pt2) _ => (C.locL i x && C.locL j y && (match C.sc.kind with
      | .function => true
      | _ => false) && !(y == x) && !(i == j) && (py.line == px.line) && chkEs C es [a, b] && [a, b].all plainX && !([a, b].all (foldedForSure 8)) && !([a, b].all (constantsAlone 8))) || (chkTg C (.tup (.cons (.name i) (.cons (.name j) .nil))) (.Tuple [.Name x px, .Name y py] kt pt) && chkEs C es [a, b] && swNone C.sc (.Tuple [.Name x px, .Name y py] kt pt) (.Tuple [a, b] k2 pt2))
    | _ => false)
  | .par3 i j l es, s => (match s with
    | .Assign [.Tuple [.Name x px, .Name y py, .Name z pz] _ _] (.Tuple [a, b, c] _ _) _ => C.locL i x && C.locL j y && C.locL l z && (match C.sc.kind with
      | .function => true
      | _ => false) && !(y == x) && !(z == x) && !(z == y) && !(i == j) && !(i == l) && !(j == l) && (py.line == px.line) && (pz.line == px.line) && chkEs C es [a, b, c] && [a, b, c].all plainX && !([a, b, c].all (foldedForSure 8)) && !([a, b, c].all (constantsAlone 8))
    | _ => false)
  | .aug i op m, s => (match s with
    | .AugAssign (.Name x _) o e _ => C.loc i x && decide (op = o) && chkE C false m e
    | _ => false)
  | .ret m, s => (match s with
    | .Return (some e) _ => chkE C false m e
    | _ => false)
  | .retN, s => (match s with
    | .Return none _ => true
    | _ => false)
  | .ifs c a b, s => (match s with
    | .If x y z _ => chkE C true c x && chkSs C a y && chkSs C b z
    | _ => false)
  | .whil c b, s => (match s with
    | .While x y [] _ => chkE C true c x && chkSs C b y
    | _ => false)
  | .fors t k src b, s => (match s with
    | .For tg it y [] _ => (match itArgs C k tg it with
      | some es => chkEs C src es
      | none => false) && chkTg C t tg && chkSs C b y && plainX it
    | _ => false)
  | .setf cs o x m, s => (match s with
    | .Assign [.Attribute a y _] e _ => decide (x = y) && chkE C false m e && chkE C false o a && cs.all fun c => match C.cls c with
      | some cl => cl.fields.any fun z => decide (z = x)
      | none => false
    | _ => false)
  | .pass, s => (match s with
    | .Pass _ => true
    | _ => false)
  | .rais c m, s => (match s with
    | .Raise (some (.Call (.Name x _) [e] [] _)) none _ => C.exs c && decide (x = exNm c) && C.gl x && chkE C false m e && plainX e
    | _ => false)
  | .tryr i cs b h, s => (match s with
    | .Try y [.ExceptHandler (some (.Name x _)) (some n) (s0 :: suite) _] [] [] _ => C.top && decide (x = ("ChainError" : Str)) && C.gl x && C.exs 500000 && cs.all C.exs && C.locL i n && chkSs C b y && chkHS C i h (s0 :: suite)
    | _ => false)
  | .never, _ => true
def chkSs (C : Ck) : Sms → List Stmt → Bool
  | .nil, s => (match s with
    | [] => true
    | _ => false)
  | .cons m r, s => (match s with
    | e :: es => chkS C m e && chkSs C r es
    | _ => false)
end
theorem locL_ok {C : Ck} {ca : Nat → Addr} {φ : Phi} {k : Nat} {X : Cx} {W : WX} (G : Good C ca φ k X W) {i : Nat} {x : Str} (h : C.locL i x = true) : X.N[i]? = some x ∧ X.env.scope.names.lookup x = some .local := by
  unfold Ck.locL at h
  simp only [Bool.and_eq_true, decide_eq_true_eq] at h
  rw [G.N, G.sc]
  exact h
theorem kind_ok {C : Ck} {ca : Nat → Addr} {φ : Phi} {k : Nat} {X : Cx} {W : WX} (G : Good C ca φ k X W) (h : (match C.sc.kind with
      | .function => true
      | _ => false) = true) : X.env.scope.kind = .function := by
  rw [G.sc]
  split at h
  · assumption
  · cases h

/-! ### readings -/
def ED (K : PySem.W.Frag) (ca : Nat → Addr) (W : WX) (D : Ends) (ι : List Addr) (H : Hp) : EndsD where
  nx := fun σd S => ∀ σ ι' H', Ext K ι H ι' H' → Rep K ca ι' S H' → RelS K ι' H' σd σ → D.nx σ H'
  rt := QL K ca D.rt ι H
  bk := fun σd S => ∀ σ ι' H', Ext K ι H ι' H' → Rep K ca ι' S H' → RelS K ι' H' σd σ → D.bk σ H'
  ct := fun σd S => ∀ σ ι' H', Ext K ι H ι' H' → Rep K ca ι' S H' → RelS K ι' H' σd σ → D.ct σ H'
  ex := fun x σd S => ∀ σ ι' H' dd v, Ext K ι H ι' H' → Rep K ca ι' S H' → RelS K ι' H' σd σ → RelD K ι' H' x.2 v → H' dd = some (.xd [("value", v)]) → W (.ref (ca x.1)) (some dd) σ H'
def tS (K : PySem.W.Frag) (ca : Nat → Addr) (g : Bool) (φ : Phi) (W : WX) (m : Sm) : TS := fun D σ H => ∃ ι S σd, Rep K ca ι S H ∧ RelS K ι H σd σ ∧ wpS g φ m (ED K ca W D ι H) σd S
def tSs (K : PySem.W.Frag) (ca : Nat → Addr) (g : Bool) (φ : Phi) (W : WX) (m : Sms) : TS := fun D σ H => ∃ ι S σd, Rep K ca ι S H ∧ RelS K ι H σd σ ∧ wpSs g φ m (ED K ca W D ι H) σd S
theorem ED.of {K : PySem.W.Frag} {ca : Nat → Addr} {W : WX} {D : Ends} {ι ι' : List Addr} {H H' : Hp} (x : Ext K ι H ι' H') : (ED K ca W D ι H).Le (ED K ca W D ι' H') where
  nx := fun _ _ h σ ι2 H2 y => h σ ι2 H2 (x.trans y)
  rt := fun _ _ h => h.of x
  bk := fun _ _ h σ ι2 H2 y => h σ ι2 H2 (x.trans y)
  ct := fun _ _ h σ ι2 H2 y => h σ ι2 H2 (x.trans y)
  ex := fun _ _ _ h σ ι2 H2 dd v y => h σ ι2 H2 dd v (x.trans y)
theorem ED.exl {K : PySem.W.Frag} {ca : Nat → Addr} {W : WX} {D : Ends} {ι : List Addr} {H : Hp} {σd : Sd} {σ : L2.St} (r : RelS K ι H σd σ) : ∀ x S1, (ED K ca W D ι H).ex x σd S1 → EL K ca W σ ι H x S1 :=
  fun x S1 h ι' H' dd v y R rv hd => h σ ι' H' dd v y R (r.mono y) rv hd
theorem _root_.L2.PS.weak {X : Cx} {e : Stmt} {t t' : TS} (h : PS X e t) (i : ∀ D σ H, t' D σ H → t D σ H) : PS X e t' := ⟨fun pins s σ H D I q => h.run pins s σ H D I (i D σ H q)⟩
theorem _root_.L2.PSs.weak {X : Cx} {e : List Stmt} {t t' : TS} (h : PSs X e t) (i : ∀ D σ H, t' D σ H → t D σ H) : PSs X e t' := ⟨fun pins s σ H D I q => h.run pins s σ H D I (i D σ H q)⟩

structure SndS (m : Sm) : Prop where
  ps : ∀ {C : Ck} {ca : Nat → Addr} {φ : Phi} {k : Nat} {X : Cx} {W : WX} {s : Stmt}, PhiMono φ → Good C ca φ k X W → chkS C m s = true → PS X s (tS X.K ca C.g φ W m)
structure SndSs (m : Sms) : Prop where
  pss : ∀ {C : Ck} {ca : Nat → Addr} {φ : Phi} {k : Nat} {X : Cx} {W : WX} {s : List Stmt}, PhiMono φ → Good C ca φ k X W → chkSs C m s = true → PSs X s (tSs X.K ca C.g φ W m)
section
variable {K : PySem.W.Frag} {ca : Nat → Addr} {g : Bool} {φ : Phi} {W : WX} {D : Ends} {ι : List Addr} {H : Hp} {σd : Sd} {σ : L2.St} {S : Store}
/-- a value, then more -/
theorem tE_then (hφ : PhiMono φ) {m : Ex} {Q : VK} {Q1 : Post} (R : Rep K ca ι S H) (r : RelS K ι H σd σ) (h : wpE g φ m σd S Q1 fun x S1 => (ED K ca W D ι H).ex x σd S1)
    (hQ : ∀ d S' ι' H' v, Q1 d S' → Ext K ι H ι' H' → Rep K ca ι' S' H' → RelD K ι' H' d v → Q v H') : tE K ca g φ W m σ H Q :=
  tE_mk hφ R r (wpE_mono hφ m (fun _ _ q => q) (ED.exl r) h) hQ
theorem tAs_then (hφ : PhiMono φ) {m : Exs} {Q : List V → Hp → Prop} {Q1 : List CC.D → Store → Prop} (R : Rep K ca ι S H) (r : RelS K ι H σd σ) (h : wpAs g φ m σd S Q1 fun x S1 => (ED K ca W D ι H).ex x σd S1)
    (hQ : ∀ d S' ι' H' v, Q1 d S' → Ext K ι H ι' H' → Rep K ca ι' S' H' → RelDs K ι' H' d v → Q v H') : tAs K ca g φ W m σ H Q :=
  tAs_mk hφ R r (wpAs_mono hφ m (fun _ _ q => q) (ED.exl r) h) hQ
end

theorem snd_expr (m : Ex) : SndS (.expr m) where
  ps := fun {C ca φ k X W s} hφ G h => by
    simp only [chkS] at h
    split at h
    · simp only [Bool.and_eq_true] at h
      refine (ps_expr ((sndE m).pe hφ G h.1) (sw_drop h.2 _ _)).weak fun D σ H q => ?_
      obtain ⟨ι, S, σd, R, r, q⟩ := q
      simp only [wpS] at q
      exact tE_then hφ R r q fun d S' ι' H' v q x R' rv => q σ ι' H' x R' (r.mono x)
    · cases h
theorem snd_asg (t : Tg) (m : Ex) : SndS (.asg t m) where
  ps := fun {C ca φ k X W s} hφ G h => by
    simp only [chkS] at h
    split at h
    · simp only [Bool.and_eq_true, Bool.or_eq_true, Bool.not_eq_true'] at h
      obtain ⟨⟨⟨⟨h1, h2⟩, h3⟩, h4⟩, h5⟩ := h
      rw [← G.sc] at h4 h5
      refine (ps_asg ((sndE m).pe hφ G h2) ((sndTg t).pg hφ G h1) (sw_no _ _ h4) (sw_none _ h5) (by rw [each_of h3]; rfl)).weak fun D σ H q => ?_
      obtain ⟨ι, S, σd, R, r, q⟩ := q
      simp only [wpS] at q
      refine tE_then hφ R r q fun d S' ι' H' v q x R' rv => ?_
      exact ⟨ι', S', σd, d, _, R', r.mono x, rv, wpTg_mono hφ t (fun σd2 S2 q σ' ι2 H2 x2 R2 r2 _ => q σ' ι2 H2 (x.trans x2) R2 r2) (fun _ _ z => z) q⟩
    · cases h
theorem snd_setc (i : Nat) (m : Ex) : SndS (.setc i m) where
  ps := fun {C ca φ k X W s} hφ G h => by
    simp only [chkS] at h
    split at h
    · rename_i y py e gs scope pos spos
      simp only [Bool.and_eq_true, Bool.not_eq_true'] at h
      obtain ⟨⟨⟨⟨⟨h1, h2⟩, h3⟩, h4⟩, h5⟩, h6⟩ := h
      obtain ⟨l1, l2⟩ := locL_ok G h2
      have sw : swapsWith (.ListComp e gs scope pos) (some (.Name y py)) spos.line X.env = pure true := sw_true (kind_ok G h3) l2 h4 h5
      cases m with
      | comp elt tg kk src cond own =>
        have h0 := h1
        simp only [chkE] at h1
        split at h1
        · rename_i e2 tge it ifs sc2 pos2 heq
          cases heq
          obtain ⟨p1, p2, p3, p4, p5, tt, p6, p7⟩ := comp_parts (sndE elt) (sndTg tg) (sndEs src) (sndEs cond) hφ G h0
          refine (ps_setLc G.calm G.nd l1 l2 sw p1 p2 p3 p6 p4 p5).weak fun D σ H q => ?_
          refine p7 σ H _ ?_
          obtain ⟨ι, S, σd, R, r, q⟩ := q
          simp only [wpS] at q
          exact tE_then hφ R r q fun d S' ι' H' v q x R' rv => q _ ι' H' x R' ((r.mono x).set rv i)
        · cases h1
      | _ => cases h6
    · cases h
theorem snd_par2 (i j : Nat) (es : Exs) : SndS (.par2 i j es) where
  ps := fun {C ca φ k X W s} hφ G h => by
    simp only [chkS] at h
    split at h
    · rename_i x px y py kt pt a b k2 pt2 pos
      rw [Bool.or_eq_true] at h
      rcases h with h | h
      · simp only [Bool.and_eq_true, Bool.not_eq_true'] at h
        obtain ⟨⟨⟨⟨⟨⟨⟨⟨⟨h1, h2⟩, h3⟩, h4⟩, h5⟩, h6⟩, h7⟩, h8⟩, h9⟩, h10⟩ := h
        obtain ⟨l1, l2⟩ := locL_ok G h1
        obtain ⟨m1, m2⟩ := locL_ok G h2
        have hij : i ≠ j := fun e => by
          subst e
          simp at h5
        refine (ps_par G.calm G.nd l1 m1 hij l2 m2 (((sndEs es).all hφ G h7).pa hφ) (sw_par2 (kind_ok G h3) l2 m2 h4 h6 h8 h9 h10) rfl).weak fun D σ H q => ?_
        obtain ⟨ι, S, σd, R, r, q⟩ := q
        simp only [wpS] at q
        refine tAs_then hφ R r q fun ds S' ι' H' vs q x R' rv => ?_
        split at q
        · cases rv with
          | cons r1 rv =>
            cases rv with
            | cons r2 rv =>
              cases rv
              exact ⟨_, _, rfl, q _ ι' H' x R' (((r.mono x).set r1 i).set r2 j)⟩
        · exact q.elim
      · simp only [Bool.and_eq_true] at h
        obtain ⟨⟨h1, h2⟩, h3⟩ := h
        have e : chkS C (.asg (.tup (.cons (.name i) (.cons (.name j) .nil))) (.prim .tup es)) (.Assign [.Tuple [.Name x px, .Name y py] kt pt] (.Tuple [a, b] k2 pt2) pos) = true := by
          simp only [chkS, chkE, h1, h2, h3, plainX, noComp, Bool.and_self, Bool.true_or]
        refine ((snd_asg (.tup (.cons (.name i) (.cons (.name j) .nil))) (.prim .tup es)).ps hφ G e).weak fun D σ H q => ?_
        obtain ⟨ι, S, σd, R, r, q⟩ := q
        refine ⟨ι, S, σd, R, r, ?_⟩
        simp only [wpS, wpE] at q ⊢
        refine wpAs_mono hφ es (fun ds S1 q => ?_) (fun _ _ z => z) q
        split at q
        · rename_i d1 d2
          simp only [primW, primR, wpTg, seqD, wpTgs, tgsLen]
          exact ⟨(by show 2 ≤ sizeLine; decide), rfl, q⟩
        · exact q.elim
    · cases h
theorem snd_par3 (i j l : Nat) (es : Exs) : SndS (.par3 i j l es) where
  ps := fun {C ca φ k X W s} hφ G h => by
    simp only [chkS] at h
    split at h
    · simp only [Bool.and_eq_true, Bool.not_eq_true'] at h
      obtain ⟨⟨⟨⟨⟨⟨⟨⟨⟨⟨⟨⟨⟨⟨⟨h1, h2⟩, h3⟩, h4⟩, h5⟩, h6⟩, h7⟩, h8⟩, h9⟩, h10⟩, h11⟩, h12⟩, h13⟩, h14⟩, h15⟩, h16⟩ := h
      obtain ⟨l1, l2⟩ := locL_ok G h1
      obtain ⟨m1, m2⟩ := locL_ok G h2
      obtain ⟨n1, n2⟩ := locL_ok G h3
      have ne : ∀ {a b : Nat}, (a == b) = false → a ≠ b := fun h e => by
        subst e
        simp at h
      refine (ps_par3 G.calm G.nd l1 m1 n1 (ne h8) (ne h9) (ne h10) l2 m2 n2 (((sndEs es).all hφ G h13).pa hφ) (sw_par3 (kind_ok G h4) l2 m2 n2 h5 h6 h7 h11 h12 h14 h15 h16) rfl).weak fun D σ H q => ?_
      obtain ⟨ι, S, σd, R, r, q⟩ := q
      simp only [wpS] at q
      refine tAs_then hφ R r q fun ds S' ι' H' vs q x R' rv => ?_
      split at q
      · cases rv with
        | cons r1 rv =>
          cases rv with
          | cons r2 rv =>
            cases rv with
            | cons r3 rv =>
              cases rv
              exact ⟨_, _, _, rfl, q _ ι' H' x R' ((((r.mono x).set r1 i).set r2 j).set r3 l)⟩
      · exact q.elim
    · cases h
/-- name op= value -/
def rAug (op : Operator) : V → V → Hp → VK → Prop := fun x y H Q => ∃ a b : Int, x = .int a ∧ y = .int b ∧ match op with
  | .Add => Q (.int (a + b)) H
  | .Sub => Q (.int (a - b)) H
  | .Mult => IntMulOk a b ∧ Q (.int (a * b)) H
  | _ => False
theorem ip_aug {X : Cx} (op : Operator) : PIp X op (rAug op) := by
  intro pins s σ H x y v u Q I r1 r2 h
  obtain ⟨a, b, rfl, rfl, q⟩ := h
  cases op with
  | Add => exact ip_add pins s σ H _ _ v u Q I r1 r2 ⟨a, b, rfl, rfl, q⟩
  | Sub => exact ip_sub pins s σ H _ _ v u Q I r1 r2 ⟨a, b, rfl, rfl, q⟩
  | Mult =>
    obtain ⟨t, rfl⟩ := r1
    obtain ⟨t', rfl⟩ := r2
    exact PyProof.Rows.imul_int ⟨.int _, H, I.tok _, ⟨_, rfl⟩, q.2⟩ q.1
  | _ => exact q.elim
theorem snd_aug (i : Nat) (op : Operator) (m : Ex) : SndS (.aug i op m) where
  ps := fun {C ca φ k X W s} hφ G h => by
    simp only [chkS] at h
    split at h
    · simp only [Bool.and_eq_true, decide_eq_true_eq] at h
      obtain ⟨⟨h1, rfl⟩, h2⟩ := h
      obtain ⟨l1, l2, l3⟩ := loc_ok G h1
      refine (ps_aug G.nd l1 l2 ((sndE m).pe hφ G h2) (ip_aug op) l3).weak fun D σ H q => ?_
      obtain ⟨ι, S, σd, R, r, q⟩ := q
      simp only [wpS] at q
      split at q
      · rename_i x hx
        obtain ⟨v, e, rv⟩ := r.2 i x hx
        refine ⟨v, e, tE_then hφ R r q fun d S' ι' H' u q x1 R' ru => ?_⟩
        have rv := rv.mono x1
        split at q <;> first
          | (exact q.elim)
          | (cases rv; cases ru
             first
              | exact ⟨_, _, rfl, rfl, q _ ι' H' x1 R' ((r.mono x1).set (.int _) i)⟩
              | exact ⟨_, _, rfl, rfl, q.1, q.2 _ ι' H' x1 R' ((r.mono x1).set (.int _) i)⟩)
      · exact q.elim
    · cases h
theorem snd_ret (m : Ex) : SndS (.ret m) where
  ps := fun {C ca φ k X W s} hφ G h => by
    simp only [chkS] at h
    split at h
    · refine (ps_ret ((sndE m).pe hφ G h)).weak fun D σ H q => ?_
      obtain ⟨ι, S, σd, R, r, q⟩ := q
      simp only [wpS] at q
      exact ⟨ι, S, σd, R, r, wpE_mono hφ m (fun _ _ q => q) (ED.exl r) q⟩
    · cases h
theorem snd_retN : SndS .retN where
  ps := fun {C ca φ k X W s} hφ G h => by
    simp only [chkS] at h
    split at h
    · refine ps_retN.weak fun D σ H q => ?_
      obtain ⟨ι, S, σd, R, r, q⟩ := q
      simp only [wpS] at q
      exact q ι H _ Ext.refl R .non
    · cases h
theorem snd_pass : SndS .pass where
  ps := fun {C ca φ k X W s} hφ G h => by
    simp only [chkS] at h
    split at h
    · refine ps_pass.weak fun D σ H q => ?_
      obtain ⟨ι, S, σd, R, r, q⟩ := q
      simp only [wpS] at q
      exact q σ ι H Ext.refl R r
    · cases h
theorem snd_setf (cs : List Nat) (o : Ex) (x : Str) (m : Ex) : SndS (.setf cs o x m) where
  ps := fun {C ca φ k X W s} hφ G h => by
    simp only [chkS] at h
    split at h
    · simp only [Bool.and_eq_true, decide_eq_true_eq, List.all_eq_true] at h
      obtain ⟨⟨⟨rfl, h1⟩, h2⟩, h3⟩ := h
      refine (ps_fld ((sndE o).pe hφ G h2) ((sndE m).pe hφ G h1) (sw_attr _ _ _ _ _ _)).weak fun D σ H q => ?_
      obtain ⟨ι, S, σd, R, r, q⟩ := q
      simp only [wpS] at q
      refine tE_then hφ R r q fun d S1 ι1 H1 v q x1 R1 rv => ?_
      refine tE_mk hφ R1 (r.mono x1) (wpE_mono hφ o (fun _ _ q => q) (fun _ _ z => (ED.exl r _ _ z).of x1) q) fun d2 S2 ι2 H2 v2 q x2 R2 rv2 => ?_
      split at q
      · rename_i l
        split at q
        · rename_i c fs hs
          obtain ⟨hc, hlen, q⟩ := q
          have hi : insAt (.ref l) S2 = some (c, fs) := by
            simp only [insAt, hs]
          obtain ⟨l', a, dx, gs, e0, e1, rfl, e2, e3, e4, e5⟩ := R2.ins hi rv2
          cases e0
          have hx := h3 c (by simpa using hc)
          split at hx
          · rename_i cl hcl
            simp only [List.any_eq_true, decide_eq_true_eq] at hx
            obtain ⟨z, hz, rfl⟩ := hx
            have F := G.cls c cl hcl
            exact ⟨a, ca c, dx, gs, rfl, e3, F.ok, F.fld _ hz, by rw [← e5.length]; exact hlen, q σ ι2 _ ((x1.trans x2).trans (Ext.wrote e3 trivial)) (R2.setIns e1 e2 e3 e4 (e5.put (rv.mono x2))) (((r.mono x1).mono x2).mono (Ext.wrote e3 trivial))⟩
          · cases hx
        · exact q.elim
      · exact q.elim
    · cases h
theorem snd_never : SndS .never where
  ps := fun {C ca φ k X W s} hφ G h => ps_never.weak fun D σ H q => by
    obtain ⟨ι, S, σd, R, r, q⟩ := q
    simp only [wpS] at q
theorem snd_ifs (c : Ex) {a b : Sms} (Sa : SndSs a) (Sb : SndSs b) : SndS (.ifs c a b) where
  ps := fun {C ca φ k X W s} hφ G h => by
    simp only [chkS] at h
    split at h
    · simp only [Bool.and_eq_true] at h
      refine (ps_if ((sndE c).pt hφ G h.1.1) (Sa.pss hφ G h.1.2) (Sb.pss hφ G h.2)).weak fun D σ H q => ?_
      obtain ⟨ι, S, σd, R, r, q⟩ := q
      simp only [wpS] at q
      refine ⟨ι, S, σd, R, r, wpE_mono hφ c (fun d S1 q => ?_) (ED.exl r) q⟩
      split at q
      · rename_i hb
        exact ⟨true, hb, fun ι' H' x R' => by
          dsimp only
          rw [if_pos rfl]
          exact ⟨ι', S1, σd, R', r.mono x, wpSs_mono hφ a (ED.of x) q⟩⟩
      · rename_i hb
        exact ⟨false, hb, fun ι' H' x R' => by
          dsimp only
          rw [if_neg Bool.false_ne_true]
          exact ⟨ι', S1, σd, R', r.mono x, wpSs_mono hφ b (ED.of x) q⟩⟩
      · exact q.elim
    · cases h
theorem snd_whil (c : Ex) {b : Sms} (Sb : SndSs b) : SndS (.whil c b) where
  ps := fun {C ca φ k X W s} hφ G h => by
    simp only [chkS] at h
    split at h
    · simp only [Bool.and_eq_true] at h
      refine (ps_while G.own ((sndE c).pt hφ G h.1) (Sb.pss hφ G h.2)).weak fun D σ H q => ?_
      obtain ⟨ι, S, σd, R, r, q⟩ := q
      simp only [wpS] at q
      obtain ⟨n, q⟩ := q
      generalize hturn : (fun σ S (more nx : Sd → Store → Prop) => wpE C.g φ c σ S (fun d S1 => match truth d S1 with
        | some true => wpSs C.g φ b { ED X.K ca W D ι H with nx := more, ct := more, bk := (ED X.K ca W D ι H).nx } σ S1
        | some false => nx σ S1
        | none => False) (fun x S1 => (ED X.K ca W D ι H).ex x σ S1)) = turn at q
      have ht : ∀ σ S (more nx : Sd → Store → Prop), turn σ S more nx → wpE C.g φ c σ S (fun d S1 => match truth d S1 with
        | some true => wpSs C.g φ b { ED X.K ca W D ι H with nx := more, ct := more, bk := (ED X.K ca W D ι H).nx } σ S1
        | some false => nx σ S1
        | none => False) (fun x S1 => (ED X.K ca W D ι H).ex x σ S1) := fun σ S more nx z => by
        rw [← hturn] at z
        exact z
      refine ⟨fun m σ' H' => ∃ ι' S' σd', Ext X.K ι H ι' H' ∧ Rep X.K ca ι' S' H' ∧ RelS X.K ι' H' σd' σ' ∧ whileW (ED X.K ca W D ι H).nx turn m σd' S', ⟨n, ι, S, σd, Ext.refl, R, r, q⟩, fun m σ' H' q => ?_⟩
      obtain ⟨ι1, S1, σ1, x1, R1, r1, q⟩ := q
      cases m with
      | zero => exact q.elim
      | succ m =>
        have q := ht _ _ _ _ q
        refine ⟨ι1, S1, σ1, R1, r1, wpE_mono hφ c (fun d S2 q => ?_) (fun e S2 z ι' H' dd v y R rv hd => z σ' ι' H' dd v (x1.trans y) R (r1.mono y) rv hd) q⟩
        · split at q
          · rename_i hb
            exact ⟨true, hb, fun ι2 H2 x2 R2 => by
              dsimp only
              rw [if_pos rfl]
              refine ⟨fun σ' H' => ∃ ι' S' σd', Ext X.K ι H ι' H' ∧ Rep X.K ca ι' S' H' ∧ RelS X.K ι' H' σd' σ' ∧ whileW (ED X.K ca W D ι H).nx turn m σd' S', fun σ' H' z => ⟨m, Nat.lt_succ_self m, z⟩, ι2, S2, σ1, R2, r1.mono x2, wpSs_mono hφ b ?_ q⟩
              exact ⟨fun σ S z σ3 ι3 H3 x3 R3 r3 => ⟨ι3, S, σ, (x1.trans x2).trans x3, R3, r3, z⟩, fun _ _ z => z.of (x1.trans x2), fun σ S z σ3 ι3 H3 x3 => z σ3 ι3 H3 ((x1.trans x2).trans x3), fun σ S z σ3 ι3 H3 x3 R3 r3 => ⟨ι3, S, σ, (x1.trans x2).trans x3, R3, r3, z⟩, fun _ _ _ z σ ι2' H2' dd v y => z σ ι2' H2' dd v ((x1.trans x2).trans y)⟩⟩
          · rename_i hb
            exact ⟨false, hb, fun ι2 H2 x2 R2 => by
              dsimp only
              rw [if_neg Bool.false_ne_true]
              exact q σ' ι2 H2 (x1.trans x2) R2 (r1.mono x2)⟩
          · exact q.elim
    · cases h
theorem snd_fors (t : Tg) (kk : ItK) (src : Exs) {b : Sms} (Sb : SndSs b) : SndS (.fors t kk src b) where
  ps := fun {C ca φ k X W s} hφ G h => by
    simp only [chkS] at h
    split at h
    · rename_i tg it y pos
      simp only [Bool.and_eq_true] at h
      obtain ⟨⟨⟨h1, h2⟩, h3⟩, h4⟩ := h
      split at h1
      · rename_i es hi
        have A := (sndEs src).all hφ G h1
        refine (ps_for G.own G.calm (snd_it hφ G hi A) ((sndTg t).pg hφ G h2) (Sb.pss hφ G h3) (fun x => fold_of h4 _ x)).weak fun D σ H q => ?_
        obtain ⟨ι, S, σd, R, r, q⟩ := q
        simp only [wpS] at q
        refine ⟨ι, S, σd, R, r, wpAs_mono hφ src (fun ds S1 q => ?_) (ED.exl r) q⟩
        split at q
        · rename_i c w hw
          refine ⟨c, w, hw, q.1, fun ι1 H1 J x1 R1 okJ => ?_⟩
          have q := q.2
          generalize hturn : (fun (x : CC.D) σ S (more : Sd → Store → Prop) => wpTg C.g φ t x σ S (fun σ2 S2 => wpSs C.g φ b { ED X.K ca W D ι H with nx := more, ct := more, bk := (ED X.K ca W D ι H).nx } σ2 S2) (fun x S1 => (ED X.K ca W D ι H).ex x σ S1)) = turn at q
          have ht : ∀ (x : CC.D) σ S (more : Sd → Store → Prop), turn x σ S more → wpTg C.g φ t x σ S (fun σ2 S2 => wpSs C.g φ b { ED X.K ca W D ι H with nx := more, ct := more, bk := (ED X.K ca W D ι H).nx } σ2 S2) (fun x S1 => (ED X.K ca W D ι H).ex x σ S1) := fun x σ S more z => by
            rw [← hturn] at z
            exact z
          refine ⟨fun i m σ' H' => ∃ ι' S' σd', Ext X.K ι1 H1 ι' H' ∧ Rep X.K ca ι' S' H' ∧ RelS X.K ι' H' σd' σ' ∧ m = w.xs.length - i ∧ i ≤ w.xs.length ∧ forW w (ED X.K ca W D ι H).nx turn (w.xs.drop i) σd' S',
            ⟨w.xs.length, ι1, S1, σd, Ext.refl, R1, r.mono x1, by simp, Nat.zero_le _, by rw [List.drop_zero]; exact q⟩, fun i m σ' H' q => ?_⟩
          obtain ⟨ι2, S2, σ2, x2, R2, r2, rfl, hi, q⟩ := q
          by_cases hlt : i < w.xs.length
          · rw [List.drop_eq_getElem_cons hlt] at q
            obtain ⟨wok, q⟩ := q
            obtain ⟨go, yl⟩ := (okJ ι2 H' S2 x2 R2 wok).1 i _ (List.getElem?_eq_getElem hlt)
            refine .inr ⟨go, fun σ' H' => ∃ ι' S' σd', Ext X.K ι1 H1 ι' H' ∧ Rep X.K ca ι' S' H' ∧ RelS X.K ι' H' σd' σ' ∧ forW w (ED X.K ca W D ι H).nx turn (w.xs.drop (i + 1)) σd' S',
              fun σ' H' ⟨ι', S', σd', a1, a2, a3, a4⟩ => ⟨w.xs.length - (i + 1), by omega, ι', S', σd', a1, a2, a3, rfl, hlt, a4⟩, fun v H3 hy => ?_⟩
            obtain ⟨x3, R3, rv⟩ := yl v H3 hy
            refine ⟨ι2, S2, σ2, _, _, R3, r2.mono x3, rv, wpTg_mono hφ t (fun σ4 S4 q => ?_) (fun _ _ z => z) (ht _ _ _ _ q)⟩
            intro σ' ι4 H4 x4 R4 r4 _
            have xx := ((x1.trans x2).trans x3).trans x4
            have yy := (x2.trans x3).trans x4
            refine ⟨ι4, S4, σ4, R4, r4, wpSs_mono hφ b ?_ q⟩
            exact ⟨fun σ S z σ5 ι5 H5 x5 R5 r5 => ⟨ι5, S, σ, yy.trans x5, R5, r5, z⟩, fun _ _ z => z.of xx, fun σ S z σ5 ι5 H5 x5 => z σ5 ι5 H5 (xx.trans x5), fun σ S z σ5 ι5 H5 x5 R5 r5 => ⟨ι5, S, σ, yy.trans x5, R5, r5, z⟩, fun _ _ _ z σ ι2' H2' dd v y => z σ ι2' H2' dd v (xx.trans y)⟩
          · have hi : i = w.xs.length := by omega
            rw [List.drop_of_length_le (by omega)] at q
            exact .inl ⟨(okJ ι2 H' S2 x2 R2 q.1).2 i (by omega), q.2 σ' ι2 H' (x1.trans x2) R2 r2⟩
        · exact q.elim
      · cases h1
    · cases h
theorem snd_snil : SndSs .nil where
  pss := fun {C ca φ k X W s} hφ G h => by
    simp only [chkSs] at h
    split at h
    · refine pss_nil.weak fun D σ H q => ?_
      obtain ⟨ι, S, σd, R, r, q⟩ := q
      simp only [wpSs] at q
      exact q σ ι H Ext.refl R r
    · cases h
theorem snd_scons {m : Sm} {ms : Sms} (S1 : SndS m) (S2 : SndSs ms) : SndSs (.cons m ms) where
  pss := fun {C ca φ k X W s} hφ G h => by
    simp only [chkSs] at h
    split at h
    · simp only [Bool.and_eq_true] at h
      refine (pss_cons (S1.ps hφ G h.1) (S2.pss hφ G h.2)).weak fun D σ H q => ?_
      obtain ⟨ι, S, σd, R, r, q⟩ := q
      simp only [wpSs] at q
      refine ⟨ι, S, σd, R, r, wpS_mono hφ m ?_ q⟩
      exact ⟨fun σ S z σ' ι' H' x R' r' => ⟨ι', S, σ, R', r', wpSs_mono hφ ms (ED.of x) z⟩, fun _ _ z => z, fun _ _ z => z, fun _ _ z => z, fun _ _ _ z => z⟩
    · cases h
/-! ### errors -/
theorem snd_rais (c : Nat) (m : Ex) : SndS (.rais c m) where
  ps := fun {C ca φ k X W s} hφ G h => by
    simp only [chkS] at h
    split at h
    · rename_i x p1 e p2 p3
      simp only [Bool.and_eq_true, decide_eq_true_eq] at h
      obtain ⟨⟨⟨⟨h1, h2⟩, h3⟩, h4⟩, h5⟩ := h
      obtain ⟨g1, g2⟩ := gl_ok G h3
      have E := (G.exs c h1).1
      have em : X.mg x = some (.ref (ca c)) := by rw [h2]; exact E.mg
      obtain ⟨fI, T⟩ := E.c2
      refine (ps_raise G.calm G.takes (pmk_exc T em G.room (pa_cons ((sndE m).pe hφ G h4) pa_nil (star_of h5 _ _)) g1 g2 (star_of h5 _ _) rfl)).weak fun D σ H q => ?_
      obtain ⟨ι, S, σd, R, r, q⟩ := q
      simp only [wpS] at q
      refine tE_then hφ R r q fun d S' ι' H' v q x R' rv => ?_
      exact ⟨v, rfl, fun dd hd => q σ ι' _ dd v (x.trans (Ext.laid hd)) (R'.laid hd) (r.mono (x.trans (Ext.laid hd))) (rv.mono (Ext.laid hd)) upd_same⟩
    · cases h
/-- a suite's reading -/
def tHS (nm : Str) (v : V) (H0 : Hp) (a : Addr) (i : Nat) (h : Hs) : TS := fun D σ H => ∃ ρ hs, RelH v H0 a i ρ σ H ∧ ρ.length = σ.length ∧ hgo nm ρ h = some hs ∧ ∀ u H', GrowH H H' → HvV v H0 (.lst hs) u H' → D.rt u H'
theorem snd_hs {C : Ck} {ca : Nat → Addr} {φ : Phi} {k : Nat} {X : Cx} {W : WX} {a dd : Addr} {oe : Obj} {pn : List (Addr × Obj)} {v : V} {H0 : Hp} {cn i : Nat}
    (hz : Zc (.ref (ca cn)) (some dd) oe) (hf : ∃ vs, oe.data = .fields vs) (hd : H0 dd = some (.xd [("value", v)])) (G : Good C ca φ k X W) (hcn : C.exs cn = true) :
    ∀ (h : Hs) (ss : List Stmt), chkHS C i h ss = true → PSs (X.suite a ((a, oe) :: pn)) ss (tHS (exNm cn) v H0 a i h)
  | .set j m r, ss, h => by
    unfold chkHS at h
    split at h
    · rename_i x px e pos ss
      simp only [Bool.and_eq_true, Bool.not_eq_true', beq_eq_false_iff_ne, ne_eq] at h
      obtain ⟨⟨⟨⟨⟨h1, h2⟩, h3⟩, h4⟩, h5⟩, h6⟩ := h
      obtain ⟨l1, l2⟩ := locL_ok G h1
      rw [← G.sc] at h5
      have pg : PG (X.suite a ((a, oe) :: pn)) (.Name x px) (gName j) := pg_name (X := X.suite a ((a, oe) :: pn)) G.nd l1 (.inl l2) (.inr l2)
      refine (pss_cons (ps_asg (snd_hx hz hf hd G hcn m e h3) pg (sw_no _ _ (.inl h4)) (sw_none _ h5) rfl) (snd_hs hz hf hd G hcn r ss h6)).weak fun D σ H q => ?_
      obtain ⟨ρ, hs, rl, hl, e1, q⟩ := q
      unfold hgo at e1
      split at e1
      · rename_i hv e2
        refine ⟨ρ, hv, rl, e2, fun u H1 g1 z => ?_⟩
        have rl1 := rl.grow g1
        refine ⟨ρ.set j (some hv), hs, ⟨rl1.gr, ?_, fun j' h' hj => ?_⟩, by simp [hl], e1, fun u2 H2 g2 z2 => q u2 H2 (g1.trans g2) z2⟩
        · rw [List.getElem?_set_ne h2]
          exact rl1.ex
        · by_cases hjj : j = j'
          · subst hjj
            by_cases hlt : j < ρ.length
            · rw [List.getElem?_set_self hlt] at hj
              cases hj
              exact ⟨u, List.getElem?_set_self (by rw [← hl]; exact hlt), z⟩
            · rw [List.getElem?_eq_none (by rw [List.length_set]; omega)] at hj
              cases hj
          · rw [List.getElem?_set_ne hjj] at hj ⊢
            exact rl1.sl j' h' hj
      · cases e1
    · cases h
  | .ret m, ss, h => by
    unfold chkHS at h
    split at h
    · rename_i e pos
      refine (pss_cons (ps_ret (snd_hx hz hf hd G hcn m e h)) pss_nil).weak fun D σ H q => ?_
      obtain ⟨ρ, hs, rl, hl, e1, q⟩ := q
      unfold hgo at e1
      split at e1
      · rename_i hs' e2
        cases e1
        exact ⟨ρ, _, rl, e2, fun u H1 g1 z => q u H1 g1 z⟩
      · cases e1
    · cases h
theorem Good.tr {C : Ck} {ca : Nat → Addr} {φ : Phi} {k : Nat} {X : Cx} {W W' : WX} (G : Good C ca φ k X W) {pn : List (Addr × Obj)} {xe : Value → Shared → Prop} (tk : Takes (X.tr pn xe) W') (po : PassesOwn (model X.prog X.w) X.A X.env xe) : Good C ca φ k (X.tr pn xe) W' where
  calm := G.calm
  nd := G.nd
  N := G.N
  sc := G.sc
  cell := G.cell
  gd := G.gd
  own := po
  room := G.room
  room2 := G.room2
  cls := G.cls
  takes := tk
  fns := G.fns
  blt := G.blt
  exs := G.exs
  stk := G.stk
  gls := G.gls
theorem rel_map {K : PySem.W.Frag} {ι : List Addr} {H : Hp} {d : CC.D} {v : V} (r : RelD K ι H d v) : ∀ hs : List Hi, RelDs K ι H (hs.map (hiD d)) (hs.map (hiV v))
  | [] => .nil
  | .bl b :: hs => .cons (.bl b) (rel_map r hs)
  | .str s :: hs => .cons (.str s) (rel_map r hs)
  | .val :: hs => .cons r (rel_map r hs)
theorem snd_tryr (i : Nat) (cs : List Nat) {b : Sms} (hs : Hs) (Sb : SndSs b) : SndS (.tryr i cs b hs) where
  ps := fun {C ca φ k X W s} hφ G h => by
    simp only [chkS] at h
    split at h
    · rename_i y x p1 n s0 suite p2 p3
      simp only [Bool.and_eq_true, decide_eq_true_eq, List.all_eq_true] at h
      obtain ⟨⟨⟨⟨⟨⟨⟨h1, rfl⟩, h3⟩, h4⟩, h5⟩, h6⟩, h7⟩, h8⟩ := h
      obtain ⟨g1, g2⟩ := gl_ok G h3
      obtain ⟨l1, l2⟩ := locL_ok G h6
      obtain ⟨k1, k2⟩ := G.stk h1
      have E0 := (G.exs _ h4).1
      refine (ps_try_as (X := X) (c := .ref (ca 500000)) (i := i) (Wout := W) (tb := fun W' => tSs X.K ca C.g φ W' b)
        (ts := fun a cls d D σ H => ∃ cn v dd, cls = .ref (ca cn) ∧ d = some dd ∧ C.exs cn = true ∧ H dd = some (.xd [("value", v)]) ∧ tHS (exNm cn) v H a i hs D σ H)
        k1 k2 G.nd l1 l2 ⟨g1, g2, .inl E0.mg⟩ G.takes (fun W' pn xe tk po => Sb.pss hφ (G.tr tk po) h7) (fun a oe cls d pn hz hf => ⟨fun pins s σ H D I q => ?_⟩)).weak fun D σ H q => ?_
      · obtain ⟨cn, v, dd, rfl, rfl, hcn, hd, t⟩ := q
        exact (snd_hs hz hf hd G hcn hs _ h8).run pins s σ H D I t
      · obtain ⟨ι, S, σd, R, r, q⟩ := q
        simp only [wpS] at q
        refine ⟨ι, S, σd, R, r, wpSs_mono hφ b ?_ q⟩
        refine ⟨fun _ _ z => z, fun _ _ z => z, fun _ _ z => z, fun _ _ z => z, fun x σ1 S1 z => ?_⟩
        obtain ⟨z1, z0, hl, z2, z3⟩ := z
        intro σ' ι' H' dd v x1 R1 r1 rv hd
        have hx : C.exs x.1 = true := h5 _ (by simpa using z1)
        have E := (G.exs _ hx).1
        refine ⟨true, ?_, fun _ a ha => ⟨x.1, v, dd, rfl, rfl, hx, hd, List.replicate σ1.length none, hl, ⟨GrowH.refl, ?_, fun j h' hj => ?_⟩, ?_, z2, fun u H2 g2 w => ?_⟩, fun z => by cases z⟩
        · rw [E.exm _ h4]
          show some (isSub _ ("ChainError" : Str)) = _
          unfold isSub
          simp
        · exact List.getElem?_set_self (by rw [← r1.1]; exact z0)
        · rw [List.getElem?_replicate] at hj
          split at hj <;> cases hj
        · rw [List.length_replicate, List.length_set]
          exact r1.1
        · obtain ⟨p, rfl, w1, w2⟩ := w
          obtain ⟨R2, x2⟩ := R1.pushAt g2 w1 w2 (rel_map rv hl)
          exact z3 _ H2 _ (x1.trans x2) R2 (.ref (by rw [List.getElem?_append_right (by rw [R1.len]; exact Nat.le_refl _), R1.len]; simp))
    · cases h
mutual
theorem sndS : ∀ m : Sm, SndS m
  | .expr m => snd_expr m
  | .asg t m => snd_asg t m
  | .setc i m => snd_setc i m
  | .par2 i j es => snd_par2 i j es
  | .par3 i j l es => snd_par3 i j l es
  | .aug i op m => snd_aug i op m
  | .ret m => snd_ret m
  | .retN => snd_retN
  | .ifs c a b => snd_ifs c (sndSs a) (sndSs b)
  | .whil c b => snd_whil c (sndSs b)
  | .fors t kk src b => snd_fors t kk src (sndSs b)
  | .setf cs o x e => snd_setf cs o x e
  | .pass => snd_pass
  | .rais c m => snd_rais c m
  | .tryr i cs b h => snd_tryr i cs h (sndSs b)
  | .never => snd_never
theorem sndSs : ∀ m : Sms, SndSs m
  | .nil => snd_snil
  | .cons a r => snd_scons (sndS a) (sndSs r)
end
end CC
/-! Functions, the law's end. -/
namespace CC
open L2 PySem PySem.Spec PyProof.Rows

/-- a def of the text keeps its promise -/
theorem fn_ofG {P : Program} {w : World} {K : PySem.W.Frag} {mg : Str → Option Value} {base : Heap} {g : Bool} {k : Nat} {x qual : Str} {params : Arguments} {body : List Stmt} {scope : Scope} {dvs : List V} {kws : List (Str × V)} {f : Addr} {fd : FuncData} {N ps : List Str} {sp : Sp}
    (F : FunD K x qual params body scope dvs kws f fd) (S : FnScope N ps scope) (len : ∀ vs H Q E, sp vs H Q E → vs.length = ps.length)
    (hbody : ∀ (cdv : Value) (A : Around) (outer : List Env) (s : Shared) (H : Hp) (vs : List V) (Q : VK) (E : XK), Room (k + 1) A → Room k (A.deeper (envOfC qual scope s.heap.objs.size f cdv)) → (g = true → A.guards = some []) → sp vs H Q E →
      ∃ t, PSs (cxOf (L2.CX P w) P w K mg base N qual scope f cdv A outer s H E) body t ∧ t { nx := fun _ H' => Q .non H', rt := Q } (start N vs) H) : FnOkG P w K mg base g (k + 1) f fd ps sp := by
  obtain ⟨oc, od, dV, kV, doc, pm, an, cdv, ct, osl, rfl, lk, hcd, _, _⟩ := F.ex
  refine ⟨len, fun A outer s H args us vs Q E room hg env0 bind rv q => ?_⟩
  have lv := len _ _ _ _ q
  have kin : K.In s.heap := env0.mod.kin.keeps fun b o z => (env0.bs b o z).1
  have free : s.heap.NoLimit := env0.mod.nolimit.keeps fun b o z => (env0.bs b o z).1
  have kinds : ∀ y ∈ ps.zip us, scope.names.lookup y.1 = some .local ∨ (scope.names.lookup y.1 = some .cell ∧ ((cellsFrom (s.heap.objs.size + 1) scope.names []).lookup y.1).isSome = true) := fun y hy => by
    rcases S.par y.1 (List.of_mem_zip (a := y.1) (b := y.2) hy).1 with z | z
    · exact .inl z
    · exact .inr ⟨z, PySem.W.cellsFrom_some _ _ _ (.inl z)⟩
  refine codeAny_call_function room.depth (kin _ _ lk) rfl S.co S.gen rfl (PySem.W.codeRec_of kin hcd) (bind _ _ _ _ (wpAny_newFunctionEnv_cells S.kind kinds fun env ev s1 inn => ?_))
  subst ev
  refine ⟨free.keeps inn.toInCall.keep, codeAny_func ?_⟩
  obtain ⟨t, pt, tv⟩ := hbody cdv A outer s H vs Q E room (room.deeper _) hg q
  have J : Inv (cxOf (L2.CX P w) P w K mg base N qual scope f cdv A outer s H E) [] (start N vs) H s1 := inv_start S room.hd env0 lv rv inn
  refine wpAny_mono (pt.run [] s1 (start N vs) H _ J tv) (fun fl s2 ends => ?_) fun e s2 ends => ends
  cases fl with
  | ret u =>
    obtain ⟨v, σ2, H2, J2, r2, q2⟩ := ends
    exact ⟨v, H2, J2.os, J2.bare, J2.base, J2.hok, r2, q2⟩
  | next =>
    obtain ⟨σ2, H2, J2, q2⟩ := ends
    exact ⟨.non, H2, J2.os, J2.bare, J2.base, J2.hok, rfl, q2⟩
  | brk =>
    obtain ⟨σ2, H2, J2, q2⟩ := ends
    exact q2.elim
  | cont =>
    obtain ⟨σ2, H2, J2, q2⟩ := ends
    exact q2.elim

/-- a function as it stands behind the top -/
structure FnS (K : PySem.W.Frag) (mg : Str → Option Value) (ca : Nat → Addr) (T : Nat → Option Fn) (kws : Nat → List (Nat × List Str × List Nat)) (gls : List (Str × D)) (cls : Nat → Option Cl) (exs : Nat → Bool) (f : Nat) (fn : Fn) : Prop where
  ex : ∃ (fd : FuncData) (qual : Str) (params : Arguments) (body : List Stmt) (scope : Scope), FunD K fn.name qual params body scope [] [] (fadr ca f) fd ∧ (fn.cls = none → mg fn.name = some (.ref (fadr ca f))) ∧ FnScope fn.N fn.ps scope ∧
    (∀ (s : Shared) (us : List Value), us.length = fn.ps.length → BindsTo s fd ⟨us, []⟩ (fn.ps.zip us)) ∧
    (∀ q ∈ kws f, ∀ (s : Shared) (us ws rs : List Value), us.length = q.1 → ws.length = q.2.1.length → pick (us ++ ws) q.2.2 = some rs → rs.length = fn.ps.length → BindsTo s fd ⟨us, q.2.1.zip ws⟩ (fn.ps.zip rs)) ∧
    chkSs ⟨fn.N, scope, fun _ => true, T, kws, gls, fn.g, cls, exs, true⟩ fn.body body = true

theorem relS_start {K : PySem.W.Frag} {ι : List Addr} {H : Hp} {N : List Str} {ds : List D} {vs : List V} (r : RelDs K ι H ds vs) : RelS K ι H (startD N.length ds) (start N vs) := by
  unfold startD L2.start
  refine ⟨by simp [r.length], fun i d h => ?_⟩
  have hi : i < ds.length := by
    by_cases hi : i < ds.length
    · exact hi
    · rw [List.getElem?_append_right (by simpa using hi), List.getElem?_replicate] at h
      split at h <;> cases h
  rw [List.getElem?_append_left (by simpa using hi), List.getElem?_map] at h
  cases e : ds[i]? with
  | none => rw [e] at h; cases h
  | some d' =>
    rw [e] at h
    cases h
    obtain ⟨v, h1, h2⟩ := r.get e
    refine ⟨v, ?_, h2⟩
    rw [List.getElem?_append_left (by simpa using (List.getElem?_eq_some_iff.mp h1).1), List.getElem?_map, h1]
    rfl

theorem step {P : Program} {w : World} {K : PySem.W.Frag} {mg : Str → Option Value} {base : Heap} {ca : Nat → Addr} {T : Nat → Option Fn} {kws : Nat → List (Nat × List Str × List Nat)} {gls : List (Str × D)} {cls : Nat → Option Cl} {exs : Nat → Bool} {k f : Nat} {fn : Fn} {a : Addr} {fd : FuncData} {qual : Str} {params : Arguments} {body : List Stmt} {scope : Scope}
    (hb : ∀ x ∈ bltNames, mg x = none) (hg : ∀ p ∈ gls, ∃ v u, mg p.1 = some u ∧ RelV v u ∧ ∀ ι H, RelD K ι H p.2 v) (hC : ∀ c cl, cls c = some cl → ClF K mg ca c cl) (hX : ∀ c, exs c = true → ExF K P mg ca exs c ∧ mg "ValueError" = none) (ih : ∀ f fn, T f = some fn → FnFact P w K mg base ca (wpF T k) k (kws f) f fn)
    (hf : T f = some fn) (F : FunD K fn.name qual params body scope [] [] a fd) (S : FnScope fn.N fn.ps scope) (hc : chkSs ⟨fn.N, scope, fun _ => true, T, kws, gls, fn.g, cls, exs, true⟩ fn.body body = true) :
    FnOkG P w K mg base fn.g (k + 1) a fd fn.ps (spF K ca (wpF T (k + 1)) f) := by
  refine fn_ofG F S (fun vs H Q E q => ?_) fun cdv A outer s H vs Q E room0 room gd q => ?_
  · obtain ⟨ι, St, ds, R, r, q⟩ := q
    simp only [wpF, hf] at q
    rw [← r.length]
    exact q.1
  · obtain ⟨ι, St, ds, R, r, q⟩ := q
    simp only [wpF, hf] at q
    have G : Good ⟨fn.N, scope, fun _ => true, T, kws, gls, fn.g, cls, exs, true⟩ ca (wpF T k) k (cxOf (L2.CX P w) P w K mg base fn.N qual scope a cdv A outer s H E) (fun cls d _ H => E cls d H) := {
      calm := rfl
      nd := S.nd
      N := rfl
      sc := rfl
      cell := fun _ _ => rfl
      gd := gd
      own := PySem.PassesOwn.leaving
      room := room
      room2 := fun B h1 h2 h3 => ⟨h1.trans room0.hd, by
        have z : B.depth ≤ A.depth + 1 + 1 := h2
        have := room0.dp
        omega, by
        have z : B.units ≤ A.units + 3 + 8 := h3
        have := room0.un
        omega⟩
      cls := hC
      takes := takes_of rfl rfl rfl rfl
      fns := ih
      blt := hb
      exs := hX
      stk := fun _ => ⟨rfl, rfl⟩
      gls := hg }
    refine ⟨_, (sndSs fn.body).pss (wpF_mono T k) G hc, ι, St, startD fn.N.length ds, R, relS_start r, wpSs_mono (wpF_mono T k) _ ?_ q.2⟩
    exact ⟨fun σd S1 z σ' ι' H' x R' r' => z ι' H' .non x R' .non, fun _ _ z => z, fun _ _ z => z.elim, fun _ _ z => z.elim, fun x σd S1 z σ' ι' H' dd v y R' r' rd hd => z ι' H' dd v y R' rd hd⟩
theorem level {P : Program} {w : World} {K : PySem.W.Frag} {mg : Str → Option Value} {base : Heap} {ca : Nat → Addr} {T : Nat → Option Fn} {kws : Nat → List (Nat × List Str × List Nat)} {gls : List (Str × D)} {cls : Nat → Option Cl} {exs : Nat → Bool}
    (hC : ∀ c cl, cls c = some cl → ClF K mg ca c cl) (hX : ∀ c, exs c = true → ExF K P mg ca exs c ∧ mg "ValueError" = none) (hS : ∀ f fn, T f = some fn → FnS K mg ca T kws gls cls exs f fn) (hb : ∀ x ∈ bltNames, mg x = none) (hg : ∀ p ∈ gls, ∃ v u, mg p.1 = some u ∧ RelV v u ∧ ∀ ι H, RelD K ι H p.2 v) :
    ∀ k f fn, T f = some fn → FnFact P w K mg base ca (wpF T k) k (kws f) f fn
  | 0, f, fn, hf => by
    obtain ⟨fd, qual, params, body, scope, F, hm, S, b1, b2, hc⟩ := (hS f fn hf).ex
    exact ⟨fd, hm, F.kp, b1, b2, ⟨fun vs H Q E ⟨_, _, _, _, _, h⟩ => h.elim, fun A outer s H args us vs Q E _ _ _ _ _ ⟨_, _, _, _, _, h⟩ => h.elim⟩⟩
  | k + 1, f, fn, hf => by
    obtain ⟨fd, qual, params, body, scope, F, hm, S, b1, b2, hc⟩ := (hS f fn hf).ex
    exact ⟨fd, hm, F.kp, b1, b2, step hb hg hC hX (fun f fn hf => level hC hX hS hb hg k f fn hf) hf F S hc⟩

/-! ### the law's end -/
theorem run_law {P : Program} {w : World} {K : PySem.W.Frag} {mg mb : Str → Option Value} {g : Bool} {k : Nat} {fa a : Addr} {fd : FuncData} {x : Str} {sp : Sp} {s1 : Shared} {vs : List Value} {ns : List Int}
    (kin : K.In s1.heap) (hns : s1.heap.Ns mainGlobals mg) (hb : s1.heap.Ns builtinsNs mb) (hbb : ∀ x : Str, x ≠ "__name__" → mb x = bootBuiltins x) (free : s1.heap.NoLimit) (hg : s1.gens = #[])
    (ha : s1.heap.get? a = some { cls := .type "list", data := .seq vs.toArray }) (hi : IntsAre vs ns) (hl : ns.length ≤ sizeLine) (hr : Room k callerA)
    (F : ∀ base : Heap, K.In base → base.Ns mainGlobals mg → FnOkG P w K mg base g k fa fd [x] sp) (hbind : ∀ (s : Shared) (u : Value), BindsTo s fd ⟨[u], []⟩ [(x, u)])
    (hsp : ∀ H : Hp, Only H → SqL K H a (ns.map V.int) → sp [.ref a] H (fun v _ => v = .bl true) fun _ _ _ => False) :
    codeAny (model P w) callerA (.call (.ref fa) ⟨[.ref a], []⟩) (fun r s2 => r = .ok (.ret (.bool true)) ∧ OldK s1.heap s2.heap ∧ s2.os = s1.os ∧ AllBare s2.gens) s1 := by
  have rel := vals_ints hi
  have lens := hi.length
  have main : ∀ H : Hp, Only H → SqL K H a (ns.map V.int) → HOk P w H s1.heap → (∀ b, H b ≠ none → b = a) → (H a ≠ none → K.lookup a = none) →
      codeAny (model P w) callerA (.call (.ref fa) ⟨[.ref a], []⟩) (fun r s2 => r = .ok (.ret (.bool true)) ∧ OldK s1.heap s2.heap ∧ s2.os = s1.os ∧ AllBare s2.gens) s1 := by
    intro H only seq hok one apart
    have is_a : ∀ {b : Addr} {u : HO}, H b = some u → b = a := fun {b u} z => one b (by rw [z]; exact fun q => nomatch q)
    have none_of : ∀ {b : Addr}, (∀ u, H b = some u → False) → H b = none := fun {b} z => by
      cases q : H b with
      | none => rfl
      | some u => exact (z u q).elim
    have dict_free : ∀ {b : Addr} {o : Obj} {es : Array DictEntry} {ep : Nat}, s1.heap.get? b = some o → o.data = .dict es ep → H b = none := fun {b o es ep} e d => none_of fun u z => by
      have eb := is_a z
      subst eb
      rw [ha] at e
      cases e
      exact nomatch (show Data.seq vs.toArray _ = Data.dict es ep from d)
    have ns_hid : ∀ {b : Addr} {m : Str → Option Value}, s1.heap.Ns b m → (hidT s1.heap H).Ns b m := fun {b m} ⟨o, es, ep, e, d, r⟩ => ⟨o, es, ep, hidT_get e (dict_free e d), d, r⟩
    have k_hid : K.In (hidT s1.heap H) := fun b o e => hidT_get (kin b o e) (none_of fun u z => by
      have eb := is_a z
      subst eb
      rw [apart (by rw [z]; exact fun q => nomatch q)] at e
      cases e)
    have env0 : Env0 P w K mg (hidT s1.heap H) callerA [] s1 H := {
      frames := rfl
      mod := ⟨k_hid, ns_hid hns, ⟨mb, ns_hid hb, hbb⟩, match free with | ⟨mc, h1, h2⟩ => ⟨mc, ns_hid h1, h2⟩⟩
      bs := fun b o e => of_hidT e
      bsz := Nat.le_of_eq (hidT_size _ _)
      funs := trivial
      frf := fun b z => nomatch (show b ∈ ([] : List Addr) from z)
      hok := hok
      bare := .of_eq hg }
    refine codeAny_mono ((F _ k_hid (ns_hid hns)).run callerA [] s1 H ⟨[.ref a], []⟩ [.ref a] [.ref a] _ _ hr (fun _ => rfl) env0 (hbind s1 (.ref a)) (.cons rfl .nil) (hsp H only seq)) fun r s2 h => ?_
    cases r with
    | error e =>
      obtain ⟨_, _, _, _, _, _, _, _, _, _, _, _, z⟩ := h
      exact z.elim
    | ok fl =>
      cases fl with
      | next => exact (show False from h).elim
      | brk => exact (show False from h).elim
      | cont => exact (show False from h).elim
      | ret u =>
        obtain ⟨v, H2, os, bare, un, hok2, rv, qv⟩ := h
        have qv : v = .bl true := qv
        subst qv
        cases rv
        refine ⟨rfl, OldK.of_keep fun b o e => ?_, os, bare⟩
        rcases only b with z | ⟨ob, xs, z⟩
        · exact un.keep b o e z (fun q => nomatch (show b ∈ ([] : List Addr) from q)) (fun q => nomatch q)
        · obtain ⟨e1, _⟩ := hok b _ z
          obtain ⟨e2, _⟩ := hok2 b _ (un.frzs b ob _ z)
          rw [e] at e1
          cases e1
          exact e2
  cases hk : K.lookup a with
  | some o =>
    have e := kin a o hk
    rw [ha] at e
    cases e
    exact main (fun _ => none) (fun _ => .inl rfl) (.inr ⟨_, vs.toArray, _, hk, rfl, rfl, rfl, by rw [List.size_toArray, lens]; exact hl, by simpa using rel⟩) (fun b u z => nomatch (show (none : Option HO) = some u from z)) (fun b z => (z rfl).elim) fun z => (z rfl).elim
  | none =>
    have at_a : ∀ {b : Addr} {u : HO}, (if b = a then some (HO.frz { cls := .type "list", data := .seq vs.toArray } (.lst (ns.map V.int))) else none) = some u → b = a ∧ u = HO.frz { cls := .type "list", data := .seq vs.toArray } (.lst (ns.map V.int)) := fun {b u} z => by
      split at z
      · rename_i eb
        cases z
        exact ⟨eb, rfl⟩
      · cases z
    refine main (fun b => if b = a then some (.frz { cls := .type "list", data := .seq vs.toArray } (.lst (ns.map V.int))) else none) (fun b => ?_) (.inl (.inr ⟨_, if_pos rfl⟩)) (fun b u z => ?_) (fun b z => ?_) fun _ => hk
    · by_cases eb : b = a
      · exact .inr ⟨_, _, if_pos eb⟩
      · exact .inl (if_neg eb)
    · obtain ⟨eb, eu⟩ := at_a z
      subst eb eu
      exact ⟨ha, by rw [List.length_map]; exact hl, vs, _, rel, ha⟩
    · by_cases eb : b = a
      · exact eb
      · exact (z (if_neg eb)).elim

theorem walk_law {l : PySem.W.OpenLaw} {n k : Nat} {g : Bool} {q : Program} {loose : List Str} {XP : (Str → Option Value) → Heap → Prop} {YP : World → Heap → Prop} {d : DefRec} {x : Str}
    (hn : l.most = some n) (hn2 : n ≤ sizeLine) (hdf : d.params.defaults = []) (hr : Room k callerA)
    (F : ∀ (w : World) (mg : Str → Option Value) (fa : Addr) (h : Heap), YP w h → h.Ns mainGlobals mg → mg d.name = some (.ref fa) →
      ∃ (K : PySem.W.Frag) (fd : FuncData) (sp : Sp), K.In h ∧ (∀ (s : Shared) (u : Value), BindsTo s fd ⟨[u], []⟩ [(x, u)]) ∧
        (∀ (H : Hp) (a : Addr) (ns : List Int), ns.length ≤ n → Only H → SqL K H a (ns.map V.int) → sp [.ref a] H (fun v _ => v = .bl true) fun _ _ _ => False) ∧
        ∀ base : Heap, K.In base → base.Ns mainGlobals mg → FnOkG l.prog w K mg base g k fa fd [x] sp) :
    PySem.W.WalkO q loose XP YP l.row.toRowW d [] (fun f vs => PySem.call f vs) := by
  refine Att.attach_call hn hdf fun w s0 s1 mg mb fa o pm cd doc a vs ns G Y ho hd hcd hmg hobj hs hlen hg => ?_
  obtain ⟨K, fd, sp, kin, hb, hsp, hF⟩ := F w mg fa _ Y G.T.g hmg
  exact run_law kin G.T.g G.T.b G.T.builtins G.T.nolimit hg hobj hs (Nat.le_trans hlen hn2) hr hF hb fun H hO hS => hsp H a ns hlen hO hS

/-- the script as a list that stays -/
theorem law_sp {K : PySem.W.Frag} {ca : Nat → Addr} {φ : Phi} {f : Nat} {H : Hp} {a : Addr} {ns : List Int} (hO : Only H) (hS : SqL K H a (ns.map V.int)) (hφ : PhiMono φ) (h : φ f [.ref 0] [.rol (ns.map D.int)] (fun d _ => d = .bl true) fun _ _ => False) :
    spF K ca φ f [.ref a] H (fun v _ => v = .bl true) fun _ _ _ => False := by
  have q : SqF K H a (ns.map V.int) := by
    rcases hS with (z | z) | z
    · rcases hO a with y | ⟨o, xs, y⟩
      · rw [y] at z; cases z
      · rw [y] at z; cases z
    · obtain ⟨o, z⟩ := z
      exact .inl ⟨o, z⟩
    · exact .inr z
  refine ⟨[a], [.rol (ns.map D.int)], [.ref 0], ⟨rfl, fun l o b h1 h2 => ?_, fun l m o o' b h1 h2 m1 => ?_⟩, .cons (.ref rfl) .nil, hφ _ _ _ _ _ _ _ (fun d S1 z ι' H' v x R r => ?_) (fun _ _ z => z.elim) h⟩
  · match l, h1, h2 with
    | 0, h1, h2 =>
      cases h1
      cases h2
      exact .rol q (.of_ints ns)
  · match l, h1 with
    | 0, h1 =>
      cases h1
      cases m1
  · subst z
    cases r
    rfl
end CC
/-! The head: what is looked at behind the top, and what it gives. -/
namespace CC
open L2 PySem PySem.Spec PyProof.Rows

/-! ### constants -/
mutual
def constB (K : PySem.W.Frag) : D → Value → Bool
  | .non, u => (match u with
    | .none => true
    | _ => false)
  | .bl b, u => (match u with
    | .bool c => b == c
    | _ => false)
  | .int i, u => (match u with
    | .int j _ => decide (i = j)
    | _ => false)
  | .str x, u => (match u with
    | .str y _ => decide (x = y)
    | _ => false)
  | .tup ds, u => (match u with
    | .ref a => (match K.lookup a with
      | some ⟨.type c, _, .seq its _, _⟩ => decide (c = "tuple") && (decide (its.size ≤ sizeLine) && constBs K ds its.toList)
      | _ => false)
    | _ => false)
  | .ref _, _ => false
def constBs (K : PySem.W.Frag) : List D → List Value → Bool
  | [], us => us.isEmpty
  | d :: ds, us => (match us with
    | u :: us => constB K d u && constBs K ds us
    | [] => false)
end
mutual
theorem constB_ok {K : PySem.W.Frag} : ∀ {d : D} {u : Value}, constB K d u = true → ∃ v, RelV v u ∧ ∀ ι H, RelD K ι H d v
  | .non, u, h => by
    simp only [constB] at h
    split at h
    · exact ⟨.non, rfl, fun _ _ => .non⟩
    · cases h
  | .bl b, u, h => by
    simp only [constB] at h
    split at h
    · exact ⟨.bl b, by rw [eq_of_beq h]; rfl, fun _ _ => .bl b⟩
    · cases h
  | .int i, u, h => by
    simp only [constB] at h
    split at h
    · exact ⟨.int i, by rw [of_decide_eq_true h]; exact ⟨_, rfl⟩, fun _ _ => .int i⟩
    · cases h
  | .str x, u, h => by
    simp only [constB] at h
    split at h
    · exact ⟨.str x, by rw [of_decide_eq_true h]; exact ⟨_, rfl⟩, fun _ _ => .str x⟩
    · cases h
  | .tup ds, u, h => by
    simp only [constB] at h
    split at h
    · rename_i a
      split at h
      · rename_i c dd its n sl hl
        simp only [Bool.and_eq_true, decide_eq_true_eq] at h
        obtain ⟨h1, h2, h3⟩ := h
        subst h1
        obtain ⟨vs, r, rd⟩ := constBs_ok h3
        exact ⟨.ref a, rfl, fun ι H => .tup (.inr ⟨_, its, n, hl, rfl, rfl, h2, r⟩) (rd ι H)⟩
      · cases h
    · cases h
  | .ref l, u, h => by
    simp only [constB] at h
    cases h
theorem constBs_ok {K : PySem.W.Frag} : ∀ {ds : List D} {us : List Value}, constBs K ds us = true → ∃ vs, Vals vs us ∧ ∀ ι H, RelDs K ι H ds vs
  | [], us, h => by
    simp only [constBs] at h
    cases us with
    | nil => exact ⟨[], .nil, fun _ _ => .nil⟩
    | cons _ _ => cases h
  | d :: ds, us, h => by
    simp only [constBs] at h
    split at h
    · simp only [Bool.and_eq_true] at h
      obtain ⟨v, r, rd⟩ := constB_ok h.1
      obtain ⟨vs, rs, rds⟩ := constBs_ok h.2
      exact ⟨v :: vs, .cons r rs, fun ι H => .cons (rd ι H) (rds ι H)⟩
    · cases h
end
def globB (K : PySem.W.Frag) (p : Str × D) : Bool := match PySem.W.nsIn K mainGlobals p.1 with
  | some (some u) => constB K p.2 u
  | _ => false

/-! ### properties -/
/-- the class has x as a property -/
def propB (K : PySem.W.Frag) (p : Str × Str) : Bool := He.eqO (PySem.W.findIn K (.ref (He.ga K p.1)) p.2) (some (some (.ref (He.ma K (He.ga K p.1) p.2)))) && (He.eqO (PySem.W.specialIn K (.ref (He.ma K (He.ga K p.1) p.2)) "__get__") (some (some (.builtin "property.__get__"))) &&
  (decide (PySem.W.takesIn K (.ref (He.ma K (He.ga K p.1) p.2)) = some true) && (match PySem.W.recIn K (He.ma K (He.ga K p.1) p.2) "property" with
    | some (.ref _ :: _) => true
    | _ => false)))
/-- the class has its own == -/
def ownEqB (K : PySem.W.Frag) (p : Str × Str) : Bool := He.eqO (PySem.W.findIn K (.ref (He.ga K p.1)) "__eq__") (some (some (.ref (He.ma K (He.ga K p.1) p.2)))) && (PySem.W.isFn K (.ref (He.ma K (He.ga K p.1) p.2)) &&
  (He.eqO (PySem.W.findIn K (.ref (He.ga K p.1)) "__class__") (some (some (.builtin "object.__class__"))) && (He.eqO (PySem.W.specialIn K (.builtin "object.__class__") "__get__") (some (some (.builtin "getset_descriptor.__get__"))) &&
  (decide (PySem.W.takesIn K (.builtin "object.__class__") = some true) && (decide (PySem.W.mroIn K (He.ga K p.1) (.type "object") = some true) && (decide (PySem.W.kitOne K (.ref (He.ga K p.1)) (.ref (He.ga K p.1)) = some true) && (He.eqO (PySem.W.findIn K (.ref (He.ga K p.1)) "__ne__") (some (some (.builtin "object.__ne__"))) &&
  (tyNames.all fun t => decide (PySem.W.subIn K (.type t) (.ref (He.ga K p.1)) = some false) && decide (PySem.W.kitOne K (.type t) (.ref (He.ga K p.1)) = some false)))))))))
theorem ownEqB_ok {K : PySem.W.Frag} {p : Str × Str} (h : ownEqB K p = true) : EqOf K (He.ga K p.1) (He.ma K (He.ga K p.1) p.2) := by
  obtain ⟨h1, h⟩ := He.ba h
  obtain ⟨h2, h⟩ := He.ba h
  obtain ⟨h3, h⟩ := He.ba h
  obtain ⟨h4, h⟩ := He.ba h
  obtain ⟨h5, h⟩ := He.ba h
  obtain ⟨h6, h⟩ := He.ba h
  obtain ⟨h7, h⟩ := He.ba h
  obtain ⟨h8, h9⟩ := He.ba h
  have ts := fun t ht => He.ba (List.all_eq_true.mp h9 t ht)
  exact ⟨He.eqO_ok h1, h2, He.eqO_ok h3, He.eqO_ok h4, of_decide_eq_true h5, of_decide_eq_true h6, of_decide_eq_true h7, He.eqO_ok h8, fun t ht => of_decide_eq_true (ts t ht).1, fun t ht => of_decide_eq_true (ts t ht).2⟩
/-- .. or x as a property -/
def propQ (K : PySem.W.Frag) (p : Str × Str) : Bool := if decide (p.2 = "__eq__") = true then ownEqB K p else propB K p
theorem propB_ok {K : PySem.W.Frag} {p : Str × Str} (h : propB K p = true) : PropOf K (He.ga K p.1) p.2 (He.ma K (He.ga K p.1) p.2) (He5.wf K (He.ga K p.1) "property" p.2) := by
  obtain ⟨h1, h⟩ := He.ba h
  obtain ⟨h2, h⟩ := He.ba h
  obtain ⟨h3, h4⟩ := He.ba h
  refine ⟨He.eqO_ok h1, He.eqO_ok h2, of_decide_eq_true h3, ?_⟩
  unfold He5.wf
  split at h4
  · rename_i f r e
    exact ⟨r, by rw [e]⟩
  · cases h4

/-! ### the hook -/
def hookC (n : Nat) (fa : List He.Fa) (fn : List He5.DefA) (gls : List (Str × D)) (prs : List (Str × Str)) (mf : Str) (exs : List Nat) : PySem.W.Hook where
  α := He.AlD × Bool
  obs := fun s => (He5.obsA fa fn (He.frG s.heap.get? (He5.asA s.heap.get? n)), (gls.all fun p => globB (He.frG s.heap.get? (He5.asA s.heap.get? n)) p) && (prs.all fun p => propQ (He.frG s.heap.get? (He5.asA s.heap.get? n)) p) && exAll (He.frG s.heap.get? (He5.asA s.heap.get? n)) mf exs)
  val := fun _ => (He5.valA fn, true)
  says := fun _ h => ∃ K : PySem.W.Frag, K.In h ∧ He5.SaysA fa fn K ∧ ((gls.all fun p => globB K p) && (prs.all fun p => propQ K p) && exAll K mf exs) = true
  of := fun _ _ e => ⟨_, He.frG_in, congrArg (fun z : He.AlD × Bool => z.1) e, congrArg (fun z : He.AlD × Bool => z.2) e⟩
  keeps := fun _ _ _ ⟨K, hK, c⟩ k => ⟨K, PySem.W.Frag.In.keeps hK k, c⟩
def obsC (n : Nat) (fa : List He.Fa) (fn : List He5.DefA) (gls : List (Str × D)) (prs : List (Str × Str)) (mf : Str) (exs : List Nat) (g : Addr → Option Obj) : He.AlD × Bool := (He5.obsA fa fn (He.frG g (He5.asA g n)), (gls.all fun p => globB (He.frG g (He5.asA g n)) p) && (prs.all fun p => propQ (He.frG g (He5.asA g n)) p) && exAll (He.frG g (He5.asA g n)) mf exs)
theorem obsC_eq {n : Nat} {fa : List He.Fa} {fn : List He5.DefA} {gls : List (Str × D)} {prs : List (Str × Str)} {mf : Str} {exs : List Nat} {g : Addr → Option Obj} {s : Shared} (h : ∀ a, g a = s.heap.get? a) : obsC n fa fn gls prs mf exs g = (hookC n fa fn gls prs mf exs).obs s := by
  have e : g = s.heap.get? := funext h
  rw [e]
  rfl

/-! ### the table of a law -/
structure Tab where
  ids : List Nat
  fns : List Fn
  defs : List He.DefD
  gls : List (Str × D)
  kws : List (List (Nat × List Str × List Nat))
  cids : List Nat := []
  clss : List Cl := []
  exs : List Nat := []
  mf : Str := ""
def at? {α : Type} (f : Nat) : List Nat → List α → Option α
  | i :: is, a :: as => if Nat.beq i f then some a else at? f is as
  | _, _ => none
def Tab.T (t : Tab) (f : Nat) : Option Fn := at? f t.ids t.fns
def Tab.kw (t : Tab) (f : Nat) : List (Nat × List Str × List Nat) := (at? f t.ids t.kws).getD []
def Tab.C (t : Tab) (c : Nat) : Option Cl := at? c t.cids t.clss
/-- what is looked at of a class -/
def Cl.fa (c : Cl) : List He.Fa := .glo c.name :: .cls c.name :: .mkr c.name :: c.fields.map (.noat c.name)
def Tab.fa (t : Tab) : List He.Fa := (t.fns.filter fun f => f.cls.isNone).map (fun f => .glo f.name) ++ bltNames.map .free ++ t.clss.flatMap Cl.fa
def Tab.prs (t : Tab) : List (Str × Str) := t.clss.flatMap fun c => c.props.map fun q => (c.name, q.1)
/-- where a function stands -/
def adrOf (K : PySem.W.Frag) (fn : Fn) : Addr := match fn.cls with
  | none => He.ga K fn.name
  | some c => if fn.prop then He5.wf K (He.ga K c) "property" fn.name else He.ma K (He.ga K c) fn.name
def defA (fn : Fn) (d : He.DefD) : He5.DefA := ⟨fun K => adrOf K fn, d.name, d.qual, d.params, d.body, d.scope, [], []⟩
def Tab.das (t : Tab) : List He5.DefA := (t.fns.zip t.defs).map fun p => defA p.1 p.2
/-- the addresses of classes, of functions -/
def Tab.ca (t : Tab) (K : PySem.W.Frag) (n : Nat) : Addr := if n < 1000000 then (if n < 500000 then (match t.C n with
    | some c => He.ga K c.name
    | none => 0) else He.ga K (exNm n)) else (match t.T (n - 1000000) with
    | some fn => adrOf K fn
    | none => 0)
/-- a class's functions are in the table -/
def Tab.clB (t : Tab) (p : Nat × Cl) : Bool := decide (p.1 < 500000) && (match t.T p.2.init with
    | some fn => decide (fn.cls = some p.2.name) && !fn.prop && decide (fn.name = "__init__")
    | none => false) && p.2.props.all fun q => (match t.T q.2 with
    | some fn => decide (fn.cls = some p.2.name) && (if decide (q.1 = "__eq__") = true then !fn.prop else fn.prop) && decide (fn.name = q.1)
    | none => false)
/-- a scope is a plain def's -/
def scopeB (N P : List Str) (sc : Scope) : Bool := (match sc.kind with
    | .function => true
    | _ => false) && !sc.isCoroutine && !sc.isGenerator && decide N.Nodup && decide (N.take P.length = P) && (P.all fun x => match sc.names.lookup x with
    | some .local => true
    | some .cell => true
    | _ => false) && sc.names.all fun y => match y.2 with
    | .free => false
    | _ => true
theorem scopeB_ok {N P : List Str} {sc : Scope} (h : scopeB N P sc = true) : FnScope N P sc := by
  unfold scopeB at h
  simp only [Bool.and_eq_true, Bool.not_eq_true', decide_eq_true_eq, List.all_eq_true] at h
  obtain ⟨⟨⟨⟨⟨⟨h1, h2⟩, h3⟩, h4⟩, h5⟩, h6⟩, h7⟩ := h
  refine ⟨?_, h2, h3, h4, h5, fun x hx => ?_, fun y hy e => ?_⟩
  · split at h1
    · assumption
    · cases h1
  · have q := h6 x hx
    split at q
    · exact .inl (by assumption)
    · exact .inr (by assumption)
    · cases q
  · have q := h7 y hy
    rw [e] at q
    cases q
def Tab.okB (t : Tab) (fn : Fn) (d : He.DefD) : Bool := decide (d.name = fn.name) && d.dfl.isEmpty && d.kwd.isEmpty && scopeB fn.N fn.ps d.scope && chkSs ⟨fn.N, d.scope, fun _ => true, t.T, t.kw, t.gls, fn.g, t.C, t.exs.contains, true⟩ fn.body d.body
/-- how a def's parameters are bound -/
structure BindOk (d : He.DefD) (ps : List Str) (kws : List (Nat × List Str × List Nat)) : Prop where
  plain : ∀ (kV doc pm : Value) (an : Option Addr) (cdv ct : Value) (us : List Value), us.length = ps.length → bindArgs (PySem.W.fnOf d.name d.qual d.params d.body d.scope .none kV doc pm an cdv ct) ⟨us, []⟩ = pure (ps.zip us)
  kw : ∀ q ∈ kws, ∀ (kV doc pm : Value) (an : Option Addr) (cdv ct : Value) (us ws rs : List Value), us.length = q.1 → ws.length = q.2.1.length → pick (us ++ ws) q.2.2 = some rs → rs.length = ps.length → bindArgs (PySem.W.fnOf d.name d.qual d.params d.body d.scope .none kV doc pm an cdv ct) ⟨us, q.2.1.zip ws⟩ = pure (ps.zip rs)
inductive BindsOk : List Fn → List He.DefD → List (List (Nat × List Str × List Nat)) → Prop
  | nil : BindsOk [] [] []
  | cons {f : Fn} {d : He.DefD} {k : List (Nat × List Str × List Nat)} {fs : List Fn} {ds : List He.DefD} {ks : List (List (Nat × List Str × List Nat))} : BindOk d f.ps k → BindsOk fs ds ks → BindsOk (f :: fs) (d :: ds) (k :: ks)
theorem BindsOk.get {fs : List Fn} {ds : List He.DefD} {ks : List (List (Nat × List Str × List Nat))} (h : BindsOk fs ds ks) : ∀ {is : List Nat} {n : Nat} {f : Fn}, at? n is fs = some f → ∃ (i : Nat) (d : He.DefD), fs[i]? = some f ∧ ds[i]? = some d ∧ BindOk d f.ps ((at? n is ks).getD []) := by
  induction h with
  | nil =>
    intro is n f h
    cases is <;> cases h
  | cons b _ ih =>
    intro is n f h
    cases is with
    | nil => cases h
    | cons i is =>
      unfold at? at h ⊢
      split at h
      · rename_i hi
        cases h
        rw [if_pos hi]
        exact ⟨0, _, rfl, rfl, b⟩
      · rename_i hi
        rw [if_neg hi]
        obtain ⟨j, d, e1, e2, q⟩ := ih h
        exact ⟨j + 1, d, by simpa using e1, by simpa using e2, q⟩
theorem zip_all {α β : Type} {p : α → β → Bool} : ∀ {as : List α} {bs : List β}, ((as.zip bs).all fun q => p q.1 q.2) = true → ∀ {i : Nat} {a : α} {b : β}, as[i]? = some a → bs[i]? = some b → p a b = true
  | a :: as, b :: bs, h, 0, _, _, h1, h2 => by
    simp at h1 h2
    subst h1 h2
    simp only [List.zip_cons_cons, List.all_cons, Bool.and_eq_true] at h
    exact h.1
  | a :: as, b :: bs, h, i + 1, _, _, h1, h2 => by
    simp only [List.zip_cons_cons, List.all_cons, Bool.and_eq_true] at h
    exact zip_all h.2 (i := i) (by simpa using h1) (by simpa using h2)
  | [], _, _, i, _, _, h1, _ => by simp at h1
  | _ :: _, [], _, i, _, _, _, h2 => by simp at h2

section
variable {t : Tab} {P : Program} {w : World} {K : PySem.W.Frag} {mg : Str → Option Value} {h : Heap}
theorem Tab.fadr_eq {f : Nat} {fn : Fn} (hf : t.T f = some fn) : fadr (t.ca K) f = adrOf K fn := by
  unfold fadr Tab.ca
  rw [if_neg (by omega), Nat.add_sub_cancel, hf]
theorem at?_mem {α : Type} {f : Nat} : ∀ {is : List Nat} {as : List α} {a : α}, at? f is as = some a → (f, a) ∈ is.zip as
  | i :: is, x :: as, a, h => by
    unfold at? at h
    split at h
    · rename_i e
      cases h
      rw [Nat.eq_of_beq_eq_true e]
      simp
    · simpa using Or.inr (at?_mem h)
  | [], _, _, h => by cases h
  | _ :: _, [], _, h => by cases h
theorem Tab.clF (kin : K.In h) (ns : h.Ns mainGlobals mg) (c : He5.SaysA t.fa t.das K) (cp : (t.prs.all fun p => propQ K p) = true) (ok : ((t.cids.zip t.clss).all fun p => t.clB p) = true) : ∀ n cl, t.C n = some cl → ClF K mg (t.ca K) n cl := fun n cl hc => by
  have hm := at?_mem hc
  have o := List.all_eq_true.mp ok _ hm
  unfold Tab.clB at o
  simp only [Bool.and_eq_true, decide_eq_true_eq] at o
  obtain ⟨⟨o1, o2⟩, o3⟩ := o
  have fact : ∀ f ∈ cl.fa, f.ok K = true := fun f hf => by
    have hi : f ∈ t.fa := List.mem_append_right _ (List.mem_flatMap.mpr ⟨cl, (List.of_mem_zip hm).2, hf⟩)
    obtain ⟨i, hi⟩ := List.getElem?_of_mem hi
    exact c.fact i hi
  have eca : t.ca K n = He.ga K cl.name := by
    unfold Tab.ca
    rw [if_pos (by omega), if_pos o1, hc]
  refine ⟨?_, ?_, fun x hx => ?_, fun q hq hne => ?_, fun q hq heq => ?_, ?_⟩
  · rw [eca]
    exact He.glo_ok kin ns (fact (.glo cl.name) (by simp [Cl.fa]))
  · rw [eca]
    exact He.cls_ok (fact (.cls cl.name) (by simp [Cl.fa]))
  · rw [eca]
    exact He.noat_ok (fact (.noat cl.name x) (by simp [Cl.fa, hx]))
  · have z := List.all_eq_true.mp o3 q hq
    split at z
    · rename_i fn hfn
      simp only [Bool.and_eq_true, decide_eq_true_eq] at z
      obtain ⟨⟨z1, z2⟩, z3⟩ := z
      rw [if_neg hne] at z2
      rw [Tab.fadr_eq hfn, eca]
      unfold adrOf
      rw [z1]
      dsimp only
      rw [if_pos z2, z3]
      have pq := List.all_eq_true.mp cp _ (List.mem_flatMap.mpr ⟨cl, (List.of_mem_zip hm).2, List.mem_map.mpr ⟨q, hq, rfl⟩⟩)
      unfold propQ at pq
      rw [if_neg (by simpa using hne)] at pq
      exact ⟨_, propB_ok (p := (cl.name, q.1)) pq⟩
    · cases z
  · have z := List.all_eq_true.mp o3 q hq
    split at z
    · rename_i fn hfn
      simp only [Bool.and_eq_true, decide_eq_true_eq] at z
      obtain ⟨⟨z1, z2⟩, z3⟩ := z
      rw [if_pos heq] at z2
      simp only [Bool.not_eq_true'] at z2
      rw [Tab.fadr_eq hfn, eca]
      unfold adrOf
      rw [z1]
      dsimp only
      rw [if_neg (by rw [z2]; exact Bool.false_ne_true), z3]
      have pq := List.all_eq_true.mp cp _ (List.mem_flatMap.mpr ⟨cl, (List.of_mem_zip hm).2, List.mem_map.mpr ⟨q, hq, rfl⟩⟩)
      unfold propQ at pq
      rw [if_pos (by simpa using heq)] at pq
      exact ownEqB_ok (p := (cl.name, q.1)) pq
    · cases z
  · split at o2
    · rename_i fn hfn
      simp only [Bool.and_eq_true, decide_eq_true_eq, Bool.not_eq_true'] at o2
      obtain ⟨⟨z1, z2⟩, z3⟩ := o2
      rw [Tab.fadr_eq hfn, eca]
      unfold adrOf
      rw [z1]
      dsimp only
      rw [if_neg (by rw [z2]; exact Bool.false_ne_true), z3]
      exact He.mkr_ok (fact (.mkr cl.name) (by simp [Cl.fa]))
    · cases o2
theorem Tab.fnS (kin : K.In h) (ns : h.Ns mainGlobals mg) (c : He5.SaysA t.fa t.das K) (ok : ((t.fns.zip t.defs).all fun p => t.okB p.1 p.2) = true) (hb : BindsOk t.fns t.defs t.kws) : ∀ f fn, t.T f = some fn → FnS K mg (t.ca K) t.T t.kw t.gls t.C t.exs.contains f fn := fun f fn hf => by
  obtain ⟨j, d, hj, hd, b⟩ := hb.get hf
  have o := zip_all ok (i := j) (a := fn) (b := d) hj hd
  unfold Tab.okB at o
  simp only [Bool.and_eq_true, decide_eq_true_eq, List.isEmpty_iff] at o
  obtain ⟨⟨⟨⟨o2, o4⟩, o5⟩, o6⟩, o7⟩ := o
  have hz : t.das[j]? = some (defA fn d) := by
    unfold Tab.das
    rw [List.getElem?_map, (List.getElem?_zip_eq_some (z := (fn, d))).mpr ⟨hj, hd⟩]
    rfl
  obtain ⟨fd, F⟩ := c.def_ j hz
  have ea := Tab.fadr_eq (K := K) hf
  have F : FunD K d.name d.qual d.params d.body d.scope [] [] (adrOf K fn) fd := F
  rw [o2, ← ea] at F
  obtain ⟨oc, od, dV, kV, doc, pm, an, cdv, ct, osl, efd, lk, hcd, hD, hK⟩ := F.ex
  have hV : dV = .none := by
    rcases hD with ⟨_, z⟩ | ⟨z, _⟩
    · exact z
    · exact absurd rfl z
  subst hV
  refine ⟨fd, d.qual, d.params, d.body, d.scope, F, fun hn => ?_, scopeB_ok o6, fun s us hl => ?_, fun q hq s us ws rs h1 h2 h3 h4 => ?_, o7⟩
  · rw [ea]
    unfold adrOf
    rw [hn]
    have hi : He.Fa.glo fn.name ∈ t.fa := List.mem_append_left _ (List.mem_append_left _ (List.mem_map.mpr ⟨fn, List.mem_filter.mpr ⟨List.mem_of_getElem? hj, by rw [hn]; rfl⟩, rfl⟩))
    obtain ⟨i, hi⟩ := List.getElem?_of_mem hi
    exact He.glo_ok kin ns (c.fact i hi)
  · subst efd
    rw [← o2]
    exact .of_eq (b.plain kV doc pm an cdv ct us hl)
  · subst efd
    rw [← o2]
    exact .of_eq (b.kw q hq kV doc pm an cdv ct us ws rs h1 h2 h3 h4)
theorem Tab.free (kin : K.In h) (ns : h.Ns mainGlobals mg) (c : He5.SaysA t.fa t.das K) : ∀ x ∈ bltNames, mg x = none := fun x hx => by
  have hi : He.Fa.free x ∈ t.fa := List.mem_append_left _ (List.mem_append_right _ (List.mem_map.mpr ⟨x, hx, rfl⟩))
  obtain ⟨i, hi⟩ := List.getElem?_of_mem hi
  exact He.free_ok kin ns (c.fact i hi)
theorem Tab.globs (kin : K.In h) (ns : h.Ns mainGlobals mg) (c : (t.gls.all fun p => globB K p) = true) : ∀ p ∈ t.gls, ∃ v u, mg p.1 = some u ∧ RelV v u ∧ ∀ ι H, RelD K ι H p.2 v := fun p hp => by
  have q := List.all_eq_true.mp c p hp
  unfold globB at q
  split at q
  · rename_i u hu
    obtain ⟨v, r, rd⟩ := constB_ok q
    exact ⟨v, u, PySem.W.mg_of kin ns hu, r, rd⟩
  · cases q
end

/-- THE END: the law's def is number f of the table -/
theorem walk_tab {l : PySem.W.OpenLaw} {n k f m : Nat} {t : Tab} {fn : Fn} {x : Str} {q : Program} {loose : List Str} {XP : (Str → Option Value) → Heap → Prop} {d : DefRec}
    (hn : l.most = some n) (hn2 : n ≤ sizeLine) (hdf : d.params.defaults = []) (hr : Room (k + 1) callerA) (hf : t.T f = some fn) (hx : fn.ps = [x]) (hd : d.name = fn.name) (hno : fn.cls = none) (okc : ((t.cids.zip t.clss).all fun p => t.clB p) = true) (oke : (t.exs.all fun c => decide (500000 ≤ c) && decide (c < 1000000)) = true) (hmf : l.prog.main.file = t.mf) (hsu : (l.prog.main.scope.names.lookup ("super" : Str)).isSome = false)
    (ok : ((t.fns.zip t.defs).all fun p => t.okB p.1 p.2) = true) (hb : BindsOk t.fns t.defs t.kws)
    (hlaw : ∀ ns : List Int, ns.length ≤ n → wpF t.T (k + 1) f [.ref 0] [.rol (ns.map D.int)] (fun d _ => d = .bl true) fun _ _ => False) :
    PySem.W.WalkO q loose XP (hookC m t.fa t.das t.gls t.prs t.mf t.exs).says l.row.toRowW d [] (fun f vs => PySem.call f vs) := by
  refine walk_law (g := fn.g) (k := k + 1) (x := x) hn hn2 hdf hr fun w mg fa h Y G hmg => ?_
  obtain ⟨K, kin, c1, c2⟩ := Y
  obtain ⟨c2, c4⟩ := He.ba c2
  obtain ⟨c2, c3⟩ := He.ba c2
  have hS := Tab.fnS kin G c1 ok hb
  have hC := Tab.clF kin G c1 c3 okc
  have hX : ∀ c, t.exs.contains c = true → ExF K l.prog mg (t.ca K) t.exs.contains c ∧ mg "ValueError" = none := fun c hc => exAll_ok kin G hmf hsu (fun c hc => by
    have z := List.all_eq_true.mp oke c hc
    simp only [Bool.and_eq_true, decide_eq_true_eq] at z
    unfold Tab.ca
    rw [if_pos z.2, if_neg (by omega)]) c4 hc
  obtain ⟨fd, qual, params, body, scope, F, hm, S, b1, b2, hc⟩ := (hS f fn hf).ex
  rw [hd, hm hno] at hmg
  have hfa := Value.ref.inj (Option.some.inj hmg)
  subst hfa
  refine ⟨K, fd, spF K (t.ca K) (wpF t.T (k + 1)) f, kin, fun s u => ?_, fun H b ns hl hO hq => law_sp hO hq (wpF_mono _ _) (hlaw ns hl), fun base _ _ => ?_⟩
  · have z := b1 s [u] (by rw [hx]; rfl)
    rw [hx] at z
    exact z
  · have z := step (P := l.prog) (w := w) (base := base) (ca := t.ca K) (Tab.free kin G c1) (Tab.globs kin G c2) hC hX (fun f fn hf => level hC hX hS (Tab.free kin G c1) (Tab.globs kin G c2) k f fn hf) hf F S hc
    rw [hx] at z
    exact z
end CC
/-! Rules of the plain language, for the laws. -/
namespace CC
open PySem L2

/-! ### bounds -/
def Bd (n : Nat) (i : Int) : Prop := i.natAbs < 2 ^ n
theorem pow_mono {m n : Nat} (h : m ≤ n) : 2 ^ m ≤ 2 ^ n := Nat.pow_le_pow_right (by decide) h
theorem Bd.mono {m n : Nat} {i : Int} (h : Bd m i) (hm : m ≤ n) : Bd n i := Nat.lt_of_lt_of_le h (pow_mono hm)
theorem Bd.add {m n : Nat} {i j : Int} (hi : Bd m i) (hj : Bd n j) : Bd (max m n + 1) (i + j) := by
  have h1 : i.natAbs < 2 ^ (max m n) := hi.mono (Nat.le_max_left _ _)
  have h2 : j.natAbs < 2 ^ (max m n) := hj.mono (Nat.le_max_right _ _)
  unfold Bd
  rw [Nat.pow_succ]
  omega
theorem Bd.sub {m n : Nat} {i j : Int} (hi : Bd m i) (hj : Bd n j) : Bd (max m n + 1) (i - j) := by
  have h1 : i.natAbs < 2 ^ (max m n) := hi.mono (Nat.le_max_left _ _)
  have h2 : j.natAbs < 2 ^ (max m n) := hj.mono (Nat.le_max_right _ _)
  unfold Bd
  rw [Nat.pow_succ]
  omega
theorem Bd.neg {m : Nat} {i : Int} (hi : Bd m i) : Bd m (-i) := by
  unfold Bd at *
  omega
theorem Bd.mul {m n : Nat} {i j : Int} (hi : Bd m i) (hj : Bd n j) : Bd (m + n) (i * j) := by
  unfold Bd at *
  rw [Int.natAbs_mul, Nat.pow_add]
  exact Nat.mul_lt_mul'' hi hj
theorem log2_lt_of {n k : Nat} (h : n < 2 ^ k) (hk : 0 < k) : n.log2 < k := by
  rcases Nat.eq_zero_or_pos n with h0 | hp
  · rw [h0]; simpa using hk
  · exact (Nat.log2_lt (Nat.ne_of_gt hp)).mpr h
theorem Bd.bits {n : Nat} {i : Int} (h : Bd n i) : Builtin.Int.intBits i ≤ n := by
  unfold Builtin.Int.intBits
  split
  · exact Nat.zero_le _
  · rename_i h0
    rcases Nat.eq_zero_or_pos n with hn | hn
    · subst hn
      unfold Bd at h
      have : i = 0 := by omega
      subst this
      simp at h0
    · have := log2_lt_of h hn
      omega
theorem Bd.mulOk {m n : Nat} {i j : Int} (hi : Bd m i) (hj : Bd n j) (hm : m ≤ 2 ^ 20) (hn : n ≤ 2 ^ 20) : IntMulOk i j :=
  IntMulOk.of_bits (Nat.le_trans hi.bits hm) (Nat.le_trans hj.bits hn)
theorem Bd.divOk {n : Nat} {i j : Int} (hj : Bd n j) (hn : n ≤ 9000) : DivOk i j := by
  unfold DivOk Builtin.divisionGoesByPylong
  have : decide ((if (j == 0) = true then 0 else j.natAbs.log2 / 30 + 1) > 300) = false := by
    apply decide_eq_false
    split
    · omega
    · rename_i h0
      have : j.natAbs.log2 < 9000 := log2_lt_of (hj.mono hn) (by decide)
      omega
  dsimp only
  rw [this]
  rfl
theorem Bd.divNum {n : Nat} {i j : Int} (hi : Bd n i) (hn : n ≤ 13500) : DivOk i j := by
  unfold DivOk Builtin.divisionGoesByPylong
  have h1 : (if (i == 0) = true then 0 else i.natAbs.log2 / 30 + 1) ≤ 450 := by
    split
    · omega
    · have : i.natAbs.log2 < 13500 := log2_lt_of (hi.mono hn) (by decide)
      omega
  have h2 : (decide ((if (j == 0) = true then 0 else j.natAbs.log2 / 30 + 1) > 300) && decide ((if (i == 0) = true then 0 else i.natAbs.log2 / 30 + 1) > (if (j == 0) = true then 0 else j.natAbs.log2 / 30 + 1) + 150)) = false := by
    generalize (if (j == 0) = true then 0 else j.natAbs.log2 / 30 + 1) = y
    generalize (if (i == 0) = true then 0 else i.natAbs.log2 / 30 + 1) = x at h1
    rw [Bool.and_eq_false_iff]
    rcases Nat.lt_or_ge 300 y with z | z
    · exact .inr (decide_eq_false (by omega))
    · exact .inl (decide_eq_false (by omega))
  dsimp only
  exact h2
theorem Bd.powOk {n : Nat} {i : Int} {k : Int} (hi : Bd n i) (h : (n : Int) * k ≤ 2 ^ 27) (hk : 0 ≤ k) : (Builtin.Int.intBits i : Int) * k ≤ 2 ^ 27 := by
  have := hi.bits
  refine Int.le_trans (Int.mul_le_mul_of_nonneg_right (by omega) hk) h
theorem fdiv_natAbs (i j : Int) : (i.fdiv j).natAbs ≤ i.natAbs := by
  rcases Int.lt_trichotomy j 0 with hj | hj | hj
  · have e : i.fdiv j = (-i) / (-j) := by
      rw [← Int.neg_fdiv_neg, Int.fdiv_eq_ediv_of_nonneg _ (by omega)]
    rw [e]
    have := Int.natAbs_ediv_le_natAbs (-i) (-j)
    omega
  · subst hj; simp
  · rw [Int.fdiv_eq_ediv_of_nonneg _ (by omega)]
    exact Int.natAbs_ediv_le_natAbs i j
theorem Bd.fdiv {m : Nat} {i : Int} (hi : Bd m i) (j : Int) : Bd m (i.fdiv j) := Nat.lt_of_le_of_lt (fdiv_natAbs i j) hi
theorem Bd.of {n : Nat} {i : Int} (h1 : -(2 ^ n) < i) (h2 : i < 2 ^ n) : Bd n i := by
  unfold Bd
  have : ((2 ^ n : Nat) : Int) = 2 ^ n := by simp
  omega
theorem Bd.le {n : Nat} {i : Int} (h : Bd n i) : -(2 ^ n) < i ∧ i < 2 ^ n := by
  unfold Bd at h
  have : ((2 ^ n : Nat) : Int) = 2 ^ n := by simp
  omega
/-! ### what is wanted, weakened -/
theorem use {T : Nat → Option Fn} {k f : Nat} {ds : List D} {S : Store} {P Q : Post} {E : EPost} (h : wpF T k f ds S P fun _ _ => False) (hq : ∀ d S1, P d S1 → Q d S1) : wpF T k f ds S Q E :=
  wpF_mono T k f ds S P Q _ E hq (fun _ _ z => z.elim) h

/-! ### cases -/
def onV (o : Option (Option D)) (Q : D → Prop) : Prop := match o with
  | some (some d) => Q d
  | _ => False
def onB (o : Option Bool) (P Q : Prop) : Prop := match o with
  | some true => P
  | some false => Q
  | none => False
def onN (o : Option Bool) (Q : Bool → Prop) : Prop := match o with
  | some b => Q b
  | none => False
def onD (z : D) (P Q : Prop) : Prop := match z with
  | .bl true => P
  | .bl false => Q
  | _ => False
def onO (o : Option D) (Q : D → Prop) : Prop := match o with
  | some x => Q x
  | none => False
def onL (o : Option (List D)) (Q : List D → Prop) : Prop := match o with
  | some x => Q x
  | none => False
def on2 (ds : List D) (Q : D → D → Prop) : Prop := match ds with
  | [a, b] => Q a b
  | _ => False
def on3 (ds : List D) (Q : D → D → D → Prop) : Prop := match ds with
  | [a, b, c] => Q a b c
  | _ => False
def onC (bs : List D) (S : Store) (yes no : Prop) : Prop := match bs with
  | [] => yes
  | [b] => onB (truth b S) yes no
  | _ => False
def onAug (op : Operator) (x y : D) (Q : D → Prop) : Prop := match op, x, y with
  | .Add, .int a, .int b => Q (.int (a + b))
  | .Sub, .int a, .int b => Q (.int (a - b))
  | .Mult, .int a, .int b => IntMulOk a b ∧ Q (.int (a * b))
  | _, _, _ => False
def onSet (x y : D) (S : Store) (d : D) (Q : Store → Prop) : Prop := match x, y with
  | .ref l, .int k => (match S[l]? with
    | some (.lst xs) => (match ixN xs.length k with
      | some j => Q (S.set l (.lst (xs.set j d)))
      | none => False)
    | _ => False)
  | _, _ => False
theorem onV_some (d : D) (Q : D → Prop) : onV (some (some d)) Q = Q d := rfl
theorem onB_some (b : Bool) (P Q : Prop) : onB (some b) P Q = (if b = true then P else Q) := by cases b <;> rfl
theorem onN_some (b : Bool) (Q : Bool → Prop) : onN (some b) Q = Q b := rfl
theorem onD_bl (b : Bool) (P Q : Prop) : onD (.bl b) P Q = (if b = true then P else Q) := by cases b <;> rfl
theorem onO_some (x : D) (Q : D → Prop) : onO (some x) Q = Q x := rfl
theorem onL_some (x : List D) (Q : List D → Prop) : onL (some x) Q = Q x := rfl
theorem on2_eq (a b : D) (Q : D → D → Prop) : on2 [a, b] Q = Q a b := rfl
theorem on3_eq (a b c : D) (Q : D → D → D → Prop) : on3 [a, b, c] Q = Q a b c := rfl
theorem onC_nil (S : Store) (P Q : Prop) : onC [] S P Q = P := rfl
theorem onC_one (b : D) (S : Store) (P Q : Prop) : onC [b] S P Q = onB (truth b S) P Q := rfl
theorem onSet_eq {l : Nat} {k : Int} {S : Store} {d : D} {Q : Store → Prop} {xs : List D} {j : Nat} (h : S[l]? = some (.lst xs)) (hj : ixN xs.length k = some j) (q : Q (S.set l (.lst (xs.set j d)))) : onSet (.ref l) (.int k) S d Q := by
  unfold onSet
  dsimp only
  rw [h]
  dsimp only
  rw [hj]
  exact q
theorem onAug_sub (a b : Int) (Q : D → Prop) : onAug .Sub (.int a) (.int b) Q = Q (.int (a - b)) := rfl
theorem onAug_add (a b : Int) (Q : D → Prop) : onAug .Add (.int a) (.int b) Q = Q (.int (a + b)) := rfl
theorem onAug_mul (a b : Int) (Q : D → Prop) : onAug .Mult (.int a) (.int b) Q = (IntMulOk a b ∧ Q (.int (a * b))) := rfl

/-! ### loops -/
theorem whileW_of {nx : Sd → Store → Prop} {turn : Sd → Store → (Sd → Store → Prop) → (Sd → Store → Prop) → Prop} (ht : ∀ σ S m m' n n', (∀ σ1 S1, m σ1 S1 → m' σ1 S1) → (∀ σ1 S1, n σ1 S1 → n' σ1 S1) → turn σ S m n → turn σ S m' n')
    (I : Nat → Sd → Store → Prop) (step : ∀ m σ S, I m σ S → turn σ S (fun σ1 S1 => ∃ m', m' < m ∧ I m' σ1 S1) nx) : ∀ k m σ S, m < k → I m σ S → whileW nx turn k σ S
  | 0, m, σ, S, h, _ => absurd h (Nat.not_lt_zero _)
  | k + 1, m, σ, S, h, hi => ht σ S _ _ _ _ (fun σ1 S1 ⟨m', h1, h2⟩ => whileW_of ht I step k m' σ1 S1 (by omega) h2) (fun _ _ z => z) (step m σ S hi)
/-- a while by an invariant with a measure -/
theorem wp_while {g : Bool} {φ : Phi} (hφ : PhiMono φ) {c : Ex} {b : Sms} {D : EndsD} {σ : Sd} {S : Store} (I : Nat → Sd → Store → Prop) (m : Nat) (h0 : I m σ S)
    (step : ∀ m σ S, I m σ S → wpE g φ c σ S (fun d S1 => onB (truth d S1) (wpSs g φ b { D with nx := fun σ1 S1 => ∃ m', m' < m ∧ I m' σ1 S1, ct := fun σ1 S1 => ∃ m', m' < m ∧ I m' σ1 S1, bk := D.nx } σ S1) (D.nx σ S1)) (fun x S1 => D.ex x σ S1)) : wpS g φ (.whil c b) D σ S := by
  simp only [wpS]
  refine ⟨m + 1, whileW_of (fun σ S m m' n n' hm hn t => ?_) I step (m + 1) m σ S (Nat.lt_succ_self m) h0⟩
  refine wpE_mono hφ c (fun d S1 q => ?_) (fun _ _ z => z) t
  split at q
  · refine wpSs_mono hφ b ?_ q
    exact ⟨hm, fun _ _ z => z, fun _ _ z => z, hm, fun _ _ _ z => z⟩
  · exact hn _ _ q
  · exact q
theorem forW_of {w : Src} {nx : Sd → Store → Prop} {turn : D → Sd → Store → (Sd → Store → Prop) → Prop} (ht : ∀ x σ S m m', (∀ σ1 S1, m σ1 S1 → m' σ1 S1) → turn x σ S m → turn x σ S m')
    (I : Nat → Sd → Store → Prop) (ok : ∀ i σ S, i ≤ w.xs.length → I i σ S → w.ok S) (step : ∀ (i : Nat) (x : CC.D) σ S, w.xs[i]? = some x → I i σ S → turn x σ S (I (i + 1))) (done : ∀ σ S, I w.xs.length σ S → nx σ S) : ∀ (n i : Nat) σ S, n + i = w.xs.length → I i σ S → forW w nx turn (w.xs.drop i) σ S
  | 0, i, σ, S, h, hi => by
    rw [List.drop_of_length_le (by omega)]
    have e : i = w.xs.length := by omega
    subst e
    exact ⟨ok _ σ S (Nat.le_refl _) hi, done σ S hi⟩
  | n + 1, i, σ, S, h, hi => by
    have hl : i < w.xs.length := by omega
    rw [List.drop_eq_getElem_cons hl]
    exact ⟨ok i σ S (by omega) hi, ht _ σ S _ _ (fun σ1 S1 q => forW_of ht I ok step done n (i + 1) σ1 S1 (by omega) q) (step i _ σ S (List.getElem?_eq_getElem hl) hi)⟩
/-- a for by an invariant -/
theorem wp_for {g : Bool} {φ : Phi} (hφ : PhiMono φ) {t : Tg} {k : ItK} {src : Exs} {b : Sms} {D : EndsD} {σ : Sd} {S : Store}
    (h : wpAs g φ src σ S (fun ds S1 => ∃ (c : Prop) (w : Src), iterR k ds S1 = some (c, w) ∧ c ∧ ∃ I : Nat → Sd → Store → Prop, I 0 σ S1 ∧ (∀ i σ S, i ≤ w.xs.length → I i σ S → w.ok S) ∧
      (∀ (i : Nat) (x : CC.D) σ S, w.xs[i]? = some x → I i σ S → wpTg g φ t x σ S (fun σ2 S2 => wpSs g φ b { D with nx := I (i + 1), ct := I (i + 1), bk := D.nx } σ2 S2) (fun x S1 => D.ex x σ S1)) ∧ ∀ σ S, I w.xs.length σ S → D.nx σ S) (fun x S1 => D.ex x σ S1)) :
    wpS g φ (.fors t k src b) D σ S := by
  simp only [wpS]
  refine wpAs_mono hφ src (fun ds S1 q => ?_) (fun _ _ z => z) h
  obtain ⟨c, w, hw, hc, I, h0, ok, step, done⟩ := q
  rw [hw]
  refine ⟨hc, ?_⟩
  have := forW_of (w := w) (nx := D.nx) (turn := fun x σ S more => wpTg g φ t x σ S (fun σ2 S2 => wpSs g φ b { D with nx := more, ct := more, bk := D.nx } σ2 S2) (fun x S1 => D.ex x σ S1)) (fun x σ S m m' hm t' => ?_) I ok step done w.xs.length 0 σ S1 (by omega) h0
  · rw [List.drop_zero] at this
    exact this
  · exact wpTg_mono hφ t (fun σ2 S2 q => by
      refine wpSs_mono hφ b ?_ q
      exact ⟨hm, fun _ _ z => z, fun _ _ z => z, hm, fun _ _ _ z => z⟩) (fun _ _ z => z) t'

/-! ### stores that grow -/
def Gr (S S' : Store) : Prop := ∀ (l : Nat) (o : O), S[l]? = some o → S'[l]? = some o
theorem Gr.refl (S : Store) : Gr S S := fun _ _ h => h
theorem Gr.trans {S S1 S2 : Store} (h : Gr S S1) (k : Gr S1 S2) : Gr S S2 := fun l o e => k l o (h l o e)
theorem Gr.push (S : Store) (o : O) : Gr S (S ++ [o]) := fun l o' e => by rw [List.getElem?_append_left (List.getElem?_eq_some_iff.mp e).1]; exact e
theorem Gr.len {S S' : Store} (h : Gr S S') : S.length ≤ S'.length := by
  rcases Nat.eq_zero_or_pos S.length with z | z
  · omega
  · obtain ⟨o, ho⟩ : ∃ o, S[S.length - 1]? = some o := ⟨_, List.getElem?_eq_getElem (by omega)⟩
    have := (List.getElem?_eq_some_iff.mp (h _ _ ho)).1
    omega
theorem Gr.seq {S S' : Store} (h : Gr S S') {l : Nat} {ds : List D} (e : seqAt S l = some ds) : seqAt S' l = some ds := by
  unfold seqAt at e ⊢
  cases q : S[l]? with
  | none => rw [q] at e; cases e
  | some o =>
    rw [q] at e
    rw [h l o q]
    exact e
theorem seqAt_lst {S : Store} {l : Nat} {ds : List D} (h : S[l]? = some (.lst ds)) : seqAt S l = some ds := by
  unfold seqAt
  rw [h]
theorem seqAt_rol {S : Store} {l : Nat} {ds : List D} (h : S[l]? = some (.rol ds)) : seqAt S l = some ds := by
  unfold seqAt
  rw [h]
/-- all but l stays -/
def GrX (L : Nat) (S S' : Store) : Prop := ∀ (l : Nat) (o : O), l ≠ L → S[l]? = some o → S'[l]? = some o
theorem GrX.refl (L : Nat) (S : Store) : GrX L S S := fun _ _ _ h => h
theorem GrX.trans {L : Nat} {S S1 S2 : Store} (h : GrX L S S1) (k : GrX L S1 S2) : GrX L S S2 := fun l o n e => k l o n (h l o n e)
theorem Gr.x {S S' : Store} (h : Gr S S') (L : Nat) : GrX L S S' := fun l o _ e => h l o e
theorem GrX.set (L : Nat) (S : Store) (o : O) : GrX L S (S.set L o) := fun l o' n e => by rw [List.getElem?_set_ne (Ne.symm n)]; exact e
theorem GrX.gr {L : Nat} {S0 S S' : Store} (h : GrX L S S') (g : Gr S0 S) (hl : S0.length ≤ L) : Gr S0 S' := fun l o e => h l o (by
  have := (List.getElem?_eq_some_iff.mp e).1
  omega) (g l o e)
theorem set_get {S : Store} {L : Nat} {o o' : O} (h : S[L]? = some o) : (S.set L o')[L]? = some o' := List.getElem?_set_self (List.getElem?_eq_some_iff.mp h).1

theorem compW_of {w : Src} {L : Nat} {Q : Post} {turn : D → Store → (D → Store → Prop) → (Store → Prop) → Prop} (ht : ∀ x S y y' n n', (∀ d S1, y d S1 → y' d S1) → (∀ S1, n S1 → n' S1) → turn x S y n → turn x S y' n')
    (I : Nat → List D → Store → Prop) (ok : ∀ i acc S, i ≤ w.xs.length → I i acc S → w.ok S)
    (step : ∀ (i : Nat) (x : CC.D) acc S, w.xs[i]? = some x → I i acc S → turn x S (fun d S2 => S2[L]? = some (.lst acc) ∧ acc.length < sizeLine ∧ I (i + 1) (acc ++ [d]) (S2.set L (.lst (acc ++ [d])))) (I (i + 1) acc)) (done : ∀ acc S, I w.xs.length acc S → Q (.ref L) S) :
    ∀ (n i : Nat) acc S, n + i = w.xs.length → I i acc S → compW w L Q turn (w.xs.drop i) S
  | 0, i, acc, S, h, hi => by
    rw [List.drop_of_length_le (by omega)]
    have e : i = w.xs.length := by omega
    subst e
    exact ⟨ok _ acc S (Nat.le_refl _) hi, done acc S hi⟩
  | n + 1, i, acc, S, h, hi => by
    have hl : i < w.xs.length := by omega
    rw [List.drop_eq_getElem_cons hl]
    exact ⟨ok i acc S (by omega) hi, ht _ S _ _ _ _ (fun d S2 ⟨a, b, c⟩ => ⟨acc, a, b, compW_of ht I ok step done n (i + 1) _ _ (by omega) c⟩) (fun S1 q => compW_of ht I ok step done n (i + 1) _ _ (by omega) q) (step i _ acc S (List.getElem?_eq_getElem hl) hi)⟩
/-- a comprehension whose turns change nothing that was there: F x the item's outcome -/
theorem wp_comp {g : Bool} {φ : Phi} (hφ : PhiMono φ) {elt : Ex} {tg : Tg} {k : ItK} {src cond : Exs} {own : List (Str × Nat)} {σ : Sd} {S : Store} {Q : Post} {E : EPost}
    (h : wpAs g φ src σ S (fun ds S1 => ∃ (c : Prop) (w : Src), iterR k ds S1 = some (c, w) ∧ c ∧ w.ok S1 ∧ w.xs.length ≤ sizeLine ∧ ∃ F : D → Option D,
      (∀ (i : Nat) (x : CC.D) S2, w.xs[i]? = some x → Gr S1 S2 → wpTg g φ tg x (wipeD σ (own.map (·.2))) S2 (fun σ2 S3 => wpAs g φ cond σ2 S3 (fun bs S4 => onC bs S4 (wpE g φ elt σ2 S4 (fun d S5 => F x = some d ∧ Gr S2 S5) (fun _ _ => False)) (F x = none ∧ Gr S2 S4)) (fun _ _ => False)) (fun _ _ => False)) ∧ ∀ S2, Gr S1 S2 → S2[S1.length]? = some (.lst (w.xs.filterMap F)) → Q (.ref S1.length) S2) E) :
    wpE g φ (.comp elt tg k src cond own) σ S Q E := by
  simp only [wpE]
  refine wpAs_mono hφ src (fun ds S1 q => ?_) (fun _ _ z => z) h
  obtain ⟨c, w, hw, hc, hok, hlen, F, turn, done⟩ := q
  rw [hw]
  refine ⟨hc, ?_⟩
  have ok : ∀ S2, Gr S1 S2 → w.ok S2 := fun S2 hg p hp => hg.seq (hok p hp)
  have key := compW_of (w := w) (L := S1.length) (Q := Q) (turn := fun x S2 yes no => wpTg g φ tg x (wipeD σ (own.map (·.2))) S2 (fun σ2 S3 => wpAs g φ cond σ2 S3 (fun bs S4 => match bs with
        | [] => wpE g φ elt σ2 S4 yes (fun _ _ => False)
        | [b] => (match truth b S4 with
          | some true => wpE g φ elt σ2 S4 yes (fun _ _ => False)
          | some false => no S4
          | none => False)
        | _ => False) (fun _ _ => False)) (fun _ _ => False)) (fun x S2 y y' n n' hy hn t => ?_)
    (fun i acc S2 => Gr S1 S2 ∧ S2[S1.length]? = some (.lst acc) ∧ acc = (w.xs.take i).filterMap F) (fun i acc S2 _ hi => ok S2 hi.1) (fun i x acc S2 hx hi => ?_) (fun acc S2 hi => ?_) w.xs.length 0 [] (S1 ++ [.lst []]) (by omega) ⟨Gr.push _ _, by simp, by simp⟩
  · rw [List.drop_zero] at key
    exact key
  · refine wpTg_mono hφ tg (fun σ2 S3 t => wpAs_mono hφ cond (fun bs S4 t => ?_) (fun _ _ z => z) t) (fun _ _ z => z) t
    split at t
    · exact wpE_mono hφ elt hy (fun _ _ z => z) t
    · split at t
      · exact wpE_mono hφ elt hy (fun _ _ z => z) t
      · exact hn _ t
      · exact t
    · exact t
  · obtain ⟨g1, g2, g3⟩ := hi
    have hl : i < w.xs.length := (List.getElem?_eq_some_iff.mp hx).1
    have hal : acc.length ≤ i := by
      rw [g3]
      refine Nat.le_trans (List.length_filterMap_le _ _) ?_
      rw [List.length_take]
      omega
    have htake : w.xs.take (i + 1) = w.xs.take i ++ [x] := by
      rw [List.take_add_one, hx]
      rfl
    have yes : ∀ d S5, F x = some d ∧ Gr S2 S5 → S5[S1.length]? = some (.lst acc) ∧ acc.length < sizeLine ∧ Gr S1 (S5.set S1.length (.lst (acc ++ [d]))) ∧ (S5.set S1.length (.lst (acc ++ [d])))[S1.length]? = some (.lst (acc ++ [d])) ∧ acc ++ [d] = (w.xs.take (i + 1)).filterMap F := fun d S5 q => by
      have e := q.2 _ _ g2
      refine ⟨e, by omega, (GrX.set _ _ _).gr (g1.trans q.2) (Nat.le_refl _), set_get e, ?_⟩
      rw [htake, List.filterMap_append, ← g3]
      simp [q.1]
    have no : ∀ S4, F x = none ∧ Gr S2 S4 → Gr S1 S4 ∧ S4[S1.length]? = some (.lst acc) ∧ acc = (w.xs.take (i + 1)).filterMap F := fun S4 q => by
      refine ⟨g1.trans q.2, q.2 _ _ g2, ?_⟩
      rw [htake, List.filterMap_append, ← g3]
      simp [q.1]
    refine wpTg_mono hφ tg (fun σ2 S3 t => wpAs_mono hφ cond (fun bs S4 t => ?_) (fun _ _ z => z) t) (fun _ _ z => z) (turn i x S2 hx g1)
    unfold onC onB at t
    split at t
    · exact wpE_mono hφ elt yes (fun _ _ z => z) t
    · split at t
      · exact wpE_mono hφ elt yes (fun _ _ z => z) t
      · exact no _ t
      · exact t
    · exact t
  · obtain ⟨g1, g2, g3⟩ := hi
    rw [List.take_length] at g3
    rw [g3] at g2
    exact done S2 g1 g2

/-! ### the steps, for simp -/
section
variable {g : Bool} {φ : Phi} {σ : Sd} {S : Store} {Q : Post} {E : EPost} {D : EndsD}
@[simp] theorem den_int (n : Nat) (S : Store) (i : Int) : den n S (.int i) = some (.int i) := by cases n <;> rfl
@[simp] theorem den_bl (n : Nat) (S : Store) (i : Bool) : den n S (.bl i) = some (.bool i) := by cases n <;> rfl
@[simp] theorem den_non (n : Nat) (S : Store) : den n S .non = some .none := by cases n <;> rfl
@[simp] theorem den_str (n : Nat) (S : Store) (x : Str) : den n S (.str x) = some (.str x) := by cases n <;> rfl
theorem truth_bl (b : Bool) (S : Store) : truth (.bl b) S = some b := rfl
theorem eqv_int (i j : Int) : PyData.eqv (.int i) (.int j) = decide (i = j) := by
  simp only [PyData.eqv]
  rw [Bool.eq_iff_iff]
  simp
theorem shaped_int (i : Int) : SeqAt.shaped (.int i) = true := by
  unfold SeqAt.shaped
  simp [PyData.canLay0, PyData.depth]
theorem p_add (a b : Int) : primW g (.bin .Add) [.int a, .int b] S Q = Q (.int (a + b)) S := by simp [primW, primR, binR]
theorem p_sub (a b : Int) : primW g (.bin .Sub) [.int a, .int b] S Q = Q (.int (a - b)) S := by simp [primW, primR, binR]
theorem p_mul (a b : Int) : primW g (.bin .Mult) [.int a, .int b] S Q = (IntMulOk a b ∧ Q (.int (a * b)) S) := by simp [primW, primR, binR]
theorem p_div (a b : Int) : primW g (.bin .FloorDiv) [.int a, .int b] S Q = ((b ≠ 0 ∧ DivOk a b) ∧ Q (.int (a.fdiv b)) S) := by simp [primW, primR, binR]
theorem p_mod (a b : Int) : primW g (.bin .Mod) [.int a, .int b] S Q = (b ≠ 0 ∧ Q (.int (a.fmod b)) S) := by simp [primW, primR, binR]
theorem p_pow (a b : Int) : primW g (.bin .Pow) [.int a, .int b] S Q = ((0 ≤ b ∧ (Builtin.Int.intBits a : Int) * b ≤ 2 ^ 27) ∧ Q (.int (a ^ b.toNat)) S) := by simp [primW, primR, binR]
theorem p_neg (a : Int) : primW g .neg [.int a] S Q = Q (.int (-a)) S := by simp [primW, primR]
theorem p_eq (a b : Int) : primW g (.cmp .Eq) [.int a, .int b] S Q = Q (.bl (decide (a = b))) S := by simp [primW, primR, cmpR, eqv_int, shaped_int]
theorem p_ne (a b : Int) : primW g (.cmp .NotEq) [.int a, .int b] S Q = Q (.bl (!decide (a = b))) S := by simp [primW, primR, cmpR, eqv_int, shaped_int]
theorem p_lt (a b : Int) : primW g (.cmp .Lt) [.int a, .int b] S Q = Q (.bl (decide (a < b))) S := by simp [primW, primR, cmpR]
theorem p_le (a b : Int) : primW g (.cmp .LtE) [.int a, .int b] S Q = Q (.bl (decide (a ≤ b))) S := by simp [primW, primR, cmpR]
theorem p_gt (a b : Int) : primW g (.cmp .Gt) [.int a, .int b] S Q = Q (.bl (decide (b < a))) S := by simp [primW, primR, cmpR]
theorem p_ge (a b : Int) : primW g (.cmp .GtE) [.int a, .int b] S Q = Q (.bl (decide (b ≤ a))) S := by simp [primW, primR, cmpR]
theorem p_abs (a : Int) : primW g (.blt .abs) [.int a] S Q = Q (.int a.natAbs) S := by
  have : (if a < 0 then -a else a) = (a.natAbs : Int) := by split <;> omega
  simp [primW, primR, bltR, this]
theorem p_int (a : Int) : primW g (.blt .int) [.int a] S Q = Q (.int a) S := by simp [primW, primR, bltR]
theorem p_max (a b : Int) : primW g (.blt .max2) [.int a, .int b] S Q = Q (.int (max a b)) S := by
  have : (if b > a then b else a) = max a b := by omega
  simp only [primW, primR, bltR, this, true_and]
theorem p_min (a b : Int) : primW g (.blt .min2) [.int a, .int b] S Q = Q (.int (min a b)) S := by
  have : (if b < a then b else a) = min a b := by omega
  simp only [primW, primR, bltR, this, true_and]
theorem p_tup (ds : List CC.D) : primW g .tup ds S Q = (ds.length ≤ sizeLine ∧ Q (.tup ds) S) := by simp [primW, primR]
theorem p_lst (ds : List CC.D) : primW g .lst ds S Q = (ds.length ≤ sizeLine ∧ Q (.ref S.length) (S ++ [.lst ds])) := by simp [primW, primR, newL]
theorem p_ixT (ds : List CC.D) (i : Int) : primW g .idx [.tup ds, .int i] S Q = onO (atI ds i) (fun d => Q d S) := by
  unfold primW primR seqD onO
  dsimp only
  cases atI ds i <;> simp
theorem p_lenT (ds : List CC.D) : primW g (.blt .len) [.tup ds] S Q = Q (.int ds.length) S := by simp [primW, primR, bltR, seqD]
theorem p_ixL {l : Nat} {ds : List CC.D} {i : Int} {d : CC.D} (h : seqAt S l = some ds) (hi : atI ds i = some d) (q : Q d S) : primW g .idx [.ref l, .int i] S Q := by
  unfold primW primR seqD
  dsimp only
  rw [h]
  dsimp only
  rw [hi]
  exact ⟨trivial, q⟩
theorem p_lenL {l : Nat} {ds : List CC.D} (h : seqAt S l = some ds) (q : Q (.int ds.length) S) : primW g (.blt .len) [.ref l] S Q := by
  unfold primW primR bltR seqD
  dsimp only
  rw [h]
  exact ⟨trivial, q⟩
end

/-! ### one step at a time -/
section
variable {g : Bool} {φ : Phi} {σ : Sd} {S : Store} {Q : Post} {E : EPost} {D : EndsD}
theorem sd_cons (n : Nat) (d : CC.D) (ds : List CC.D) : startD (n + 1) (d :: ds) = some d :: startD n ds := by
  unfold startD
  simp
theorem sd_nil (n : Nat) : startD (n + 1) [] = none :: startD n [] := by
  unfold startD
  simp [List.replicate_succ]
theorem sd_zero : startD 0 [] = [] := rfl
theorem wF {T : Nat → Option Fn} {k f : Nat} {fn : Fn} {ds : List CC.D} (h : T f = some fn) : wpF T (k + 1) f ds S Q E = (ds.length = fn.ps.length ∧ wpSs fn.g (wpF T k) fn.body { nx := fun _ S1 => Q .non S1, rt := Q, ex := fun x _ S1 => E x S1 } (startD fn.N.length ds) S) := by
  simp only [wpF, h]
theorem w_var (i : Nat) : wpE g φ (.var i) σ S Q E = onV σ[i]? (fun d => Q d S) := by simp only [wpE]; rfl
theorem w_const (d : CC.D) : wpE g φ (.const d) σ S Q E = Q d S := by simp only [wpE]
theorem w_glob (x : Str) (d : CC.D) : wpE g φ (.glob x d) σ S Q E = Q d S := by simp only [wpE]
theorem w_prim (p : Prim) (es : Exs) : wpE g φ (.prim p es) σ S Q E = wpAs g φ es σ S (fun ds S1 => primW g p ds S1 Q) E := by simp only [wpE]
theorem w_meth (p : Prim) (o : Ex) (es : Exs) : wpE g φ (.meth p o es) σ S Q E = wpE g φ o σ S (fun d S1 => isL d S1 = true ∧ wpAs g φ es σ S1 (fun ds S2 => primW g p (d :: ds) S2 Q) E) E := by simp only [wpE]
theorem w_cut (a b c : Ex) : wpE g φ (.cut a b c) σ S Q E = wpE g φ a σ S (fun x S1 => wpE g φ b σ S1 (fun y S2 => isI y = true ∧ wpE g φ c σ S2 (fun z S3 => primW g (.slc true true) [x, y, z] S3 Q) E) E) E := by simp only [wpE]
theorem w_not (a : Ex) : wpE g φ (.notE a) σ S Q E = wpE g φ a σ S (fun d S1 => onN (truth d S1) fun b => Q (.bl (!b)) S1) E := by simp only [wpE]; rfl
theorem w_and (a b : Ex) : wpE g φ (.andE a b) σ S Q E = wpE g φ a σ S (fun d S1 => onB (truth d S1) (wpE g φ b σ S1 Q E) (Q d S1)) E := by simp only [wpE]; rfl
theorem w_or (a b : Ex) : wpE g φ (.orE a b) σ S Q E = wpE g φ a σ S (fun d S1 => onB (truth d S1) (Q d S1) (wpE g φ b σ S1 Q E)) E := by simp only [wpE]; rfl
theorem w_one (a : Ex) : wpE g φ (.one a) σ S Q E = wpE g φ a σ S Q E := by simp only [wpE]
theorem w_ite (c a b : Ex) : wpE g φ (.ite c a b) σ S Q E = wpE g φ c σ S (fun d S1 => onB (truth d S1) (wpE g φ a σ S1 Q E) (wpE g φ b σ S1 Q E)) E := by simp only [wpE]; rfl
theorem w_chain (op op' : CmpOp) (a b c : Ex) : wpE g φ (.chain op op' a b c) σ S Q E = wpE g φ a σ S (fun x S1 => wpE g φ b σ S1 (fun y S2 => primW g (.cmp op) [x, y] S2 fun z S3 => onD z (wpE g φ c σ S3 (fun w S4 => primW g (.cmp op') [y, w] S4 Q) E) (Q (.bl false) S3)) E) E := by simp only [wpE]; rfl
theorem w_call (f : Nat) (es : Exs) : wpE g φ (.call f es) σ S Q E = wpAs g φ es σ S (fun ds S1 => φ f ds S1 Q E) E := by simp only [wpE]
theorem w_callk (f : Nat) (es : Exs) (ks : List Str) (kes : Exs) (perm : List Nat) : wpE g φ (.callk f es ks kes perm) σ S Q E = wpAs g φ es σ S (fun ds S1 => wpAs g φ kes σ S1 (fun ks S2 => onL (pick (ds ++ ks) perm) fun rs => φ f rs S2 Q E) E) E := by simp only [wpE]; rfl
theorem wa_nil {Q : List CC.D → Store → Prop} : wpAs g φ .nil σ S Q E = Q [] S := by simp only [wpAs]
theorem wa_cons {Q : List CC.D → Store → Prop} (a : Ex) (r : Exs) : wpAs g φ (.cons a r) σ S Q E = wpE g φ a σ S (fun d S1 => wpAs g φ r σ S1 (fun ds S2 => Q (d :: ds) S2) E) E := by simp only [wpAs]
theorem wt_name {Q : Sd → Store → Prop} (i : Nat) (d : CC.D) : wpTg g φ (.name i) d σ S Q E = Q (σ.set i (some d)) S := by simp only [wpTg]
theorem wt_tup {Q : Sd → Store → Prop} (ts : Tgs) (d : CC.D) : wpTg g φ (.tup ts) d σ S Q E = onL (seqD S d) (fun ds => ds.length = tgsLen ts ∧ wpTgs g φ ts ds σ S Q E) := by simp only [wpTg]; rfl
theorem wts_nil {Q : Sd → Store → Prop} : wpTgs g φ .nil [] σ S Q E = Q σ S := by simp only [wpTgs]
theorem wts_cons {Q : Sd → Store → Prop} (t : Tg) (r : Tgs) (d : CC.D) (ds : List CC.D) : wpTgs g φ (.cons t r) (d :: ds) σ S Q E = wpTg g φ t d σ S (fun σ1 S1 => wpTgs g φ r ds σ1 S1 Q E) E := by simp only [wpTgs]
theorem wt_sub {Q : Sd → Store → Prop} (o i : Ex) (d : CC.D) : wpTg g φ (.sub o i) d σ S Q E = wpE g φ o σ S (fun x S1 => wpE g φ i σ S1 (fun y S2 => onSet x y S2 d (Q σ)) (fun _ _ => False)) (fun _ _ => False) := by simp only [wpTg]; rfl
theorem ws_nil : wpSs g φ .nil D σ S = D.nx σ S := by simp only [wpSs]
theorem ws_cons (a : Sm) (r : Sms) : wpSs g φ (.cons a r) D σ S = wpS g φ a { D with nx := fun σ1 S1 => wpSs g φ r D σ1 S1 } σ S := by simp only [wpSs]
theorem w_expr (e : Ex) : wpS g φ (.expr e) D σ S = wpE g φ e σ S (fun _ S1 => D.nx σ S1) (fun x S1 => D.ex x σ S1) := by simp only [wpS]
theorem w_asg (t : Tg) (e : Ex) : wpS g φ (.asg t e) D σ S = wpE g φ e σ S (fun d S1 => wpTg g φ t d σ S1 D.nx (fun x S2 => D.ex x σ S2)) (fun x S1 => D.ex x σ S1) := by simp only [wpS]
theorem w_setc (i : Nat) (e : Ex) : wpS g φ (.setc i e) D σ S = wpE g φ e σ S (fun d S1 => D.nx (σ.set i (some d)) S1) (fun x S1 => D.ex x σ S1) := by simp only [wpS]
theorem w_par2 (i j : Nat) (es : Exs) : wpS g φ (.par2 i j es) D σ S = wpAs g φ es σ S (fun ds S1 => on2 ds fun a b => D.nx ((σ.set i (some a)).set j (some b)) S1) (fun x S1 => D.ex x σ S1) := by simp only [wpS]; rfl
theorem w_par3 (i j l : Nat) (es : Exs) : wpS g φ (.par3 i j l es) D σ S = wpAs g φ es σ S (fun ds S1 => on3 ds fun a b c => D.nx (((σ.set i (some a)).set j (some b)).set l (some c)) S1) (fun x S1 => D.ex x σ S1) := by simp only [wpS]; rfl
theorem w_aug (i : Nat) (op : Operator) (e : Ex) : wpS g φ (.aug i op e) D σ S = onV σ[i]? (fun x => wpE g φ e σ S (fun y S1 => onAug op x y fun z => D.nx (σ.set i (some z)) S1) (fun x S1 => D.ex x σ S1)) := by simp only [wpS]; rfl
theorem w_ret (e : Ex) : wpS g φ (.ret e) D σ S = wpE g φ e σ S D.rt (fun x S1 => D.ex x σ S1) := by simp only [wpS]
theorem w_retN : wpS g φ .retN D σ S = D.rt .non S := by simp only [wpS]
theorem w_ifs (c : Ex) (a b : Sms) : wpS g φ (.ifs c a b) D σ S = wpE g φ c σ S (fun d S1 => onB (truth d S1) (wpSs g φ a D σ S1) (wpSs g φ b D σ S1)) (fun x S1 => D.ex x σ S1) := by simp only [wpS]; rfl
theorem w_never : wpS g φ .never D σ S = False := by simp only [wpS]
theorem seqD_tup (ds : List CC.D) : seqD S (.tup ds) = some ds := rfl
end

/-! ### places -/
theorem ixN_nat {n i : Nat} (h : i < n) : ixN n (i : Int) = some i := by
  unfold ixN
  rw [if_pos (by omega), if_pos (by omega)]
  simp
theorem atI_nat {α : Type} {xs : List α} {i : Nat} {v : α} (h : xs[i]? = some v) : atI xs (i : Int) = some v := by
  unfold atI
  rw [ixN_nat (List.getElem?_eq_some_iff.mp h).1]
  exact h
theorem atI_0 {α : Type} (x : α) (xs : List α) : atI (x :: xs) 0 = some x := atI_nat (i := 0) (by simp)
theorem atI_1 {α : Type} (x y : α) (xs : List α) : atI (x :: y :: xs) 1 = some y := atI_nat (i := 1) (by simp)
theorem atI_2 {α : Type} (x y z : α) (xs : List α) : atI (x :: y :: z :: xs) 2 = some z := atI_nat (i := 2) (by simp)
theorem get_ints {ns : List Int} {i : Nat} {x : D} (h : (ns.map D.int)[i]? = some x) : ∃ n, ns[i]? = some n ∧ x = .int n := by
  rw [List.getElem?_map] at h
  cases e : ns[i]? with
  | none => rw [e] at h; cases h
  | some n => rw [e] at h; cases h; exact ⟨n, rfl, rfl⟩
theorem ok_nil {S : Store} {xs : List D} : Src.ok ⟨xs, []⟩ S := fun p hp => nomatch hp
theorem fmod_nat (x m : Nat) : ((x : Int).fmod (m : Int)) = ((x % m : Nat) : Int) := by
  rw [Int.fmod_eq_emod_of_nonneg _ (by omega)]
  simp
theorem map_some {α β : Type} (f : α → β) (F : D → Option D) (i : α → D) (o : β → D) (h : ∀ a, F (i a) = some (o (f a))) : ∀ xs : List α, (xs.map i).filterMap F = (xs.map f).map o
  | [] => rfl
  | a :: r => by
    rw [List.map_cons, List.filterMap_cons, h a, List.map_cons, List.map_cons, map_some f F i o h r]
theorem filter_some {α : Type} (p : α → Bool) (F : D → Option D) (i : α → D) (h : ∀ a, F (i a) = if p a then some (i a) else none) : ∀ xs : List α, (xs.map i).filterMap F = (xs.filter p).map i
  | [] => rfl
  | a :: r => by
    rw [List.map_cons, List.filterMap_cons, h a, List.filter_cons, filter_some p F i h r]
    cases p a <;> simp

section
variable {g : Bool} {S : Store} {Q : Post}
theorem shapedT2 (a b : Int) : SeqAt.shaped (.tuple [.int a, .int b]) = true := by
  unfold SeqAt.shaped
  simp [PyData.canLay0, PyData.canLayAll0, PyData.depth, PyData.depthAll]
theorem eqvT2 (a b c d : Int) : PyData.eqv (.tuple [.int a, .int b]) (.tuple [.int c, .int d]) = (decide (a = c) && decide (b = d)) := by
  simp only [PyData.eqv, PyData.eqvAll, Bool.and_true]
  congr 1 <;> (rw [Bool.eq_iff_iff]; simp)
theorem denT2 (n : Nat) (a b : Int) : den (n + 1) S (.tup [.int a, .int b]) = some (.tuple [.int a, .int b]) := by
  simp only [den, denL, den_int]
theorem p_eqT2 (a b c d : Int) : primW g (.cmp .Eq) [.tup [.int a, .int b], .tup [.int c, .int d]] S Q = Q (.bl (decide (a = c) && decide (b = d))) S := by
  simp [primW, primR, cmpR, deep, denT2, shapedT2, eqvT2]
theorem p_neT2 (a b c d : Int) : primW g (.cmp .NotEq) [.tup [.int a, .int b], .tup [.int c, .int d]] S Q = Q (.bl (!(decide (a = c) && decide (b = d)))) S := by
  simp [primW, primR, cmpR, deep, denT2, shapedT2, eqvT2]
theorem p_isT (ds : List D) : primW g (.isa .tuple) [.tup ds] S Q = Q (.bl true) S := by simp [primW, primR, isaR]
theorem p_isI (i : Int) : primW g (.isa .int) [.int i] S Q = Q (.bl true) S := by simp [primW, primR, isaR]
theorem p_isB (i : Int) : primW g (.isa .bool) [.int i] S Q = Q (.bl false) S := by simp [primW, primR, isaR]
theorem p_all {l : Nat} {bs : List Bool} (h : seqAt S l = some (bs.map D.bl)) (q : Q (.bl (bs.all id)) S) : primW g (.blt .all) [.ref l] S Q := by
  have e : ∀ bs : List Bool, boolsOf (bs.map D.bl) = some bs := fun bs => by
    induction bs with
    | nil => rfl
    | cons b r ih => simp only [List.map_cons, boolsOf, ih]
  unfold primW primR bltR
  dsimp only
  rw [h]
  dsimp only
  rw [e]
  exact ⟨trivial, q⟩
end

/-- a statement, then the others from what it leaves -/
theorem cutS {g : Bool} {φ : Phi} (hφ : PhiMono φ) {a : Sm} {r : Sms} {D : EndsD} {σ : Sd} {S : Store} (P : Sd → Store → Prop) (h1 : wpS g φ a { D with nx := P } σ S) (h2 : ∀ σ1 S1, P σ1 S1 → wpSs g φ r D σ1 S1) : wpSs g φ (.cons a r) D σ S := by
  simp only [wpSs]
  refine wpS_mono hφ a (D := { D with nx := P }) ?_ h1
  exact ⟨h2, fun _ _ z => z, fun _ _ z => z, fun _ _ z => z, fun _ _ _ z => z⟩
end CC
/-! Texts of data, comparisons of lists. -/
namespace CC
open PySem L2
mutual
def nodes : PyData → Nat
  | .list xs => nodesAll xs + 1
  | .tuple xs => nodesAll xs + 1
  | .none => 1
  | .bool _ => 1
  | .int _ => 1
  | .str _ => 1
  | .dict _ => 1
def nodesAll : List PyData → Nat
  | [] => 0
  | x :: xs => nodes x + nodesAll xs
end
/-- a short text -/
def TxB (b : Nat) (s : Str) : Prop := s.cps.size ≤ b ∧ PyData.strOk s = true ∧ (s.cps.toList.all fun c => decide (c < 16 ^ 8)) = true
mutual
def SmallD (b : Nat) : PyData → Prop
  | .list xs => SmallAll b xs
  | .tuple xs => SmallAll b xs
  | .none => True
  | .bool _ => True
  | .int i => Bd b i
  | .str s => TxB b s
  | .dict _ => False
def SmallAll (b : Nat) : List PyData → Prop
  | [] => True
  | x :: xs => SmallD b x ∧ SmallAll b xs
end
mutual
theorem small_weight {b : Nat} : ∀ d : PyData, SmallD b d → d.weight + 1 ≤ nodes d * (b + 2)
  | .list xs, h => by
    simp only [SmallD] at h
    have := small_weightAll xs h
    simp only [PyData.weight, nodes, Nat.add_mul]
    omega
  | .tuple xs, h => by
    simp only [SmallD] at h
    have := small_weightAll xs h
    simp only [PyData.weight, nodes, Nat.add_mul]
    omega
  | .none, _ => by simp only [PyData.weight, nodes]; omega
  | .bool _, _ => by simp only [PyData.weight, nodes]; omega
  | .int i, h => by
    simp only [SmallD] at h
    have := h.bits
    simp only [PyData.weight, nodes]
    unfold Builtin.Int.intBits at this
    omega
  | .str s, h => by
    simp only [SmallD] at h
    have := h.1
    simp only [PyData.weight, nodes]
    omega
  | .dict _, h => by simp only [SmallD] at h
theorem small_weightAll {b : Nat} : ∀ xs : List PyData, SmallAll b xs → PyData.weightAll xs ≤ nodesAll xs * (b + 2)
  | [], _ => by simp only [PyData.weightAll, nodesAll]; omega
  | x :: xs, h => by
    simp only [SmallAll] at h
    have h1 := small_weight x h.1
    have h2 := small_weightAll xs h.2
    simp only [PyData.weightAll, nodesAll, Nat.add_mul]
    omega
end
theorem two_le_ten : ∀ n : Nat, 2 ^ n ≤ 10 ^ n
  | 0 => Nat.le_refl _
  | n + 1 => by
    have := two_le_ten n
    rw [Nat.pow_succ, Nat.pow_succ]
    omega
mutual
theorem small_leaves {b : Nat} (hb : 0 < b) : ∀ d : PyData, SmallD b d → d.leavesShort (b + 1) = true
  | .list xs, h => by
    simp only [SmallD] at h
    simp only [PyData.leavesShort]
    exact small_leavesAll hb xs h
  | .tuple xs, h => by
    simp only [SmallD] at h
    simp only [PyData.leavesShort]
    exact small_leavesAll hb xs h
  | .none, _ => by simp only [PyData.leavesShort]
  | .bool _, _ => by simp only [PyData.leavesShort]
  | .int i, h => by
    simp only [SmallD] at h
    simp only [PyData.leavesShort, decide_eq_true_eq]
    rw [PyData.shown_int, ofString_length]
    exact int_text_length_le10 hb (Nat.lt_of_lt_of_le h (two_le_ten b))
  | .str s, h => by
    simp only [SmallD] at h
    simp only [PyData.leavesShort]
    exact h.2.2
  | .dict _, h => by simp only [SmallD] at h
theorem small_leavesAll {b : Nat} (hb : 0 < b) : ∀ xs : List PyData, SmallAll b xs → PyData.leavesShortAll (b + 1) xs = true
  | [], _ => by simp only [PyData.leavesShortAll]
  | x :: xs, h => by
    simp only [SmallAll] at h
    simp only [PyData.leavesShortAll, Bool.and_eq_true]
    exact ⟨small_leaves hb x h.1, small_leavesAll hb xs h.2⟩
end
mutual
theorem small_show {b : Nat} (hb : b ≤ 1900) : ∀ d : PyData, SmallD b d → d.showable = true ∧ d.canLay0 = true
  | .list xs, h => by
    simp only [SmallD] at h
    simp only [PyData.showable, PyData.canLay0]
    exact small_showAll hb xs h
  | .tuple xs, h => by
    simp only [SmallD] at h
    simp only [PyData.showable, PyData.canLay0]
    exact small_showAll hb xs h
  | .none, _ => by simp only [PyData.showable, PyData.canLay0, and_self]
  | .bool _, _ => by simp only [PyData.showable, PyData.canLay0, and_self]
  | .int i, h => by
    simp only [SmallD] at h
    simp only [PyData.showable, PyData.canLay0, decide_eq_true_eq, and_true]
    exact log2_lt_of (Bd.mono h (n := 1920) (by omega)) (by decide)
  | .str s, h => by
    simp only [SmallD] at h
    simp only [PyData.showable, PyData.canLay0, h.2.1, and_self]
  | .dict _, h => by simp only [SmallD] at h
theorem small_showAll {b : Nat} (hb : b ≤ 1900) : ∀ xs : List PyData, SmallAll b xs → PyData.showableAll xs = true ∧ PyData.canLayAll0 xs = true
  | [], _ => by simp only [PyData.showableAll, PyData.canLayAll0, and_self]
  | x :: xs, h => by
    simp only [SmallAll] at h
    simp only [PyData.showableAll, PyData.canLayAll0, Bool.and_eq_true]
    have h1 := small_show hb x h.1
    have h2 := small_showAll hb xs h.2
    exact ⟨⟨h1.1, h2.1⟩, h1.2, h2.2⟩
end
/-- repr of small data -/
theorem repr_ok {b : Nat} {d : PyData} (h : SmallD b d) (h1 : 7 ≤ b) (h2 : b ≤ 1900) (hd : d.depth ≤ 64) (hs : (b + 3) * (nodes d * (b + 2)) + b + 1 ≤ sizeLine) : SeqAt.shaped d = true ∧ PyData.showable d = true ∧ d.shown.length ≤ sizeLine := by
  obtain ⟨s1, s2⟩ := small_show h2 d h
  refine ⟨?_, s1, ?_⟩
  · unfold SeqAt.shaped
    rw [s2, decide_eq_true hd]
    rfl
  · have l := PyData.shown_le (b + 1) (by omega) d (small_leaves (by omega) d h)
    have w := small_weight d h
    have : (b + 1 + 2) * d.weight ≤ (b + 3) * (nodes d * (b + 2)) := Nat.mul_le_mul (by omega) (by omega)
    omega
theorem small_ints {b : Nat} : ∀ {ns : List Int}, (∀ n ∈ ns, Bd b n) → SmallAll b (ns.map .int)
  | [], _ => by simp only [List.map_nil, SmallAll]
  | n :: r, h => by
    simp only [List.map_cons, SmallAll, SmallD]
    exact ⟨h n List.mem_cons_self, small_ints fun m hm => h m (List.mem_cons_of_mem _ hm)⟩
theorem nodes_ints : ∀ ns : List Int, nodesAll (ns.map .int) = ns.length
  | [] => rfl
  | n :: r => by
    simp only [List.map_cons, nodesAll, nodes, List.length_cons, nodes_ints r]
    omega
theorem depth_ints : ∀ ns : List Int, PyData.depthAll (ns.map .int) = 0
  | [] => by simp only [List.map_nil, PyData.depthAll]
  | n :: r => by simp only [List.map_cons, PyData.depthAll, PyData.depth, depth_ints r, Nat.max_self]
theorem denL_ints {f : D → Option PyData} (h : ∀ i, f (.int i) = some (.int i)) : ∀ ns : List Int, denL f (ns.map D.int) = some (ns.map .int)
  | [] => rfl
  | n :: r => by
    simp only [List.map_cons, denL, h, denL_ints h r]
theorem den_ints {S : Store} {l : Nat} {ns : List Int} (h : seqAt S l = some (ns.map D.int)) (n : Nat) : den (n + 1) S (.ref l) = some (.list (ns.map .int)) := by
  simp only [den, h, denL_ints (den_int n S)]
theorem eqv_ints : ∀ ns ms : List Int, PyData.eqvAll (ns.map .int) (ms.map .int) = decide (ns = ms)
  | [], [] => rfl
  | [], m :: ms => by simp only [List.map_nil, List.map_cons, PyData.eqvAll]; rfl
  | n :: ns, [] => by simp only [List.map_nil, List.map_cons, PyData.eqvAll]; rfl
  | n :: ns, m :: ms => by
    simp only [List.map_cons, PyData.eqvAll, eqv_ints ns ms, eqv_int]
    rw [Bool.eq_iff_iff]
    simp
theorem lay_ints : ∀ ns : List Int, PyData.canLayAll0 (ns.map .int) = true
  | [] => by simp only [List.map_nil, PyData.canLayAll0]
  | n :: r => by simp only [List.map_cons, PyData.canLayAll0, PyData.canLay0, lay_ints r, Bool.and_self]
theorem shaped_ints (ns : List Int) : SeqAt.shaped (.list (ns.map .int)) = true := by
  unfold SeqAt.shaped
  simp only [PyData.canLay0, lay_ints, PyData.depth, depth_ints]
  rfl
section
variable {g : Bool} {S : Store} {Q : Post}
theorem p_ixE {l : Nat} {ds : List D} (h : seqAt S l = some ds) (i : Int) : primW g .idx [.ref l, .int i] S Q = onO (atI ds i) fun d => Q d S := by
  unfold primW primR seqD onO
  dsimp only
  rw [h]
  dsimp only
  cases atI ds i <;> simp
theorem p_lenE {l : Nat} {ds : List D} (h : seqAt S l = some ds) : primW g (.blt .len) [.ref l] S Q = Q (.int ds.length) S := by
  unfold primW primR bltR seqD
  dsimp only
  rw [h]
  simp
theorem p_eqL {l m : Nat} {ns ms : List Int} (h1 : seqAt S l = some (ns.map D.int)) (h2 : seqAt S m = some (ms.map D.int)) (q : Q (.bl (decide (ns = ms))) S) : primW g (.cmp .Eq) [.ref l, .ref m] S Q := by
  unfold primW primR cmpR
  simp only [den_ints h1, den_ints h2, deep, shaped_ints, and_self, PyData.eqv, eqv_ints]
  exact ⟨trivial, q⟩
theorem p_repr {d : D} {a : PyData} (h : den deep S d = some a) (h1 : SeqAt.shaped a = true ∧ PyData.showable a = true ∧ a.shown.length ≤ sizeLine) (q : Q (.str a.shown) S) : primW true .repr [d] S Q := by
  unfold primW primR
  simp only [if_true, h]
  exact ⟨h1, q⟩
theorem p_neS (a b : Str) : primW g (.cmp .NotEq) [.str a, .str b] S Q = Q (.bl (!decide (a = b))) S := by simp [primW, primR, cmpR]
theorem p_eqS (a b : Str) : primW g (.cmp .Eq) [.str a, .str b] S Q = Q (.bl (decide (a = b))) S := by simp [primW, primR, cmpR]
/-- a point among two -/
theorem p_inT2 (a b p q r s : Int) : primW g (.cmp .In) [.tup [.int a, .int b], .tup [.tup [.int p, .int q], .tup [.int r, .int s]]] S Q = Q (.bl ((decide (p = a) && decide (q = b)) || (decide (r = a) && decide (s = b)))) S := by
  have e : SeqAt.shaped (.tuple [.tuple [.int p, .int q], .tuple [.int r, .int s]]) = true := by
    unfold SeqAt.shaped
    simp [PyData.canLay0, PyData.canLayAll0, PyData.depth, PyData.depthAll]
  simp [primW, primR, cmpR, deep, denT2, shapedT2, eqvT2, den, denL, e]
end
end CC
/-! The functions of the texts as terms (printed by gen.py). -/
namespace CC
open PySem
def f_common_divisor : Fn := ⟨"common_divisor", ["one", "other"], ["one", "other"], false,
  (.cons (.par2 0 1 (.cons (.prim (.blt .abs) (.cons (.var 0) .nil)) (.cons (.prim (.blt .abs) (.cons (.var 1) .nil)) .nil))) (.cons (.whil (.prim (.cmp .NotEq) (.cons (.var 1) (.cons (.const (.int 0)) .nil)))
    (.cons (.par2 0 1 (.cons (.var 1) (.cons (.prim (.bin .Mod) (.cons (.var 0) (.cons (.var 1) .nil))) .nil))) .nil)) (.cons (.ret (.var 0)) .nil))), none, false⟩

def f_point_of : Fn := ⟨"point_of", ["top", "bottom"], ["top", "bottom", "divisor", "sign"], false,
  (.cons (.ifs (.prim (.cmp .Eq) (.cons (.var 1) (.cons (.const (.int 0)) .nil)))
    (.cons (.ret (.glob "ENDLESS" (.tup [(.int 1), (.int 0)]))) .nil)
    .nil) (.cons (.asg (.name 2) (.call 6 (.cons (.var 0) (.cons (.var 1) .nil)))) (.cons (.asg (.name 3) (.ite (.prim (.cmp .Gt) (.cons (.var 1) (.cons (.const (.int 0)) .nil))) (.var 2) (.prim .neg (.cons (.var 2) .nil)))) (.cons (.ret (.prim .tup (.cons (.prim (.bin .FloorDiv) (.cons (.var 0) (.cons (.var 3) .nil))) (.cons (.prim (.bin .FloorDiv) (.cons (.var 1) (.cons (.var 3) .nil))) .nil)))) .nil)))), none, false⟩

def f_is_integer : Fn := ⟨"is_integer", ["value"], ["value"], false,
  (.cons (.ret (.andE (.prim (.isa .int) (.cons (.var 0) .nil)) (.one (.notE (.prim (.isa .bool) (.cons (.var 0) .nil)))))) .nil), none, false⟩

def f_is_point : Fn := ⟨"is_point", ["value"], ["value", "number"], false,
  (.cons (.ifs (.orE (.notE (.prim (.isa .tuple) (.cons (.var 0) .nil))) (.orE (.prim (.cmp .NotEq) (.cons (.prim (.blt .len) (.cons (.var 0) .nil)) (.cons (.const (.int 2)) .nil))) (.one (.notE (.prim (.blt .all) (.cons (.comp (.call 8 (.cons (.var 1) .nil)) (.name 1) .seq (.cons (.var 0) .nil) .nil [("number", 1)]) .nil))))))
    (.cons (.ret (.const (.bl false))) .nil)
    .nil) (.cons (.ret (.andE (.prim (.cmp .NotEq) (.cons (.var 0) (.cons (.prim .tup (.cons (.const (.int 0)) (.cons (.const (.int 0)) .nil))) .nil))) (.one (.prim (.cmp .Eq) (.cons (.call 7 (.cons (.prim .idx (.cons (.var 0) (.cons (.const (.int 0)) .nil))) (.cons (.prim .idx (.cons (.var 0) (.cons (.const (.int 1)) .nil))) .nil))) (.cons (.var 0) .nil)))))) .nil)), none, false⟩

def f_check_point : Fn := ⟨"check_point", ["point"], ["point"], false,
  (.cons (.ifs (.notE (.call 9 (.cons (.var 0) .nil)))
    (.cons (.rais 500002 (.var 0)) .nil)
    .nil) .nil), none, false⟩

def f_law_pool : Fn := ⟨"_law_pool", ["script", "spot"], ["script", "spot", "cell"], false,
  (.cons (.asg (.name 2) (.const (.int 0))) (.cons (.ifs (.prim (.cmp .Lt) (.cons (.var 1) (.cons (.prim (.blt .len) (.cons (.var 0) .nil)) .nil)))
    (.cons (.asg (.name 2) (.prim .idx (.cons (.var 0) (.cons (.var 1) .nil)))) .nil)
    .nil) (.cons (.ret (.prim .lst (.cons (.prim (.blt .max2) (.cons (.const (.int 0)) (.cons (.prim (.bin .Sub) (.cons (.prim (.blt .abs) (.cons (.var 2) .nil)) (.cons (.prim (.bin .Pow) (.cons (.const (.int 10)) (.cons (.const (.int 18)) .nil))) .nil))) .nil))) (.cons (.prim (.bin .Add) (.cons (.prim (.bin .Mod) (.cons (.prim (.blt .int) (.cons (.var 2) .nil)) (.cons (.const (.int 2305843009213693951)) .nil))) (.cons (.prim (.bin .Mult) (.cons (.const (.int 7368787)) (.cons (.prim (.bin .Add) (.cons (.var 1) (.cons (.const (.int 1)) .nil))) .nil))) .nil))) (.cons (.const (.int 0)) .nil))))) .nil))), none, false⟩

def f_law_draw : Fn := ⟨"_law_draw", ["pool", "span"], ["pool", "span", "drawn", "mixed"], false,
  (.cons (.ifs (.prim (.cmp .Gt) (.cons (.prim .idx (.cons (.var 0) (.cons (.const (.int 0)) .nil))) (.cons (.const (.int 0)) .nil)))
    (.cons (.asg (.name 2) (.prim (.bin .Mod) (.cons (.prim (.blt .int) (.cons (.prim .idx (.cons (.var 0) (.cons (.const (.int 0)) .nil))) .nil)) (.cons (.var 1) .nil)))) (.cons (.asg (.sub (.var 0) (.const (.int 0))) (.prim (.bin .FloorDiv) (.cons (.prim .idx (.cons (.var 0) (.cons (.const (.int 0)) .nil))) (.cons (.var 1) .nil)))) (.cons (.ret (.var 2)) .nil)))
    .nil) (.cons (.asg (.sub (.var 0) (.const (.int 2))) (.prim (.bin .Add) (.cons (.prim .idx (.cons (.var 0) (.cons (.const (.int 2)) .nil))) (.cons (.const (.int 1)) .nil)))) (.cons (.asg (.name 3) (.prim (.bin .Mod) (.cons (.prim (.blt .int) (.cons (.prim (.bin .Pow) (.cons (.prim (.bin .Add) (.cons (.prim .idx (.cons (.var 0) (.cons (.const (.int 1)) .nil))) (.cons (.prim (.bin .Mult) (.cons (.const (.int 15485863)) (.cons (.prim .idx (.cons (.var 0) (.cons (.const (.int 2)) .nil))) .nil))) .nil))) (.cons (.const (.int 3)) .nil))) .nil)) (.cons (.const (.int 162259276829213363391578010288127)) .nil)))) (.cons (.asg (.name 3) (.prim (.bin .Mod) (.cons (.prim (.blt .int) (.cons (.prim (.bin .Pow) (.cons (.prim (.bin .Add) (.cons (.var 3) (.cons (.prim (.bin .Mult) (.cons (.const (.int 32452843)) (.cons (.prim .idx (.cons (.var 0) (.cons (.const (.int 2)) .nil))) .nil))) .nil))) (.cons (.const (.int 3)) .nil))) .nil)) (.cons (.const (.int 170141183460469231731687303715884105727)) .nil)))) (.cons (.ret (.prim (.bin .Mod) (.cons (.prim (.blt .int) (.cons (.prim (.bin .FloorDiv) (.cons (.var 3) (.cons (.const (.int 1048576)) .nil))) .nil)) (.cons (.var 1) .nil)))) .nil))))), none, false⟩

def f_law_low : Fn := ⟨"_law_low", ["over", "under"], ["over", "under", "left", "right"], false,
  (.cons (.ifs (.prim (.cmp .Eq) (.cons (.var 1) (.cons (.const (.int 0)) .nil)))
    (.cons (.ret (.prim .tup (.cons (.const (.int 1)) (.cons (.const (.int 0)) .nil)))) .nil)
    .nil) (.cons (.par2 2 3 (.cons (.prim (.blt .abs) (.cons (.var 0) .nil)) (.cons (.prim (.blt .abs) (.cons (.var 1) .nil)) .nil))) (.cons (.whil (.prim (.cmp .NotEq) (.cons (.var 3) (.cons (.const (.int 0)) .nil)))
    (.cons (.par2 2 3 (.cons (.var 3) (.cons (.prim (.bin .Mod) (.cons (.prim (.blt .int) (.cons (.var 2) .nil)) (.cons (.var 3) .nil))) .nil))) .nil)) (.cons (.asg (.name 2) (.ite (.prim (.cmp .Gt) (.cons (.var 1) (.cons (.const (.int 0)) .nil))) (.var 2) (.prim (.bin .Sub) (.cons (.const (.int 0)) (.cons (.var 2) .nil))))) (.cons (.ret (.prim .tup (.cons (.prim (.bin .FloorDiv) (.cons (.var 0) (.cons (.var 2) .nil))) (.cons (.prim (.bin .FloorDiv) (.cons (.var 1) (.cons (.var 2) .nil))) .nil)))) .nil))))), none, false⟩

def f_law_spot : Fn := ⟨"_law_spot", ["pool"], ["pool", "top", "bottom"], false,
  (.cons (.par2 1 2 (.cons (.prim (.bin .Sub) (.cons (.call 1 (.cons (.var 0) (.cons (.const (.int 9)) .nil))) (.cons (.const (.int 4)) .nil))) (.cons (.call 1 (.cons (.var 0) (.cons (.const (.int 4)) .nil))) .nil))) (.cons (.ifs (.prim (.cmp .Eq) (.cons (.call 1 (.cons (.var 0) (.cons (.const (.int 6)) .nil))) (.cons (.const (.int 0)) .nil)))
    (.cons (.par2 1 2 (.cons (.prim (.bin .Sub) (.cons (.call 1 (.cons (.var 0) (.cons (.prim (.bin .Add) (.cons (.prim (.bin .Mult) (.cons (.const (.int 2)) (.cons (.prim (.bin .Pow) (.cons (.const (.int 10)) (.cons (.const (.int 6)) .nil))) .nil))) (.cons (.const (.int 1)) .nil))) .nil))) (.cons (.prim (.bin .Pow) (.cons (.const (.int 10)) (.cons (.const (.int 6)) .nil))) .nil))) (.cons (.prim (.bin .Add) (.cons (.const (.int 1)) (.cons (.call 1 (.cons (.var 0) (.cons (.prim (.bin .Pow) (.cons (.const (.int 10)) (.cons (.const (.int 6)) .nil))) .nil))) .nil))) .nil))) .nil)
    .nil) (.cons (.ret (.ite (.orE (.prim (.cmp .NotEq) (.cons (.var 1) (.cons (.const (.int 0)) .nil))) (.one (.prim (.cmp .NotEq) (.cons (.var 2) (.cons (.const (.int 0)) .nil))))) (.call 10 (.cons (.var 1) (.cons (.var 2) .nil))) (.prim .tup (.cons (.const (.int 0)) (.cons (.const (.int 1)) .nil))))) .nil))), none, false⟩

def f_is_prime : Fn := ⟨"is_prime", ["number"], ["number", "part"], false,
  (.cons (.ret (.andE (.chain .LtE .LtE (.glob "LEAST_PRIME" (.int 5)) (.var 0) (.glob "MOST_PRIME" (.int 200))) (.one (.prim (.blt .all) (.cons (.comp (.prim (.cmp .NotEq) (.cons (.prim (.bin .Mod) (.cons (.var 0) (.cons (.var 1) .nil))) (.cons (.const (.int 0)) .nil))) (.name 1) .range (.cons (.const (.int 2)) (.cons (.var 0) .nil)) .nil [("part", 1)]) .nil))))) .nil), none, false⟩

def f_inverse_of : Fn := ⟨"inverse_of", ["number", "prime"], ["number", "prime", "one", "other", "times", "more", "part"], false,
  (.cons (.asg (.tup (.cons (.name 2) (.cons (.name 3) (.cons (.name 4) (.cons (.name 5) .nil))))) (.prim .tup (.cons (.prim (.bin .Mod) (.cons (.var 0) (.cons (.var 1) .nil))) (.cons (.var 1) (.cons (.const (.int 1)) (.cons (.const (.int 0)) .nil)))))) (.cons (.whil (.prim (.cmp .NotEq) (.cons (.var 3) (.cons (.const (.int 0)) .nil)))
    (.cons (.asg (.name 6) (.prim (.bin .FloorDiv) (.cons (.var 2) (.cons (.var 3) .nil)))) (.cons (.asg (.tup (.cons (.name 2) (.cons (.name 3) (.cons (.name 4) (.cons (.name 5) .nil))))) (.prim .tup (.cons (.var 3) (.cons (.prim (.bin .Sub) (.cons (.var 2) (.cons (.prim (.bin .Mult) (.cons (.var 6) (.cons (.var 3) .nil))) .nil))) (.cons (.var 5) (.cons (.prim (.bin .Sub) (.cons (.var 4) (.cons (.prim (.bin .Mult) (.cons (.var 6) (.cons (.var 5) .nil))) .nil))) .nil)))))) .nil))) (.cons (.ret (.prim (.bin .Mod) (.cons (.var 4) (.cons (.var 1) .nil)))) .nil))), none, false⟩

def f_quotient : Fn := ⟨"quotient", ["top", "bottom", "prime"], ["top", "bottom", "prime"], false,
  (.cons (.ifs (.prim (.cmp .Eq) (.cons (.prim (.bin .Mod) (.cons (.var 1) (.cons (.var 2) .nil))) (.cons (.const (.int 0)) .nil)))
    (.cons (.ret (.var 2)) .nil)
    .nil) (.cons (.ret (.prim (.bin .Mod) (.cons (.prim (.bin .Mult) (.cons (.var 0) (.cons (.call 197 (.cons (.var 1) (.cons (.var 2) .nil))) .nil))) (.cons (.var 2) .nil)))) .nil)), none, false⟩

def f_reduced : Fn := ⟨"reduced", ["point", "prime"], ["point", "prime"], false,
  (.cons (.expr (.call 19 (.cons (.var 0) .nil))) (.cons (.ifs (.notE (.call 196 (.cons (.var 1) .nil)))
    (.cons (.rais 500006 (.var 1)) .nil)
    .nil) (.cons (.ret (.call 198 (.cons (.prim .idx (.cons (.var 0) (.cons (.const (.int 0)) .nil))) (.cons (.prim .idx (.cons (.var 0) (.cons (.const (.int 1)) .nil))) (.cons (.var 1) .nil))))) .nil))), none, false⟩

def f_law_is_prime : Fn := ⟨"_law_is_prime", ["some"], ["some", "parts_here", "part"], false,
  (.cons (.setc 1 (.comp (.var 2) (.name 2) .range (.cons (.const (.int 2)) (.cons (.const (.int 15)) .nil)) (.cons (.andE (.prim (.cmp .Eq) (.cons (.prim (.bin .Mod) (.cons (.prim (.blt .int) (.cons (.var 0) .nil)) (.cons (.var 2) .nil))) (.cons (.const (.int 0)) .nil))) (.one (.prim (.cmp .NotEq) (.cons (.var 2) (.cons (.var 0) .nil))))) .nil) [("part", 2)])) (.cons (.ret (.andE (.chain .Lt .Lt (.const (.int 4)) (.var 0) (.const (.int 201))) (.one (.prim (.cmp .Eq) (.cons (.var 1) (.cons (.prim .lst .nil) .nil)))))) .nil)), none, false⟩

def f_law_primes : Fn := ⟨"_law_primes", [], ["some"], false,
  (.cons (.ret (.comp (.var 0) (.name 0) .range (.cons (.const (.int 5)) (.cons (.const (.int 200)) .nil)) (.cons (.call 200 (.cons (.var 0) .nil)) .nil) [("some", 0)])) .nil), none, false⟩

def f_law_rest : Fn := ⟨"_law_rest", ["modulus", "here"], ["modulus", "here", "step"], false,
  (.cons (.ifs (.prim (.cmp .Eq) (.cons (.prim (.bin .Mod) (.cons (.prim (.blt .int) (.cons (.prim .idx (.cons (.var 1) (.cons (.const (.int 1)) .nil))) .nil)) (.cons (.var 0) .nil))) (.cons (.const (.int 0)) .nil)))
    (.cons (.ret (.var 0)) .nil)
    .nil) (.cons (.ret (.prim .idx (.cons (.comp (.var 2) (.name 2) .range (.cons (.var 0) .nil) (.cons (.prim (.cmp .Eq) (.cons (.prim (.bin .Mod) (.cons (.prim (.blt .int) (.cons (.prim (.bin .Sub) (.cons (.prim (.bin .Mult) (.cons (.var 2) (.cons (.prim .idx (.cons (.var 1) (.cons (.const (.int 1)) .nil))) .nil))) (.cons (.prim .idx (.cons (.var 1) (.cons (.const (.int 0)) .nil))) .nil))) .nil)) (.cons (.var 0) .nil))) (.cons (.const (.int 0)) .nil))) .nil) [("step", 2)]) (.cons (.const (.int 0)) .nil)))) .nil)), none, false⟩

def f_law_right_40 : Fn := ⟨"_law_right", ["pool"], ["pool", "some", "modulus", "here", "there", "due", "more", "is_small", "both", "away", "alike"], true,
  (.cons (.asg (.name 1) (.call 201 .nil)) (.cons (.par3 2 3 4 (.cons (.prim .idx (.cons (.var 1) (.cons (.call 1 (.cons (.var 0) (.cons (.prim (.blt .len) (.cons (.var 1) .nil)) .nil))) .nil))) (.cons (.call 170 (.cons (.var 0) .nil)) (.cons (.call 170 (.cons (.var 0) .nil)) .nil)))) (.cons (.par2 5 6 (.cons (.call 202 (.cons (.var 2) (.cons (.var 3) .nil))) (.cons (.call 202 (.cons (.var 2) (.cons (.var 4) .nil))) .nil))) (.cons (.ifs (.prim (.cmp .NotEq) (.cons (.prim .repr (.cons (.prim .lst (.cons (.call 199 (.cons (.var 3) (.cons (.var 2) .nil))) (.cons (.callk 199 .nil ["prime", "point"] (.cons (.var 2) (.cons (.var 3) .nil)) [1, 0]) .nil))) .nil)) (.cons (.prim .repr (.cons (.prim .lst (.cons (.var 5) (.cons (.var 5) .nil))) .nil)) .nil)))
    (.cons (.ret (.const (.bl false))) .nil)
    .nil) (.cons (.asg (.name 7) (.prim (.cmp .Lt) (.cons (.prim (.blt .max4) (.cons (.prim (.blt .abs) (.cons (.prim .idx (.cons (.var 3) (.cons (.const (.int 0)) .nil))) .nil)) (.cons (.prim .idx (.cons (.var 3) (.cons (.const (.int 1)) .nil))) (.cons (.prim (.blt .abs) (.cons (.prim .idx (.cons (.var 4) (.cons (.const (.int 0)) .nil))) .nil)) (.cons (.prim .idx (.cons (.var 4) (.cons (.const (.int 1)) .nil))) .nil))))) (.cons (.const (.int 1000)) .nil)))) (.cons (.ifs (.andE (.var 7) (.one (.prim (.cmp .NotIn) (.cons (.var 2) (.cons (.prim .tup (.cons (.var 5) (.cons (.var 6) .nil))) .nil)))))
    (.cons (.asg (.name 8) (.call 10 (.cons (.prim (.bin .Mult) (.cons (.prim .idx (.cons (.var 3) (.cons (.const (.int 0)) .nil))) (.cons (.prim .idx (.cons (.var 4) (.cons (.const (.int 0)) .nil))) .nil))) (.cons (.prim (.bin .Mult) (.cons (.prim .idx (.cons (.var 3) (.cons (.const (.int 1)) .nil))) (.cons (.prim .idx (.cons (.var 4) (.cons (.const (.int 1)) .nil))) .nil))) .nil)))) (.cons (.ifs (.prim (.cmp .NotEq) (.cons (.call 199 (.cons (.var 8) (.cons (.var 2) .nil))) (.cons (.prim (.bin .Mod) (.cons (.prim (.blt .int) (.cons (.prim (.bin .Mult) (.cons (.var 5) (.cons (.var 6) .nil))) .nil)) (.cons (.var 2) .nil))) .nil)))
    (.cons (.ret (.const (.bl false))) .nil)
    .nil) .nil))
    .nil) (.cons (.asg (.name 9) (.prim (.bin .Mult) (.cons (.prim (.bin .Mult) (.cons (.var 2) (.cons (.call 1 (.cons (.var 0) (.cons (.const (.int 99)) .nil))) .nil))) (.cons (.ite (.prim (.cmp .Lt) (.cons (.prim .idx (.cons (.var 3) (.cons (.const (.int 0)) .nil))) (.cons (.const (.int 0)) .nil))) (.const (.int 1)) (.prim .neg (.cons (.const (.int 1)) .nil))) .nil)))) (.cons (.asg (.name 10) (.ite (.prim (.cmp .NotEq) (.cons (.var 3) (.cons (.prim .tup (.cons (.const (.int 1)) (.cons (.const (.int 0)) .nil))) .nil))) (.call 10 (.cons (.prim (.bin .Add) (.cons (.prim .idx (.cons (.var 3) (.cons (.const (.int 0)) .nil))) (.cons (.var 9) .nil))) (.cons (.prim .idx (.cons (.var 3) (.cons (.const (.int 1)) .nil))) .nil))) (.prim .tup (.cons (.const (.int 1)) (.cons (.var 2) .nil))))) (.cons (.ret (.prim (.cmp .Eq) (.cons (.call 199 (.cons (.var 10) (.cons (.var 2) .nil))) (.cons (.var 5) .nil)))) .nil))))))))), none, false⟩

def f_law_40 : Fn := ⟨"law", ["script"], ["script", "spot", "pool", "turn"], true,
  (.cons (.fors (.name 1) .range (.cons (.prim (.blt .max2) (.cons (.const (.int 1)) (.cons (.prim (.blt .min2) (.cons (.const (.int 8)) (.cons (.prim (.blt .len) (.cons (.var 0) .nil)) .nil))) .nil))) .nil)
    (.cons (.asg (.name 2) (.call 0 (.cons (.var 0) (.cons (.var 1) .nil)))) (.cons (.fors (.name 3) .range (.cons (.const (.int 20)) .nil)
    (.cons (.ifs (.notE (.call 203 (.cons (.var 2) .nil)))
    (.cons (.ret (.const (.bl false))) .nil)
    .nil) .nil)) .nil))) (.cons (.ret (.const (.bl true))) .nil)), none, false⟩

end CC
namespace CC
open PySem L2
theorem sp_common_divisor {T : Nat → Option Fn} {k : Nat} (h6 : T 6 = some f_common_divisor) (a b : Int) (S : Store) : wpF T (k + 1) 6 [.int a, .int b] S (fun d S1 => d = .int (Int.gcd a b) ∧ S1 = S) fun _ _ => False := by
  rw [wF h6]
  simp only [f_common_divisor, sd_cons, sd_nil, sd_zero, List.length_cons, List.length_nil, w_var, w_const, w_glob, w_prim, w_meth, w_cut, w_not, w_and, w_or, w_one, w_ite, w_chain, w_call, w_callk, wa_nil, wa_cons, wt_name, wt_tup, wts_nil, wts_cons, wt_sub, ws_nil, ws_cons, w_expr, w_asg, w_setc, w_par2, w_par3, w_aug, w_ret, w_retN, w_ifs, w_never, seqD_tup, tgsLen, p_add, p_sub, p_mul, p_div, p_mod, p_pow, p_neg, p_eq, p_ne, p_lt, p_le, p_gt, p_ge, p_abs, p_int, p_max, p_min, p_tup, p_lst, p_ixT, p_lenT, truth_bl, onV_some, onB_some, onN_some, onD_bl, onO_some, onL_some, on2_eq, on3_eq, onC_nil, onC_one, onAug_sub, onAug_add, onAug_mul, List.getElem?_cons_zero, List.getElem?_cons_succ, List.set_cons_zero, List.set_cons_succ, wipeD, List.map_cons, List.map_nil, true_and, and_true, decide_eq_true_eq, Bool.not_eq_true', decide_eq_false_iff_not, Nat.reduceAdd, Nat.zero_add, atI_0, atI_1, atI_2, p_eqT2, p_neT2, p_isT, p_isI, p_isB, reduceIte, reduceCtorEq, Int.cast_ofNat_Int, not_true_eq_false, not_false_eq_true, eq_self, if_false, if_true, Bool.true_eq_false, Bool.false_eq_true, Bool.not_true, Bool.not_false, Bool.and_true, Bool.true_and, Bool.and_false, Bool.false_and, p_inT2, p_neS, p_eqS]
  refine wp_while (wpF_mono _ _) (fun m σ S1 => ∃ x y : Nat, σ = [some (.int x), some (.int y)] ∧ S1 = S ∧ m = y ∧ Nat.gcd x y = Int.gcd a b) b.natAbs ⟨a.natAbs, b.natAbs, rfl, rfl, rfl, rfl⟩ fun m σ S1 h => ?_
  obtain ⟨x, y, rfl, rfl, rfl, h⟩ := h
  simp only [sd_cons, sd_nil, sd_zero, List.length_cons, List.length_nil, w_var, w_const, w_glob, w_prim, w_meth, w_cut, w_not, w_and, w_or, w_one, w_ite, w_chain, w_call, w_callk, wa_nil, wa_cons, wt_name, wt_tup, wts_nil, wts_cons, wt_sub, ws_nil, ws_cons, w_expr, w_asg, w_setc, w_par2, w_par3, w_aug, w_ret, w_retN, w_ifs, w_never, seqD_tup, tgsLen, p_add, p_sub, p_mul, p_div, p_mod, p_pow, p_neg, p_eq, p_ne, p_lt, p_le, p_gt, p_ge, p_abs, p_int, p_max, p_min, p_tup, p_lst, p_ixT, p_lenT, truth_bl, onV_some, onB_some, onN_some, onD_bl, onO_some, onL_some, on2_eq, on3_eq, onC_nil, onC_one, onAug_sub, onAug_add, onAug_mul, List.getElem?_cons_zero, List.getElem?_cons_succ, List.set_cons_zero, List.set_cons_succ, wipeD, List.map_cons, List.map_nil, true_and, and_true, decide_eq_true_eq, Bool.not_eq_true', decide_eq_false_iff_not, Nat.reduceAdd, Nat.zero_add, atI_0, atI_1, atI_2, p_eqT2, p_neT2, p_isT, p_isI, p_isB, reduceIte, reduceCtorEq, Int.cast_ofNat_Int, not_true_eq_false, not_false_eq_true, eq_self, if_false, if_true, Bool.true_eq_false, Bool.false_eq_true, Bool.not_true, Bool.not_false, Bool.and_true, Bool.true_and, Bool.and_false, Bool.false_and, p_inT2, p_neS, p_eqS]
  split
  · rename_i hm
    refine ⟨hm, x % m, Nat.mod_lt _ (by omega), m, x % m, by rw [fmod_nat], rfl, ?_⟩
    rw [← h, Nat.gcd_comm x m, Nat.gcd_rec m x, Nat.gcd_comm]
  · rename_i hm
    have : m = 0 := by omega
    subst this
    rw [← h, Nat.gcd_zero_right]
/-! ### points -/
def ptOf (a b : Int) : Int × Int := if b = 0 then (1, 0) else (a.fdiv (if 0 < b then (Int.gcd a b : Int) else -(Int.gcd a b : Int)), b.fdiv (if 0 < b then (Int.gcd a b : Int) else -(Int.gcd a b : Int)))
def ptD (p : Int × Int) : D := .tup [.int p.1, .int p.2]
theorem gcd_bd {n : Nat} {a b : Int} (ha : Bd n a) (h : b ≠ 0) (hb : Bd n b) : Bd n (Int.gcd a b : Int) := by
  have h1 : Int.gcd a b ≤ b.natAbs := Int.gcd_le_natAbs_right a h
  unfold Bd at *
  simp only [Int.natAbs_natCast]
  omega
theorem gcd_ne {a b : Int} (h : b ≠ 0) : (Int.gcd a b : Int) ≠ 0 := by
  have : Int.gcd a b ≠ 0 := fun e => h (Int.gcd_eq_zero_iff.mp e).2
  omega
theorem sp_point_of {T : Nat → Option Fn} {k : Nat} (h6 : T 6 = some f_common_divisor) (h7 : T 7 = some f_point_of) (a b : Int) (S : Store) (ha : Bd 13500 a) (hb : Bd 13500 b) :
    wpF T (k + 2) 7 [.int a, .int b] S (fun d S1 => d = ptD (ptOf a b) ∧ S1 = S) fun _ _ => False := by
  rw [wF h7]
  simp only [f_point_of, sd_cons, sd_nil, sd_zero, List.length_cons, List.length_nil, w_var, w_const, w_glob, w_prim, w_meth, w_cut, w_not, w_and, w_or, w_one, w_ite, w_chain, w_call, w_callk, wa_nil, wa_cons, wt_name, wt_tup, wts_nil, wts_cons, wt_sub, ws_nil, ws_cons, w_expr, w_asg, w_setc, w_par2, w_par3, w_aug, w_ret, w_retN, w_ifs, w_never, seqD_tup, tgsLen, p_add, p_sub, p_mul, p_div, p_mod, p_pow, p_neg, p_eq, p_ne, p_lt, p_le, p_gt, p_ge, p_abs, p_int, p_max, p_min, p_tup, p_lst, p_ixT, p_lenT, truth_bl, onV_some, onB_some, onN_some, onD_bl, onO_some, onL_some, on2_eq, on3_eq, onC_nil, onC_one, onAug_sub, onAug_add, onAug_mul, List.getElem?_cons_zero, List.getElem?_cons_succ, List.set_cons_zero, List.set_cons_succ, wipeD, List.map_cons, List.map_nil, true_and, and_true, decide_eq_true_eq, Bool.not_eq_true', decide_eq_false_iff_not, Nat.reduceAdd, Nat.zero_add, atI_0, atI_1, atI_2, p_eqT2, p_neT2, p_isT, p_isI, p_isB, reduceIte, reduceCtorEq, Int.cast_ofNat_Int, not_true_eq_false, not_false_eq_true, eq_self, if_false, if_true, Bool.true_eq_false, Bool.false_eq_true, Bool.not_true, Bool.not_false, Bool.and_true, Bool.true_and, Bool.and_false, Bool.false_and, p_inT2, p_neS, p_eqS]
  split
  · rename_i h
    unfold ptOf
    rw [if_pos h]
    rfl
  · rename_i h
    refine use (sp_common_divisor h6 _ _ _) fun d S2 hd => ?_
    obtain ⟨rfl, rfl⟩ := hd
    have g0 := gcd_ne (a := a) h
    have gb := gcd_bd ha h hb
    have dv : ∀ g : Int, g ≠ 0 → ∀ i : Int, Bd 13500 i → (g ≠ 0 ∧ DivOk i g) := fun g h2 i hi => ⟨h2, hi.divNum (Nat.le_refl _)⟩
    simp only [sd_cons, sd_nil, sd_zero, List.length_cons, List.length_nil, w_var, w_const, w_glob, w_prim, w_meth, w_cut, w_not, w_and, w_or, w_one, w_ite, w_chain, w_call, w_callk, wa_nil, wa_cons, wt_name, wt_tup, wts_nil, wts_cons, wt_sub, ws_nil, ws_cons, w_expr, w_asg, w_setc, w_par2, w_par3, w_aug, w_ret, w_retN, w_ifs, w_never, seqD_tup, tgsLen, p_add, p_sub, p_mul, p_div, p_mod, p_pow, p_neg, p_eq, p_ne, p_lt, p_le, p_gt, p_ge, p_abs, p_int, p_max, p_min, p_tup, p_lst, p_ixT, p_lenT, truth_bl, onV_some, onB_some, onN_some, onD_bl, onO_some, onL_some, on2_eq, on3_eq, onC_nil, onC_one, onAug_sub, onAug_add, onAug_mul, List.getElem?_cons_zero, List.getElem?_cons_succ, List.set_cons_zero, List.set_cons_succ, wipeD, List.map_cons, List.map_nil, true_and, and_true, decide_eq_true_eq, Bool.not_eq_true', decide_eq_false_iff_not, Nat.reduceAdd, Nat.zero_add, atI_0, atI_1, atI_2, p_eqT2, p_neT2, p_isT, p_isI, p_isB, reduceIte, reduceCtorEq, Int.cast_ofNat_Int, not_true_eq_false, not_false_eq_true, eq_self, if_false, if_true, Bool.true_eq_false, Bool.false_eq_true, Bool.not_true, Bool.not_false, Bool.and_true, Bool.true_and, Bool.and_false, Bool.false_and, p_inT2, p_neS, p_eqS]
    unfold ptOf
    rw [if_neg h]
    split
    · rename_i hp
      exact ⟨dv _ g0 _ ha, dv _ g0 _ hb, by decide, rfl⟩
    · rename_i hp
      have gn : -(Int.gcd a b : Int) ≠ 0 := by omega
      exact ⟨dv _ gn _ ha, dv _ gn _ hb, by decide, rfl⟩
theorem sp_is_integer {T : Nat → Option Fn} {k : Nat} (h8 : T 8 = some f_is_integer) (a : Int) (S : Store) : wpF T (k + 1) 8 [.int a] S (fun d S1 => d = .bl true ∧ S1 = S) fun _ _ => False := by
  rw [wF h8]
  simp only [f_is_integer, sd_cons, sd_nil, sd_zero, List.length_cons, List.length_nil, w_var, w_const, w_glob, w_prim, w_meth, w_cut, w_not, w_and, w_or, w_one, w_ite, w_chain, w_call, w_callk, wa_nil, wa_cons, wt_name, wt_tup, wts_nil, wts_cons, wt_sub, ws_nil, ws_cons, w_expr, w_asg, w_setc, w_par2, w_par3, w_aug, w_ret, w_retN, w_ifs, w_never, seqD_tup, tgsLen, p_add, p_sub, p_mul, p_div, p_mod, p_pow, p_neg, p_eq, p_ne, p_lt, p_le, p_gt, p_ge, p_abs, p_int, p_max, p_min, p_tup, p_lst, p_ixT, p_lenT, truth_bl, onV_some, onB_some, onN_some, onD_bl, onO_some, onL_some, on2_eq, on3_eq, onC_nil, onC_one, onAug_sub, onAug_add, onAug_mul, List.getElem?_cons_zero, List.getElem?_cons_succ, List.set_cons_zero, List.set_cons_succ, wipeD, List.map_cons, List.map_nil, true_and, and_true, decide_eq_true_eq, Bool.not_eq_true', decide_eq_false_iff_not, Nat.reduceAdd, Nat.zero_add, atI_0, atI_1, atI_2, p_eqT2, p_neT2, p_isT, p_isI, p_isB, reduceIte, reduceCtorEq, Int.cast_ofNat_Int, not_true_eq_false, not_false_eq_true, eq_self, if_false, if_true, Bool.true_eq_false, Bool.false_eq_true, Bool.not_true, Bool.not_false, Bool.and_true, Bool.true_and, Bool.and_false, Bool.false_and, p_inT2, p_neS, p_eqS]
def isPt (p q : Int) : Bool := !(decide (p = 0) && decide (q = 0)) && (decide ((ptOf p q).1 = p) && decide ((ptOf p q).2 = q))
theorem sp_is_point {T : Nat → Option Fn} {k : Nat} (h6 : T 6 = some f_common_divisor) (h7 : T 7 = some f_point_of) (h8 : T 8 = some f_is_integer) (h9 : T 9 = some f_is_point) (p q : Int) (S : Store) (hp : Bd 13500 p) (hq : Bd 13500 q) :
    wpF T (k + 3) 9 [.tup [.int p, .int q]] S (fun d S1 => d = .bl (isPt p q) ∧ Gr S S1) fun _ _ => False := by
  rw [wF h9]
  simp only [f_is_point, sd_cons, sd_nil, sd_zero, List.length_cons, List.length_nil, w_var, w_const, w_glob, w_prim, w_meth, w_cut, w_not, w_and, w_or, w_one, w_ite, w_chain, w_call, w_callk, wa_nil, wa_cons, wt_name, wt_tup, wts_nil, wts_cons, wt_sub, ws_nil, ws_cons, w_expr, w_asg, w_setc, w_par2, w_par3, w_aug, w_ret, w_retN, w_ifs, w_never, seqD_tup, tgsLen, p_add, p_sub, p_mul, p_div, p_mod, p_pow, p_neg, p_eq, p_ne, p_lt, p_le, p_gt, p_ge, p_abs, p_int, p_max, p_min, p_tup, p_lst, p_ixT, p_lenT, truth_bl, onV_some, onB_some, onN_some, onD_bl, onO_some, onL_some, on2_eq, on3_eq, onC_nil, onC_one, onAug_sub, onAug_add, onAug_mul, List.getElem?_cons_zero, List.getElem?_cons_succ, List.set_cons_zero, List.set_cons_succ, wipeD, List.map_cons, List.map_nil, true_and, and_true, decide_eq_true_eq, Bool.not_eq_true', decide_eq_false_iff_not, Nat.reduceAdd, Nat.zero_add, atI_0, atI_1, atI_2, p_eqT2, p_neT2, p_isT, p_isI, p_isB, reduceIte, reduceCtorEq, Int.cast_ofNat_Int, not_true_eq_false, not_false_eq_true, eq_self, if_false, if_true, Bool.true_eq_false, Bool.false_eq_true, Bool.not_true, Bool.not_false, Bool.and_true, Bool.true_and, Bool.and_false, Bool.false_and, p_inT2, p_neS, p_eqS]
  refine wp_comp (wpF_mono _ _) ?_
  simp only [sd_cons, sd_nil, sd_zero, List.length_cons, List.length_nil, w_var, w_const, w_glob, w_prim, w_meth, w_cut, w_not, w_and, w_or, w_one, w_ite, w_chain, w_call, w_callk, wa_nil, wa_cons, wt_name, wt_tup, wts_nil, wts_cons, wt_sub, ws_nil, ws_cons, w_expr, w_asg, w_setc, w_par2, w_par3, w_aug, w_ret, w_retN, w_ifs, w_never, seqD_tup, tgsLen, p_add, p_sub, p_mul, p_div, p_mod, p_pow, p_neg, p_eq, p_ne, p_lt, p_le, p_gt, p_ge, p_abs, p_int, p_max, p_min, p_tup, p_lst, p_ixT, p_lenT, truth_bl, onV_some, onB_some, onN_some, onD_bl, onO_some, onL_some, on2_eq, on3_eq, onC_nil, onC_one, onAug_sub, onAug_add, onAug_mul, List.getElem?_cons_zero, List.getElem?_cons_succ, List.set_cons_zero, List.set_cons_succ, wipeD, List.map_cons, List.map_nil, true_and, and_true, decide_eq_true_eq, Bool.not_eq_true', decide_eq_false_iff_not, Nat.reduceAdd, Nat.zero_add, atI_0, atI_1, atI_2, p_eqT2, p_neT2, p_isT, p_isI, p_isB, reduceIte, reduceCtorEq, Int.cast_ofNat_Int, not_true_eq_false, not_false_eq_true, eq_self, if_false, if_true, Bool.true_eq_false, Bool.false_eq_true, Bool.not_true, Bool.not_false, Bool.and_true, Bool.true_and, Bool.and_false, Bool.false_and, p_inT2, p_neS, p_eqS, iterR, seqD, holdOf]
  refine ⟨_, _, rfl, trivial, ok_nil, (by decide : 2 ≤ sizeLine), fun x => match x with
    | .int n => some (.bl true)
    | _ => none, fun i x S2 hx hg => ?_, fun S2 hg h2 => ?_⟩
  · obtain ⟨n, hn, rfl⟩ := get_ints (ns := [p, q]) hx
    simp only [sd_cons, sd_nil, sd_zero, List.length_cons, List.length_nil, w_var, w_const, w_glob, w_prim, w_meth, w_cut, w_not, w_and, w_or, w_one, w_ite, w_chain, w_call, w_callk, wa_nil, wa_cons, wt_name, wt_tup, wts_nil, wts_cons, wt_sub, ws_nil, ws_cons, w_expr, w_asg, w_setc, w_par2, w_par3, w_aug, w_ret, w_retN, w_ifs, w_never, seqD_tup, tgsLen, p_add, p_sub, p_mul, p_div, p_mod, p_pow, p_neg, p_eq, p_ne, p_lt, p_le, p_gt, p_ge, p_abs, p_int, p_max, p_min, p_tup, p_lst, p_ixT, p_lenT, truth_bl, onV_some, onB_some, onN_some, onD_bl, onO_some, onL_some, on2_eq, on3_eq, onC_nil, onC_one, onAug_sub, onAug_add, onAug_mul, List.getElem?_cons_zero, List.getElem?_cons_succ, List.set_cons_zero, List.set_cons_succ, wipeD, List.map_cons, List.map_nil, true_and, and_true, decide_eq_true_eq, Bool.not_eq_true', decide_eq_false_iff_not, Nat.reduceAdd, Nat.zero_add, atI_0, atI_1, atI_2, p_eqT2, p_neT2, p_isT, p_isI, p_isB, reduceIte, reduceCtorEq, Int.cast_ofNat_Int, not_true_eq_false, not_false_eq_true, eq_self, if_false, if_true, Bool.true_eq_false, Bool.false_eq_true, Bool.not_true, Bool.not_false, Bool.and_true, Bool.true_and, Bool.and_false, Bool.false_and, p_inT2, p_neS, p_eqS]
    refine use (sp_is_integer h8 _ _) fun d S3 hd => ?_
    obtain ⟨rfl, rfl⟩ := hd
    exact ⟨rfl, Gr.refl _⟩
  · refine p_all (bs := [true, true]) (seqAt_lst h2) ?_
    simp only [sd_cons, sd_nil, sd_zero, List.length_cons, List.length_nil, w_var, w_const, w_glob, w_prim, w_meth, w_cut, w_not, w_and, w_or, w_one, w_ite, w_chain, w_call, w_callk, wa_nil, wa_cons, wt_name, wt_tup, wts_nil, wts_cons, wt_sub, ws_nil, ws_cons, w_expr, w_asg, w_setc, w_par2, w_par3, w_aug, w_ret, w_retN, w_ifs, w_never, seqD_tup, tgsLen, p_add, p_sub, p_mul, p_div, p_mod, p_pow, p_neg, p_eq, p_ne, p_lt, p_le, p_gt, p_ge, p_abs, p_int, p_max, p_min, p_tup, p_lst, p_ixT, p_lenT, truth_bl, onV_some, onB_some, onN_some, onD_bl, onO_some, onL_some, on2_eq, on3_eq, onC_nil, onC_one, onAug_sub, onAug_add, onAug_mul, List.getElem?_cons_zero, List.getElem?_cons_succ, List.set_cons_zero, List.set_cons_succ, wipeD, List.map_cons, List.map_nil, true_and, and_true, decide_eq_true_eq, Bool.not_eq_true', decide_eq_false_iff_not, Nat.reduceAdd, Nat.zero_add, atI_0, atI_1, atI_2, p_eqT2, p_neT2, p_isT, p_isI, p_isB, reduceIte, reduceCtorEq, Int.cast_ofNat_Int, not_true_eq_false, not_false_eq_true, eq_self, if_false, if_true, Bool.true_eq_false, Bool.false_eq_true, Bool.not_true, Bool.not_false, Bool.and_true, Bool.true_and, Bool.and_false, Bool.false_and, p_inT2, p_neS, p_eqS, List.all_cons, List.all_nil, id]
    refine ⟨by decide, ?_⟩
    split
    · rename_i h0
      refine use (sp_point_of h6 h7 _ _ _ hp hq) fun d S3 hd => ?_
      obtain ⟨rfl, rfl⟩ := hd
      simp only [sd_cons, sd_nil, sd_zero, List.length_cons, List.length_nil, w_var, w_const, w_glob, w_prim, w_meth, w_cut, w_not, w_and, w_or, w_one, w_ite, w_chain, w_call, w_callk, wa_nil, wa_cons, wt_name, wt_tup, wts_nil, wts_cons, wt_sub, ws_nil, ws_cons, w_expr, w_asg, w_setc, w_par2, w_par3, w_aug, w_ret, w_retN, w_ifs, w_never, seqD_tup, tgsLen, p_add, p_sub, p_mul, p_div, p_mod, p_pow, p_neg, p_eq, p_ne, p_lt, p_le, p_gt, p_ge, p_abs, p_int, p_max, p_min, p_tup, p_lst, p_ixT, p_lenT, truth_bl, onV_some, onB_some, onN_some, onD_bl, onO_some, onL_some, on2_eq, on3_eq, onC_nil, onC_one, onAug_sub, onAug_add, onAug_mul, List.getElem?_cons_zero, List.getElem?_cons_succ, List.set_cons_zero, List.set_cons_succ, wipeD, List.map_cons, List.map_nil, true_and, and_true, decide_eq_true_eq, Bool.not_eq_true', decide_eq_false_iff_not, Nat.reduceAdd, Nat.zero_add, atI_0, atI_1, atI_2, p_eqT2, p_neT2, p_isT, p_isI, p_isB, reduceIte, reduceCtorEq, Int.cast_ofNat_Int, not_true_eq_false, not_false_eq_true, eq_self, if_false, if_true, Bool.true_eq_false, Bool.false_eq_true, Bool.not_true, Bool.not_false, Bool.and_true, Bool.true_and, Bool.and_false, Bool.false_and, p_inT2, p_neS, p_eqS, ptD]
      refine ⟨?_, hg⟩
      unfold isPt
      rw [h0]
      rfl
    · rename_i h0
      refine ⟨?_, hg⟩
      unfold isPt
      have : (decide (p = 0) && decide (q = 0)) = true := by
        cases e : (decide (p = 0) && decide (q = 0))
        · exact absurd e h0
        · rfl
      rw [this]
      rfl
theorem sp_check_point {T : Nat → Option Fn} {k : Nat} (h6 : T 6 = some f_common_divisor) (h7 : T 7 = some f_point_of) (h8 : T 8 = some f_is_integer) (h9 : T 9 = some f_is_point) (h19 : T 19 = some f_check_point) (p q : Int) (S : Store) (hp : Bd 13500 p) (hq : Bd 13500 q) (h : isPt p q = true) :
    wpF T (k + 4) 19 [.tup [.int p, .int q]] S (fun d S1 => d = .non ∧ Gr S S1) fun _ _ => False := by
  rw [wF h19]
  simp only [f_check_point, sd_cons, sd_nil, sd_zero, List.length_cons, List.length_nil, w_var, w_const, w_glob, w_prim, w_meth, w_cut, w_not, w_and, w_or, w_one, w_ite, w_chain, w_call, w_callk, wa_nil, wa_cons, wt_name, wt_tup, wts_nil, wts_cons, wt_sub, ws_nil, ws_cons, w_expr, w_asg, w_setc, w_par2, w_par3, w_aug, w_ret, w_retN, w_ifs, w_never, seqD_tup, tgsLen, p_add, p_sub, p_mul, p_div, p_mod, p_pow, p_neg, p_eq, p_ne, p_lt, p_le, p_gt, p_ge, p_abs, p_int, p_max, p_min, p_tup, p_lst, p_ixT, p_lenT, truth_bl, onV_some, onB_some, onN_some, onD_bl, onO_some, onL_some, on2_eq, on3_eq, onC_nil, onC_one, onAug_sub, onAug_add, onAug_mul, List.getElem?_cons_zero, List.getElem?_cons_succ, List.set_cons_zero, List.set_cons_succ, wipeD, List.map_cons, List.map_nil, true_and, and_true, decide_eq_true_eq, Bool.not_eq_true', decide_eq_false_iff_not, Nat.reduceAdd, Nat.zero_add, atI_0, atI_1, atI_2, p_eqT2, p_neT2, p_isT, p_isI, p_isB, reduceIte, reduceCtorEq, Int.cast_ofNat_Int, not_true_eq_false, not_false_eq_true, eq_self, if_false, if_true, Bool.true_eq_false, Bool.false_eq_true, Bool.not_true, Bool.not_false, Bool.and_true, Bool.true_and, Bool.and_false, Bool.false_and, p_inT2, p_neS, p_eqS]
  refine use (sp_is_point h6 h7 h8 h9 _ _ _ hp hq) fun d S3 hd => ?_
  obtain ⟨rfl, hg⟩ := hd
  simp only [sd_cons, sd_nil, sd_zero, List.length_cons, List.length_nil, w_var, w_const, w_glob, w_prim, w_meth, w_cut, w_not, w_and, w_or, w_one, w_ite, w_chain, w_call, w_callk, wa_nil, wa_cons, wt_name, wt_tup, wts_nil, wts_cons, wt_sub, ws_nil, ws_cons, w_expr, w_asg, w_setc, w_par2, w_par3, w_aug, w_ret, w_retN, w_ifs, w_never, seqD_tup, tgsLen, p_add, p_sub, p_mul, p_div, p_mod, p_pow, p_neg, p_eq, p_ne, p_lt, p_le, p_gt, p_ge, p_abs, p_int, p_max, p_min, p_tup, p_lst, p_ixT, p_lenT, truth_bl, onV_some, onB_some, onN_some, onD_bl, onO_some, onL_some, on2_eq, on3_eq, onC_nil, onC_one, onAug_sub, onAug_add, onAug_mul, List.getElem?_cons_zero, List.getElem?_cons_succ, List.set_cons_zero, List.set_cons_succ, wipeD, List.map_cons, List.map_nil, true_and, and_true, decide_eq_true_eq, Bool.not_eq_true', decide_eq_false_iff_not, Nat.reduceAdd, Nat.zero_add, atI_0, atI_1, atI_2, p_eqT2, p_neT2, p_isT, p_isI, p_isB, reduceIte, reduceCtorEq, Int.cast_ofNat_Int, not_true_eq_false, not_false_eq_true, eq_self, if_false, if_true, Bool.true_eq_false, Bool.false_eq_true, Bool.not_true, Bool.not_false, Bool.and_true, Bool.true_and, Bool.and_false, Bool.false_and, p_inT2, p_neS, p_eqS, h]
  exact hg

/-! ### the pool of a law -/
def Pool (S : Store) (r n : Nat) : Prop := ∃ a b c : Int, S[r]? = some (.lst [.int a, .int b, .int c]) ∧ 0 ≤ b ∧ b < 2 ^ 62 ∧ 0 ≤ c ∧ c ≤ n
theorem Pool.gr {S S1 : Store} {r n : Nat} (h : Pool S r n) (g : Gr S S1) : Pool S1 r n := by
  obtain ⟨a, b, c, h1, h2⟩ := h
  exact ⟨a, b, c, g _ _ h1, h2⟩
theorem Pool.mono {S : Store} {r m n : Nat} (h : Pool S r m) (g : m ≤ n) : Pool S r n := by
  obtain ⟨a, b, c, h1, h2, h3, h4, h5⟩ := h
  exact ⟨a, b, c, h1, h2, h3, h4, by omega⟩
theorem sp_pool {T : Nat → Option Fn} {k : Nat} (h0 : T 0 = some f_law_pool) (l j : Nat) (ns : List Int) (S : Store) (hl : seqAt S l = some (ns.map D.int)) (hj : j < 100) :
    wpF T (k + 1) 0 [.ref l, .int j] S (fun d S1 => d = .ref S.length ∧ Gr S S1 ∧ Pool S1 S.length 0) fun _ _ => False := by
  rw [wF h0]
  simp only [f_law_pool, sd_cons, sd_nil, sd_zero, List.length_cons, List.length_nil, w_var, w_const, w_glob, w_prim, w_meth, w_cut, w_not, w_and, w_or, w_one, w_ite, w_chain, w_call, w_callk, wa_nil, wa_cons, wt_name, wt_tup, wts_nil, wts_cons, wt_sub, ws_nil, ws_cons, w_expr, w_asg, w_setc, w_par2, w_par3, w_aug, w_ret, w_retN, w_ifs, w_never, seqD_tup, tgsLen, p_add, p_sub, p_mul, p_div, p_mod, p_pow, p_neg, p_eq, p_ne, p_lt, p_le, p_gt, p_ge, p_abs, p_int, p_max, p_min, p_tup, p_lst, p_ixT, p_lenT, truth_bl, onV_some, onB_some, onN_some, onD_bl, onO_some, onL_some, on2_eq, on3_eq, onC_nil, onC_one, onAug_sub, onAug_add, onAug_mul, List.getElem?_cons_zero, List.getElem?_cons_succ, List.set_cons_zero, List.set_cons_succ, wipeD, List.map_cons, List.map_nil, true_and, and_true, decide_eq_true_eq, Bool.not_eq_true', decide_eq_false_iff_not, Nat.reduceAdd, Nat.zero_add, atI_0, atI_1, atI_2, p_eqT2, p_neT2, p_isT, p_isI, p_isB, reduceIte, reduceCtorEq, Int.cast_ofNat_Int, not_true_eq_false, not_false_eq_true, eq_self, if_false, if_true, Bool.true_eq_false, Bool.false_eq_true, Bool.not_true, Bool.not_false, Bool.and_true, Bool.true_and, Bool.and_false, Bool.false_and, p_inT2, p_neS, p_eqS]
  refine p_lenL hl ?_
  have mo : IntMulOk 7368787 ((j : Int) + 1) := Bd.mulOk (m := 30) (n := 30) (Bd.of (by decide) (by decide)) (Bd.of (by omega) (by omega)) (by decide) (by decide)
  have pw : (0 : Int) ≤ 18 ∧ (Builtin.Int.intBits 10 : Int) * 18 ≤ 2 ^ 27 := by decide
  have fin : ∀ a c : Int, Gr S (S ++ [O.lst [.int a, .int (c.fmod 2305843009213693951 + 7368787 * ((j : Int) + 1)), .int 0]]) ∧ Pool (S ++ [O.lst [.int a, .int (c.fmod 2305843009213693951 + 7368787 * ((j : Int) + 1)), .int 0]]) S.length 0 := fun a c => by
    have h1 := Int.fmod_nonneg_of_pos c (b := 2305843009213693951) (by decide)
    have h2 := Int.fmod_lt_of_pos c (b := 2305843009213693951) (by decide)
    exact ⟨Gr.push _ _, a, c.fmod 2305843009213693951 + 7368787 * ((j : Int) + 1), 0, by simp, by omega, by omega, by decide, by decide⟩
  simp only [sd_cons, sd_nil, sd_zero, List.length_cons, List.length_nil, w_var, w_const, w_glob, w_prim, w_meth, w_cut, w_not, w_and, w_or, w_one, w_ite, w_chain, w_call, w_callk, wa_nil, wa_cons, wt_name, wt_tup, wts_nil, wts_cons, wt_sub, ws_nil, ws_cons, w_expr, w_asg, w_setc, w_par2, w_par3, w_aug, w_ret, w_retN, w_ifs, w_never, seqD_tup, tgsLen, p_add, p_sub, p_mul, p_div, p_mod, p_pow, p_neg, p_eq, p_ne, p_lt, p_le, p_gt, p_ge, p_abs, p_int, p_max, p_min, p_tup, p_lst, p_ixT, p_lenT, truth_bl, onV_some, onB_some, onN_some, onD_bl, onO_some, onL_some, on2_eq, on3_eq, onC_nil, onC_one, onAug_sub, onAug_add, onAug_mul, List.getElem?_cons_zero, List.getElem?_cons_succ, List.set_cons_zero, List.set_cons_succ, wipeD, List.map_cons, List.map_nil, true_and, and_true, decide_eq_true_eq, Bool.not_eq_true', decide_eq_false_iff_not, Nat.reduceAdd, Nat.zero_add, atI_0, atI_1, atI_2, p_eqT2, p_neT2, p_isT, p_isI, p_isB, reduceIte, reduceCtorEq, Int.cast_ofNat_Int, not_true_eq_false, not_false_eq_true, eq_self, if_false, if_true, Bool.true_eq_false, Bool.false_eq_true, Bool.not_true, Bool.not_false, Bool.and_true, Bool.true_and, Bool.and_false, Bool.false_and, p_inT2, p_neS, p_eqS]
  split
  · rename_i h
    rw [List.length_map] at h
    obtain ⟨n, hn⟩ : ∃ n, ns[j]? = some n := ⟨_, List.getElem?_eq_getElem (by omega)⟩
    refine p_ixL hl (atI_nat (v := .int n) (by rw [List.getElem?_map, hn]; rfl)) ?_
    simp only [sd_cons, sd_nil, sd_zero, List.length_cons, List.length_nil, w_var, w_const, w_glob, w_prim, w_meth, w_cut, w_not, w_and, w_or, w_one, w_ite, w_chain, w_call, w_callk, wa_nil, wa_cons, wt_name, wt_tup, wts_nil, wts_cons, wt_sub, ws_nil, ws_cons, w_expr, w_asg, w_setc, w_par2, w_par3, w_aug, w_ret, w_retN, w_ifs, w_never, seqD_tup, tgsLen, p_add, p_sub, p_mul, p_div, p_mod, p_pow, p_neg, p_eq, p_ne, p_lt, p_le, p_gt, p_ge, p_abs, p_int, p_max, p_min, p_tup, p_lst, p_ixT, p_lenT, truth_bl, onV_some, onB_some, onN_some, onD_bl, onO_some, onL_some, on2_eq, on3_eq, onC_nil, onC_one, onAug_sub, onAug_add, onAug_mul, List.getElem?_cons_zero, List.getElem?_cons_succ, List.set_cons_zero, List.set_cons_succ, wipeD, List.map_cons, List.map_nil, true_and, and_true, decide_eq_true_eq, Bool.not_eq_true', decide_eq_false_iff_not, Nat.reduceAdd, Nat.zero_add, atI_0, atI_1, atI_2, p_eqT2, p_neT2, p_isT, p_isI, p_isB, reduceIte, reduceCtorEq, Int.cast_ofNat_Int, not_true_eq_false, not_false_eq_true, eq_self, if_false, if_true, Bool.true_eq_false, Bool.false_eq_true, Bool.not_true, Bool.not_false, Bool.and_true, Bool.true_and, Bool.and_false, Bool.false_and, p_inT2, p_neS, p_eqS]
    exact ⟨pw, by decide, mo, by decide, fin _ _⟩
  · exact ⟨pw, by decide, mo, by decide, fin _ _⟩
theorem fmod_bd {a b : Int} (h : 0 < b) : 0 ≤ a.fmod b ∧ a.fmod b < b := ⟨Int.fmod_nonneg_of_pos a h, Int.fmod_lt_of_pos a h⟩
theorem sp_draw {T : Nat → Option Fn} {k : Nat} (h1 : T 1 = some f_law_draw) (r n : Nat) (s : Int) (S : Store) (hp : Pool S r n) (hn : n ≤ 2 ^ 40) (h0 : 0 < s) (hs : s < 2 ^ 1000) :
    wpF T (k + 1) 1 [.ref r, .int s] S (fun d S1 => ∃ v, d = .int v ∧ 0 ≤ v ∧ v < s ∧ GrX r S S1 ∧ Pool S1 r (n + 1)) fun _ _ => False := by
  obtain ⟨a, b, c, hr, b1, b2, c1, c2⟩ := hp
  rw [wF h1]
  simp only [f_law_draw, sd_cons, sd_nil, sd_zero, List.length_cons, List.length_nil, w_var, w_const, w_glob, w_prim, w_meth, w_cut, w_not, w_and, w_or, w_one, w_ite, w_chain, w_call, w_callk, wa_nil, wa_cons, wt_name, wt_tup, wts_nil, wts_cons, wt_sub, ws_nil, ws_cons, w_expr, w_asg, w_setc, w_par2, w_par3, w_aug, w_ret, w_retN, w_ifs, w_never, seqD_tup, tgsLen, p_add, p_sub, p_mul, p_div, p_mod, p_pow, p_neg, p_eq, p_ne, p_lt, p_le, p_gt, p_ge, p_abs, p_int, p_max, p_min, p_tup, p_lst, p_ixT, p_lenT, truth_bl, onV_some, onB_some, onN_some, onD_bl, onO_some, onL_some, on2_eq, on3_eq, onC_nil, onC_one, onAug_sub, onAug_add, onAug_mul, List.getElem?_cons_zero, List.getElem?_cons_succ, List.set_cons_zero, List.set_cons_succ, wipeD, List.map_cons, List.map_nil, true_and, and_true, decide_eq_true_eq, Bool.not_eq_true', decide_eq_false_iff_not, Nat.reduceAdd, Nat.zero_add, atI_0, atI_1, atI_2, p_eqT2, p_neT2, p_isT, p_isI, p_isB, reduceIte, reduceCtorEq, Int.cast_ofNat_Int, not_true_eq_false, not_false_eq_true, eq_self, if_false, if_true, Bool.true_eq_false, Bool.false_eq_true, Bool.not_true, Bool.not_false, Bool.and_true, Bool.true_and, Bool.and_false, Bool.false_and, p_inT2, p_neS, p_eqS]
  have sq := seqAt_lst hr
  refine p_ixL sq (atI_0 _ _) ?_
  simp only [sd_cons, sd_nil, sd_zero, List.length_cons, List.length_nil, w_var, w_const, w_glob, w_prim, w_meth, w_cut, w_not, w_and, w_or, w_one, w_ite, w_chain, w_call, w_callk, wa_nil, wa_cons, wt_name, wt_tup, wts_nil, wts_cons, wt_sub, ws_nil, ws_cons, w_expr, w_asg, w_setc, w_par2, w_par3, w_aug, w_ret, w_retN, w_ifs, w_never, seqD_tup, tgsLen, p_add, p_sub, p_mul, p_div, p_mod, p_pow, p_neg, p_eq, p_ne, p_lt, p_le, p_gt, p_ge, p_abs, p_int, p_max, p_min, p_tup, p_lst, p_ixT, p_lenT, truth_bl, onV_some, onB_some, onN_some, onD_bl, onO_some, onL_some, on2_eq, on3_eq, onC_nil, onC_one, onAug_sub, onAug_add, onAug_mul, List.getElem?_cons_zero, List.getElem?_cons_succ, List.set_cons_zero, List.set_cons_succ, wipeD, List.map_cons, List.map_nil, true_and, and_true, decide_eq_true_eq, Bool.not_eq_true', decide_eq_false_iff_not, Nat.reduceAdd, Nat.zero_add, atI_0, atI_1, atI_2, p_eqT2, p_neT2, p_isT, p_isI, p_isB, reduceIte, reduceCtorEq, Int.cast_ofNat_Int, not_true_eq_false, not_false_eq_true, eq_self, if_false, if_true, Bool.true_eq_false, Bool.false_eq_true, Bool.not_true, Bool.not_false, Bool.and_true, Bool.true_and, Bool.and_false, Bool.false_and, p_inT2, p_neS, p_eqS]
  split
  · refine p_ixL sq (atI_0 _ _) ?_
    simp only [sd_cons, sd_nil, sd_zero, List.length_cons, List.length_nil, w_var, w_const, w_glob, w_prim, w_meth, w_cut, w_not, w_and, w_or, w_one, w_ite, w_chain, w_call, w_callk, wa_nil, wa_cons, wt_name, wt_tup, wts_nil, wts_cons, wt_sub, ws_nil, ws_cons, w_expr, w_asg, w_setc, w_par2, w_par3, w_aug, w_ret, w_retN, w_ifs, w_never, seqD_tup, tgsLen, p_add, p_sub, p_mul, p_div, p_mod, p_pow, p_neg, p_eq, p_ne, p_lt, p_le, p_gt, p_ge, p_abs, p_int, p_max, p_min, p_tup, p_lst, p_ixT, p_lenT, truth_bl, onV_some, onB_some, onN_some, onD_bl, onO_some, onL_some, on2_eq, on3_eq, onC_nil, onC_one, onAug_sub, onAug_add, onAug_mul, List.getElem?_cons_zero, List.getElem?_cons_succ, List.set_cons_zero, List.set_cons_succ, wipeD, List.map_cons, List.map_nil, true_and, and_true, decide_eq_true_eq, Bool.not_eq_true', decide_eq_false_iff_not, Nat.reduceAdd, Nat.zero_add, atI_0, atI_1, atI_2, p_eqT2, p_neT2, p_isT, p_isI, p_isB, reduceIte, reduceCtorEq, Int.cast_ofNat_Int, not_true_eq_false, not_false_eq_true, eq_self, if_false, if_true, Bool.true_eq_false, Bool.false_eq_true, Bool.not_true, Bool.not_false, Bool.and_true, Bool.true_and, Bool.and_false, Bool.false_and, p_inT2, p_neS, p_eqS]
    refine ⟨by omega, p_ixL sq (atI_0 _ _) ?_⟩
    simp only [sd_cons, sd_nil, sd_zero, List.length_cons, List.length_nil, w_var, w_const, w_glob, w_prim, w_meth, w_cut, w_not, w_and, w_or, w_one, w_ite, w_chain, w_call, w_callk, wa_nil, wa_cons, wt_name, wt_tup, wts_nil, wts_cons, wt_sub, ws_nil, ws_cons, w_expr, w_asg, w_setc, w_par2, w_par3, w_aug, w_ret, w_retN, w_ifs, w_never, seqD_tup, tgsLen, p_add, p_sub, p_mul, p_div, p_mod, p_pow, p_neg, p_eq, p_ne, p_lt, p_le, p_gt, p_ge, p_abs, p_int, p_max, p_min, p_tup, p_lst, p_ixT, p_lenT, truth_bl, onV_some, onB_some, onN_some, onD_bl, onO_some, onL_some, on2_eq, on3_eq, onC_nil, onC_one, onAug_sub, onAug_add, onAug_mul, List.getElem?_cons_zero, List.getElem?_cons_succ, List.set_cons_zero, List.set_cons_succ, wipeD, List.map_cons, List.map_nil, true_and, and_true, decide_eq_true_eq, Bool.not_eq_true', decide_eq_false_iff_not, Nat.reduceAdd, Nat.zero_add, atI_0, atI_1, atI_2, p_eqT2, p_neT2, p_isT, p_isI, p_isB, reduceIte, reduceCtorEq, Int.cast_ofNat_Int, not_true_eq_false, not_false_eq_true, eq_self, if_false, if_true, Bool.true_eq_false, Bool.false_eq_true, Bool.not_true, Bool.not_false, Bool.and_true, Bool.true_and, Bool.and_false, Bool.false_and, p_inT2, p_neS, p_eqS]
    have sb : Bd 1000 s := Bd.of (by omega) hs
    refine ⟨⟨by omega, sb.divOk (by decide)⟩, onSet_eq hr (j := 0) (ixN_nat (n := 3) (i := 0) (by decide)) ⟨_, rfl, (fmod_bd h0).1, (fmod_bd h0).2, GrX.set _ _ _, _, b, c, set_get hr, b1, b2, c1, by omega⟩⟩
  · refine p_ixL sq (atI_2 _ _ _ _) ?_
    simp only [sd_cons, sd_nil, sd_zero, List.length_cons, List.length_nil, w_var, w_const, w_glob, w_prim, w_meth, w_cut, w_not, w_and, w_or, w_one, w_ite, w_chain, w_call, w_callk, wa_nil, wa_cons, wt_name, wt_tup, wts_nil, wts_cons, wt_sub, ws_nil, ws_cons, w_expr, w_asg, w_setc, w_par2, w_par3, w_aug, w_ret, w_retN, w_ifs, w_never, seqD_tup, tgsLen, p_add, p_sub, p_mul, p_div, p_mod, p_pow, p_neg, p_eq, p_ne, p_lt, p_le, p_gt, p_ge, p_abs, p_int, p_max, p_min, p_tup, p_lst, p_ixT, p_lenT, truth_bl, onV_some, onB_some, onN_some, onD_bl, onO_some, onL_some, on2_eq, on3_eq, onC_nil, onC_one, onAug_sub, onAug_add, onAug_mul, List.getElem?_cons_zero, List.getElem?_cons_succ, List.set_cons_zero, List.set_cons_succ, wipeD, List.map_cons, List.map_nil, true_and, and_true, decide_eq_true_eq, Bool.not_eq_true', decide_eq_false_iff_not, Nat.reduceAdd, Nat.zero_add, atI_0, atI_1, atI_2, p_eqT2, p_neT2, p_isT, p_isI, p_isB, reduceIte, reduceCtorEq, Int.cast_ofNat_Int, not_true_eq_false, not_false_eq_true, eq_self, if_false, if_true, Bool.true_eq_false, Bool.false_eq_true, Bool.not_true, Bool.not_false, Bool.and_true, Bool.true_and, Bool.and_false, Bool.false_and, p_inT2, p_neS, p_eqS]
    refine onSet_eq hr (j := 2) (ixN_nat (n := 3) (i := 2) (by decide)) ?_
    have hr2 : (S.set r (.lst ([D.int a, .int b, .int c].set 2 (.int (c + 1)))))[r]? = some (.lst [.int a, .int b, .int (c + 1)]) := set_get hr
    have sq2 := seqAt_lst hr2
    refine p_ixL sq2 (atI_1 _ _ _) (p_ixL sq2 (atI_2 _ _ _ _) ?_)
    have bb : Bd 62 b := Bd.of (by omega) b2
    have bc : Bd 41 (c + 1) := Bd.of (by omega) (by omega)
    have k1 : Bd 30 (15485863 : Int) := Bd.of (by decide) (by decide)
    have k2 : Bd 30 (32452843 : Int) := Bd.of (by decide) (by decide)
    simp only [sd_cons, sd_nil, sd_zero, List.length_cons, List.length_nil, w_var, w_const, w_glob, w_prim, w_meth, w_cut, w_not, w_and, w_or, w_one, w_ite, w_chain, w_call, w_callk, wa_nil, wa_cons, wt_name, wt_tup, wts_nil, wts_cons, wt_sub, ws_nil, ws_cons, w_expr, w_asg, w_setc, w_par2, w_par3, w_aug, w_ret, w_retN, w_ifs, w_never, seqD_tup, tgsLen, p_add, p_sub, p_mul, p_div, p_mod, p_pow, p_neg, p_eq, p_ne, p_lt, p_le, p_gt, p_ge, p_abs, p_int, p_max, p_min, p_tup, p_lst, p_ixT, p_lenT, truth_bl, onV_some, onB_some, onN_some, onD_bl, onO_some, onL_some, on2_eq, on3_eq, onC_nil, onC_one, onAug_sub, onAug_add, onAug_mul, List.getElem?_cons_zero, List.getElem?_cons_succ, List.set_cons_zero, List.set_cons_succ, wipeD, List.map_cons, List.map_nil, true_and, and_true, decide_eq_true_eq, Bool.not_eq_true', decide_eq_false_iff_not, Nat.reduceAdd, Nat.zero_add, atI_0, atI_1, atI_2, p_eqT2, p_neT2, p_isT, p_isI, p_isB, reduceIte, reduceCtorEq, Int.cast_ofNat_Int, not_true_eq_false, not_false_eq_true, eq_self, if_false, if_true, Bool.true_eq_false, Bool.false_eq_true, Bool.not_true, Bool.not_false, Bool.and_true, Bool.true_and, Bool.and_false, Bool.false_and, p_inT2, p_neS, p_eqS]
    have m1 := fmod_bd (a := (b + 15485863 * (c + 1)) ^ Int.toNat 3) (b := 162259276829213363391578010288127) (by decide)
    have bm : Bd 110 (((b + 15485863 * (c + 1)) ^ Int.toNat 3).fmod 162259276829213363391578010288127) := Bd.of (by omega) (by omega)
    refine ⟨k1.mulOk bc (by decide) (by decide), ⟨by decide, (bb.add (k1.mul bc)).powOk (by decide) (by decide)⟩, by decide, p_ixL sq2 (atI_2 _ _ _ _) ?_⟩
    simp only [sd_cons, sd_nil, sd_zero, List.length_cons, List.length_nil, w_var, w_const, w_glob, w_prim, w_meth, w_cut, w_not, w_and, w_or, w_one, w_ite, w_chain, w_call, w_callk, wa_nil, wa_cons, wt_name, wt_tup, wts_nil, wts_cons, wt_sub, ws_nil, ws_cons, w_expr, w_asg, w_setc, w_par2, w_par3, w_aug, w_ret, w_retN, w_ifs, w_never, seqD_tup, tgsLen, p_add, p_sub, p_mul, p_div, p_mod, p_pow, p_neg, p_eq, p_ne, p_lt, p_le, p_gt, p_ge, p_abs, p_int, p_max, p_min, p_tup, p_lst, p_ixT, p_lenT, truth_bl, onV_some, onB_some, onN_some, onD_bl, onO_some, onL_some, on2_eq, on3_eq, onC_nil, onC_one, onAug_sub, onAug_add, onAug_mul, List.getElem?_cons_zero, List.getElem?_cons_succ, List.set_cons_zero, List.set_cons_succ, wipeD, List.map_cons, List.map_nil, true_and, and_true, decide_eq_true_eq, Bool.not_eq_true', decide_eq_false_iff_not, Nat.reduceAdd, Nat.zero_add, atI_0, atI_1, atI_2, p_eqT2, p_neT2, p_isT, p_isI, p_isB, reduceIte, reduceCtorEq, Int.cast_ofNat_Int, not_true_eq_false, not_false_eq_true, eq_self, if_false, if_true, Bool.true_eq_false, Bool.false_eq_true, Bool.not_true, Bool.not_false, Bool.and_true, Bool.true_and, Bool.and_false, Bool.false_and, p_inT2, p_neS, p_eqS]
    refine ⟨k2.mulOk bc (by decide) (by decide), ⟨by decide, (bm.add (k2.mul bc)).powOk (by decide) (by decide)⟩, by decide, ⟨by decide, (Bd.of (n := 30) (by decide) (by decide)).divOk (by decide)⟩, by omega, ⟨_, rfl, (fmod_bd h0).1, (fmod_bd h0).2, GrX.set _ _ _, a, b, c + 1, set_get hr, b1, b2, by omega, by omega⟩⟩

theorem sp_law_low {T : Nat → Option Fn} {k : Nat} (h10 : T 10 = some f_law_low) (a b : Int) (S : Store) (ha : Bd 13500 a) (hb : Bd 13500 b) :
    wpF T (k + 1) 10 [.int a, .int b] S (fun d S1 => d = ptD (ptOf a b) ∧ S1 = S) fun _ _ => False := by
  rw [wF h10]
  simp only [f_law_low, sd_cons, sd_nil, sd_zero, List.length_cons, List.length_nil, w_var, w_const, w_glob, w_prim, w_meth, w_cut, w_not, w_and, w_or, w_one, w_ite, w_chain, w_call, w_callk, wa_nil, wa_cons, wt_name, wt_tup, wts_nil, wts_cons, wt_sub, ws_nil, ws_cons, w_expr, w_asg, w_setc, w_par2, w_par3, w_aug, w_ret, w_retN, w_ifs, w_never, seqD_tup, tgsLen, p_add, p_sub, p_mul, p_div, p_mod, p_pow, p_neg, p_eq, p_ne, p_lt, p_le, p_gt, p_ge, p_abs, p_int, p_max, p_min, p_tup, p_lst, p_ixT, p_lenT, truth_bl, onV_some, onB_some, onN_some, onD_bl, onO_some, onL_some, on2_eq, on3_eq, onC_nil, onC_one, onAug_sub, onAug_add, onAug_mul, List.getElem?_cons_zero, List.getElem?_cons_succ, List.set_cons_zero, List.set_cons_succ, wipeD, List.map_cons, List.map_nil, true_and, and_true, decide_eq_true_eq, Bool.not_eq_true', decide_eq_false_iff_not, Nat.reduceAdd, Nat.zero_add, atI_0, atI_1, atI_2, p_eqT2, p_neT2, p_isT, p_isI, p_isB, reduceIte, reduceCtorEq, Int.cast_ofNat_Int, not_true_eq_false, not_false_eq_true, eq_self, if_false, if_true, Bool.true_eq_false, Bool.false_eq_true, Bool.not_true, Bool.not_false, Bool.and_true, Bool.true_and, Bool.and_false, Bool.false_and, p_inT2, p_neS, p_eqS]
  split
  · rename_i h
    unfold ptOf
    rw [if_pos h]
    exact ⟨by decide, rfl⟩
  · rename_i h
    refine wp_while (wpF_mono _ _) (fun m σ S1 => ∃ x y : Nat, σ = [some (.int a), some (.int b), some (.int x), some (.int y)] ∧ S1 = S ∧ m = y ∧ Nat.gcd x y = Int.gcd a b) b.natAbs ⟨a.natAbs, b.natAbs, rfl, rfl, rfl, rfl⟩ fun m σ S1 hi => ?_
    obtain ⟨x, y, rfl, rfl, rfl, hi⟩ := hi
    simp only [sd_cons, sd_nil, sd_zero, List.length_cons, List.length_nil, w_var, w_const, w_glob, w_prim, w_meth, w_cut, w_not, w_and, w_or, w_one, w_ite, w_chain, w_call, w_callk, wa_nil, wa_cons, wt_name, wt_tup, wts_nil, wts_cons, wt_sub, ws_nil, ws_cons, w_expr, w_asg, w_setc, w_par2, w_par3, w_aug, w_ret, w_retN, w_ifs, w_never, seqD_tup, tgsLen, p_add, p_sub, p_mul, p_div, p_mod, p_pow, p_neg, p_eq, p_ne, p_lt, p_le, p_gt, p_ge, p_abs, p_int, p_max, p_min, p_tup, p_lst, p_ixT, p_lenT, truth_bl, onV_some, onB_some, onN_some, onD_bl, onO_some, onL_some, on2_eq, on3_eq, onC_nil, onC_one, onAug_sub, onAug_add, onAug_mul, List.getElem?_cons_zero, List.getElem?_cons_succ, List.set_cons_zero, List.set_cons_succ, wipeD, List.map_cons, List.map_nil, true_and, and_true, decide_eq_true_eq, Bool.not_eq_true', decide_eq_false_iff_not, Nat.reduceAdd, Nat.zero_add, atI_0, atI_1, atI_2, p_eqT2, p_neT2, p_isT, p_isI, p_isB, reduceIte, reduceCtorEq, Int.cast_ofNat_Int, not_true_eq_false, not_false_eq_true, eq_self, if_false, if_true, Bool.true_eq_false, Bool.false_eq_true, Bool.not_true, Bool.not_false, Bool.and_true, Bool.true_and, Bool.and_false, Bool.false_and, p_inT2, p_neS, p_eqS]
    split
    · rename_i hm
      refine ⟨hm, x % m, Nat.mod_lt _ (by omega), m, x % m, by rw [fmod_nat], rfl, ?_⟩
      rw [← hi, Nat.gcd_comm x m, Nat.gcd_rec m x, Nat.gcd_comm]
    · rename_i hm
      have : m = 0 := by omega
      subst this
      rw [Nat.gcd_zero_right] at hi
      subst hi
      have g0 := gcd_ne (a := a) h
      have gb := gcd_bd ha h hb
      have dv : ∀ g : Int, g ≠ 0 → ∀ i : Int, Bd 13500 i → (g ≠ 0 ∧ DivOk i g) := fun g h2 i hi => ⟨h2, hi.divNum (Nat.le_refl _)⟩
      unfold ptOf
      rw [if_neg h]
      split
      · exact ⟨dv _ g0 _ ha, dv _ g0 _ hb, by decide, rfl⟩
      · have e : (0 : Int) - (Int.gcd a b : Int) = -(Int.gcd a b : Int) := by omega
        have gn : -(Int.gcd a b : Int) ≠ 0 := by omega
        rw [e]
        exact ⟨dv _ gn _ ha, dv _ gn _ hb, by decide, rfl⟩
/-! ### plain facts of points -/
theorem ptOf_spec {a b : Int} (h : b ≠ 0) : ∃ g p q : Int, g ≠ 0 ∧ a = p * g ∧ b = q * g ∧ 0 < q ∧ Int.gcd p q = 1 ∧ ptOf a b = (p, q) := by
  have g0 := gcd_ne (a := a) h
  obtain ⟨x, hx⟩ := Int.gcd_dvd_left a b
  obtain ⟨y, hy⟩ := Int.gcd_dvd_right a b
  have G0 : 0 < (Int.gcd a b : Int) := by omega
  have hc : Int.gcd x y = 1 := by
    have e : Int.gcd ((Int.gcd a b : Int) * x) ((Int.gcd a b : Int) * y) = Int.gcd a b := by rw [← hx, ← hy]
    rw [Int.gcd_mul_left] at e
    simp only [Int.natAbs_natCast] at e
    have : 0 < Int.gcd a b := by omega
    exact Nat.eq_of_mul_eq_mul_left this (by omega)
  by_cases hp : 0 < b
  · have hy0 : 0 < y := by
      rw [hy] at hp
      refine Int.not_le.mp fun z => ?_
      have := Int.mul_le_mul_of_nonneg_left z (Int.le_of_lt G0)
      rw [Int.mul_zero] at this
      omega
    refine ⟨Int.gcd a b, x, y, g0, by rw [Int.mul_comm]; exact hx, by rw [Int.mul_comm]; exact hy, hy0, hc, ?_⟩
    unfold ptOf
    rw [if_neg h, if_pos hp]
    have e1 : a.fdiv (Int.gcd a b : Int) = x := by
      conv => lhs; arg 1; rw [hx]
      exact Int.mul_fdiv_cancel_left x g0
    have e2 : b.fdiv (Int.gcd a b : Int) = y := by
      conv => lhs; arg 1; rw [hy]
      exact Int.mul_fdiv_cancel_left y g0
    rw [e1, e2]
  · have gn : -(Int.gcd a b : Int) ≠ 0 := by omega
    have hx' : a = -(Int.gcd a b : Int) * (-x) := by rw [Int.neg_mul_neg]; exact hx
    have hy' : b = -(Int.gcd a b : Int) * (-y) := by rw [Int.neg_mul_neg]; exact hy
    have hy0 : 0 < -y := by
      have : b < 0 := by omega
      rw [hy] at this
      have := Int.neg_of_mul_neg_right this (by omega)
      omega
    refine ⟨-(Int.gcd a b : Int), -x, -y, gn, by rw [Int.mul_comm]; exact hx', by rw [Int.mul_comm]; exact hy', hy0, by rw [Int.gcd_neg, Int.neg_gcd]; exact hc, ?_⟩
    unfold ptOf
    rw [if_neg h, if_neg hp]
    have e1 : a.fdiv (-(Int.gcd a b : Int)) = -x := by
      conv => lhs; arg 1; rw [hx']
      exact Int.mul_fdiv_cancel_left (-x) gn
    have e2 : b.fdiv (-(Int.gcd a b : Int)) = -y := by
      conv => lhs; arg 1; rw [hy']
      exact Int.mul_fdiv_cancel_left (-y) gn
    rw [e1, e2]
/-- a point: lowest terms, or the endless one -/
def Pt (p q : Int) : Prop := (0 < q ∧ Int.gcd p q = 1) ∨ (p = 1 ∧ q = 0)
theorem Pt.of (a b : Int) : Pt (ptOf a b).1 (ptOf a b).2 := by
  by_cases h : b = 0
  · subst h
    exact .inr ⟨rfl, rfl⟩
  · obtain ⟨g, p, q, _, _, _, h1, h2, e⟩ := ptOf_spec (a := a) h
    rw [e]
    exact .inl ⟨h1, h2⟩
theorem Pt.is {p q : Int} (h : Pt p q) : ptOf p q = (p, q) := by
  rcases h with ⟨h1, h2⟩ | ⟨rfl, rfl⟩
  · unfold ptOf
    rw [if_neg (by omega), if_pos h1, h2]
    simp
  · rfl
theorem Pt.isPt {p q : Int} (h : Pt p q) : isPt p q = true := by
  unfold CC.isPt
  rw [h.is]
  rcases h with ⟨h1, h2⟩ | ⟨rfl, rfl⟩
  · have : decide (q = 0) = false := decide_eq_false (by omega)
    simp [this]
  · rfl
theorem ptOf_bd {n : Nat} {a b : Int} (h : 0 < n) (ha : Bd n a) (hb : Bd n b) : Bd n (ptOf a b).1 ∧ Bd n (ptOf a b).2 := by
  unfold ptOf
  split
  · exact ⟨Bd.mono (m := 1) (Bd.of (by decide) (by decide)) h, Bd.mono (m := 1) (Bd.of (by decide) (by decide)) h⟩
  · exact ⟨ha.fdiv _, hb.fdiv _⟩
theorem cop_dvd {p q s : Int} (hg : Int.gcd p q = 1) (h : q ∣ p * s) : q ∣ s := by
  refine Int.natAbs_dvd_natAbs.mp (Nat.Coprime.dvd_of_dvd_mul_left (m := p.natAbs) ?_ ?_)
  · unfold Nat.Coprime
    rw [Nat.gcd_comm]
    exact hg
  · rw [← Int.natAbs_mul]
    exact Int.natAbs_dvd_natAbs.mpr h
end CC
/-! The law's points. -/
namespace CC
open L2 PySem
/-! ### what the law draws -/
def PtS (d : D) : Prop := ∃ p q : Int, d = .tup [.int p, .int q] ∧ Pt p q ∧ Bd 40 p ∧ Bd 40 q
theorem sp_spot {T : Nat → Option Fn} {k : Nat} (h1 : T 1 = some f_law_draw) (h10 : T 10 = some f_law_low) (h170 : T 170 = some f_law_spot) (r n : Nat) (S : Store) (hp : Pool S r n) (hn : n ≤ 2 ^ 30) :
    wpF T (k + 2) 170 [.ref r] S (fun d S1 => PtS d ∧ GrX r S S1 ∧ Pool S1 r (n + 5)) fun _ _ => False := by
  rw [wF h170]
  simp only [f_law_spot, sd_cons, sd_nil, sd_zero, List.length_cons, List.length_nil, w_var, w_const, w_glob, w_prim, w_meth, w_cut, w_not, w_and, w_or, w_one, w_ite, w_chain, w_call, w_callk, wa_nil, wa_cons, wt_name, wt_tup, wts_nil, wts_cons, wt_sub, ws_nil, ws_cons, w_expr, w_asg, w_setc, w_par2, w_par3, w_aug, w_ret, w_retN, w_ifs, w_never, seqD_tup, tgsLen, p_add, p_sub, p_mul, p_div, p_mod, p_pow, p_neg, p_eq, p_ne, p_lt, p_le, p_gt, p_ge, p_abs, p_int, p_max, p_min, p_tup, p_lst, p_ixT, p_lenT, truth_bl, onV_some, onB_some, onN_some, onD_bl, onO_some, onL_some, on2_eq, on3_eq, onC_nil, onC_one, onAug_sub, onAug_add, onAug_mul, List.getElem?_cons_zero, List.getElem?_cons_succ, List.set_cons_zero, List.set_cons_succ, wipeD, List.map_cons, List.map_nil, true_and, and_true, decide_eq_true_eq, Bool.not_eq_true', decide_eq_false_iff_not, Nat.reduceAdd, Nat.zero_add, atI_0, atI_1, atI_2, p_eqT2, p_neT2, p_isT, p_isI, p_isB, reduceIte, reduceCtorEq, Int.cast_ofNat_Int, not_true_eq_false, not_false_eq_true, eq_self, if_false, if_true, Bool.true_eq_false, Bool.false_eq_true, Bool.not_true, Bool.not_false, Bool.and_true, Bool.true_and, Bool.and_false, Bool.false_and, p_inT2, p_neS, p_eqS]
  refine use (sp_draw h1 r n 9 S hp (by omega) (by decide) (by decide)) fun d S1 hd => ?_
  obtain ⟨v1, rfl, a1, b1, g1, p1⟩ := hd
  simp only [sd_cons, sd_nil, sd_zero, List.length_cons, List.length_nil, w_var, w_const, w_glob, w_prim, w_meth, w_cut, w_not, w_and, w_or, w_one, w_ite, w_chain, w_call, w_callk, wa_nil, wa_cons, wt_name, wt_tup, wts_nil, wts_cons, wt_sub, ws_nil, ws_cons, w_expr, w_asg, w_setc, w_par2, w_par3, w_aug, w_ret, w_retN, w_ifs, w_never, seqD_tup, tgsLen, p_add, p_sub, p_mul, p_div, p_mod, p_pow, p_neg, p_eq, p_ne, p_lt, p_le, p_gt, p_ge, p_abs, p_int, p_max, p_min, p_tup, p_lst, p_ixT, p_lenT, truth_bl, onV_some, onB_some, onN_some, onD_bl, onO_some, onL_some, on2_eq, on3_eq, onC_nil, onC_one, onAug_sub, onAug_add, onAug_mul, List.getElem?_cons_zero, List.getElem?_cons_succ, List.set_cons_zero, List.set_cons_succ, wipeD, List.map_cons, List.map_nil, true_and, and_true, decide_eq_true_eq, Bool.not_eq_true', decide_eq_false_iff_not, Nat.reduceAdd, Nat.zero_add, atI_0, atI_1, atI_2, p_eqT2, p_neT2, p_isT, p_isI, p_isB, reduceIte, reduceCtorEq, Int.cast_ofNat_Int, not_true_eq_false, not_false_eq_true, eq_self, if_false, if_true, Bool.true_eq_false, Bool.false_eq_true, Bool.not_true, Bool.not_false, Bool.and_true, Bool.true_and, Bool.and_false, Bool.false_and, p_inT2, p_neS, p_eqS]
  refine use (sp_draw h1 r _ 4 S1 p1 (by omega) (by decide) (by decide)) fun d S2 hd => ?_
  obtain ⟨v2, rfl, a2, b2, g2, p2⟩ := hd
  simp only [sd_cons, sd_nil, sd_zero, List.length_cons, List.length_nil, w_var, w_const, w_glob, w_prim, w_meth, w_cut, w_not, w_and, w_or, w_one, w_ite, w_chain, w_call, w_callk, wa_nil, wa_cons, wt_name, wt_tup, wts_nil, wts_cons, wt_sub, ws_nil, ws_cons, w_expr, w_asg, w_setc, w_par2, w_par3, w_aug, w_ret, w_retN, w_ifs, w_never, seqD_tup, tgsLen, p_add, p_sub, p_mul, p_div, p_mod, p_pow, p_neg, p_eq, p_ne, p_lt, p_le, p_gt, p_ge, p_abs, p_int, p_max, p_min, p_tup, p_lst, p_ixT, p_lenT, truth_bl, onV_some, onB_some, onN_some, onD_bl, onO_some, onL_some, on2_eq, on3_eq, onC_nil, onC_one, onAug_sub, onAug_add, onAug_mul, List.getElem?_cons_zero, List.getElem?_cons_succ, List.set_cons_zero, List.set_cons_succ, wipeD, List.map_cons, List.map_nil, true_and, and_true, decide_eq_true_eq, Bool.not_eq_true', decide_eq_false_iff_not, Nat.reduceAdd, Nat.zero_add, atI_0, atI_1, atI_2, p_eqT2, p_neT2, p_isT, p_isI, p_isB, reduceIte, reduceCtorEq, Int.cast_ofNat_Int, not_true_eq_false, not_false_eq_true, eq_self, if_false, if_true, Bool.true_eq_false, Bool.false_eq_true, Bool.not_true, Bool.not_false, Bool.and_true, Bool.true_and, Bool.and_false, Bool.false_and, p_inT2, p_neS, p_eqS]
  refine use (sp_draw h1 r _ 6 S2 p2 (by omega) (by decide) (by decide)) fun d S3 hd => ?_
  obtain ⟨v3, rfl, a3, b3, g3, p3⟩ := hd
  have fin : ∀ (x y : Int) (S4 : Store) (m : Nat), Bd 40 x → Bd 40 y → GrX r S S4 → Pool S4 r m → m ≤ n + 5 →
      (wpF T (k + 1) 10 [.int x, .int y] S4 (fun d S1 => PtS d ∧ GrX r S S1 ∧ Pool S1 r (n + 5)) (fun _ _ => False)) ∧ (2 ≤ sizeLine ∧ PtS (.tup [.int 0, .int 1]) ∧ GrX r S S4 ∧ Pool S4 r (n + 5)) := fun x y S4 m hx hy g4 p4 hm => by
    refine ⟨?_, by decide, ⟨0, 1, rfl, .inl ⟨by decide, by decide⟩, Bd.of (by decide) (by decide), Bd.of (by decide) (by decide)⟩, g4, p4.mono hm⟩
    refine use (sp_law_low h10 x y S4 (hx.mono (by decide)) (hy.mono (by decide))) fun d S5 hd => ?_
    obtain ⟨rfl, rfl⟩ := hd
    obtain ⟨c1, c2⟩ := ptOf_bd (by decide) hx hy
    exact ⟨⟨_, _, rfl, Pt.of x y, c1, c2⟩, g4, p4.mono hm⟩
  have pw : (0 : Int) ≤ 6 ∧ (Builtin.Int.intBits 10 : Int) * 6 ≤ 2 ^ 27 := by decide
  have e10 : (10 : Int) ^ Int.toNat 6 = 1000000 := by decide
  simp only [sd_cons, sd_nil, sd_zero, List.length_cons, List.length_nil, w_var, w_const, w_glob, w_prim, w_meth, w_cut, w_not, w_and, w_or, w_one, w_ite, w_chain, w_call, w_callk, wa_nil, wa_cons, wt_name, wt_tup, wts_nil, wts_cons, wt_sub, ws_nil, ws_cons, w_expr, w_asg, w_setc, w_par2, w_par3, w_aug, w_ret, w_retN, w_ifs, w_never, seqD_tup, tgsLen, p_add, p_sub, p_mul, p_div, p_mod, p_pow, p_neg, p_eq, p_ne, p_lt, p_le, p_gt, p_ge, p_abs, p_int, p_max, p_min, p_tup, p_lst, p_ixT, p_lenT, truth_bl, onV_some, onB_some, onN_some, onD_bl, onO_some, onL_some, on2_eq, on3_eq, onC_nil, onC_one, onAug_sub, onAug_add, onAug_mul, List.getElem?_cons_zero, List.getElem?_cons_succ, List.set_cons_zero, List.set_cons_succ, wipeD, List.map_cons, List.map_nil, true_and, and_true, decide_eq_true_eq, Bool.not_eq_true', decide_eq_false_iff_not, Nat.reduceAdd, Nat.zero_add, atI_0, atI_1, atI_2, p_eqT2, p_neT2, p_isT, p_isI, p_isB, reduceIte, reduceCtorEq, Int.cast_ofNat_Int, not_true_eq_false, not_false_eq_true, eq_self, if_false, if_true, Bool.true_eq_false, Bool.false_eq_true, Bool.not_true, Bool.not_false, Bool.and_true, Bool.true_and, Bool.and_false, Bool.false_and, p_inT2, p_neS, p_eqS, e10]
  split
  · refine ⟨pw, (Bd.of (n := 3) (by decide) (by decide)).mulOk (Bd.of (n := 30) (by decide) (by decide)) (by decide) (by decide), ?_⟩
    refine use (sp_draw h1 r _ _ S3 p3 (by omega) (by decide) (by decide)) fun d S4 hd => ?_
    obtain ⟨v4, rfl, a4, b4, g4, p4⟩ := hd
    simp only [sd_cons, sd_nil, sd_zero, List.length_cons, List.length_nil, w_var, w_const, w_glob, w_prim, w_meth, w_cut, w_not, w_and, w_or, w_one, w_ite, w_chain, w_call, w_callk, wa_nil, wa_cons, wt_name, wt_tup, wts_nil, wts_cons, wt_sub, ws_nil, ws_cons, w_expr, w_asg, w_setc, w_par2, w_par3, w_aug, w_ret, w_retN, w_ifs, w_never, seqD_tup, tgsLen, p_add, p_sub, p_mul, p_div, p_mod, p_pow, p_neg, p_eq, p_ne, p_lt, p_le, p_gt, p_ge, p_abs, p_int, p_max, p_min, p_tup, p_lst, p_ixT, p_lenT, truth_bl, onV_some, onB_some, onN_some, onD_bl, onO_some, onL_some, on2_eq, on3_eq, onC_nil, onC_one, onAug_sub, onAug_add, onAug_mul, List.getElem?_cons_zero, List.getElem?_cons_succ, List.set_cons_zero, List.set_cons_succ, wipeD, List.map_cons, List.map_nil, true_and, and_true, decide_eq_true_eq, Bool.not_eq_true', decide_eq_false_iff_not, Nat.reduceAdd, Nat.zero_add, atI_0, atI_1, atI_2, p_eqT2, p_neT2, p_isT, p_isI, p_isB, reduceIte, reduceCtorEq, Int.cast_ofNat_Int, not_true_eq_false, not_false_eq_true, eq_self, if_false, if_true, Bool.true_eq_false, Bool.false_eq_true, Bool.not_true, Bool.not_false, Bool.and_true, Bool.true_and, Bool.and_false, Bool.false_and, p_inT2, p_neS, p_eqS, e10]
    refine ⟨pw, pw, ?_⟩
    refine use (sp_draw h1 r _ _ S4 p4 (by omega) (by decide) (by decide)) fun d S5 hd => ?_
    obtain ⟨v5, rfl, a5, b5, g5, p5⟩ := hd
    simp only [sd_cons, sd_nil, sd_zero, List.length_cons, List.length_nil, w_var, w_const, w_glob, w_prim, w_meth, w_cut, w_not, w_and, w_or, w_one, w_ite, w_chain, w_call, w_callk, wa_nil, wa_cons, wt_name, wt_tup, wts_nil, wts_cons, wt_sub, ws_nil, ws_cons, w_expr, w_asg, w_setc, w_par2, w_par3, w_aug, w_ret, w_retN, w_ifs, w_never, seqD_tup, tgsLen, p_add, p_sub, p_mul, p_div, p_mod, p_pow, p_neg, p_eq, p_ne, p_lt, p_le, p_gt, p_ge, p_abs, p_int, p_max, p_min, p_tup, p_lst, p_ixT, p_lenT, truth_bl, onV_some, onB_some, onN_some, onD_bl, onO_some, onL_some, on2_eq, on3_eq, onC_nil, onC_one, onAug_sub, onAug_add, onAug_mul, List.getElem?_cons_zero, List.getElem?_cons_succ, List.set_cons_zero, List.set_cons_succ, wipeD, List.map_cons, List.map_nil, true_and, and_true, decide_eq_true_eq, Bool.not_eq_true', decide_eq_false_iff_not, Nat.reduceAdd, Nat.zero_add, atI_0, atI_1, atI_2, p_eqT2, p_neT2, p_isT, p_isI, p_isB, reduceIte, reduceCtorEq, Int.cast_ofNat_Int, not_true_eq_false, not_false_eq_true, eq_self, if_false, if_true, Bool.true_eq_false, Bool.false_eq_true, Bool.not_true, Bool.not_false, Bool.and_true, Bool.true_and, Bool.and_false, Bool.false_and, p_inT2, p_neS, p_eqS]
    have q := fin (v4 - 1000000) (1 + v5) S5 (n + 5) (Bd.of (by omega) (by omega)) (Bd.of (by omega) (by omega)) ((((g1.trans g2).trans g3).trans g4).trans g5) p5 (by omega)
    split <;> (try split) <;> first | exact q.1 | exact q.2
  · have q := fin (v1 - 4) v2 S3 (n + 3) (Bd.of (by omega) (by omega)) (Bd.of (by omega) (by omega)) ((g1.trans g2).trans g3) p3 (by omega)
    split <;> (try split) <;> first | exact q.1 | exact q.2
end CC
/-! The table of the law k41 (printed by gen.py). -/
namespace CC.k41
open L2 PySem PySem.Spec PyProof.Rows
def top (i : Nat) : Stmt := PySem.Challenge.pw_closechains_k41_residues_of_points.main.body.getD i (.Pass ⟨0, 0, 0, 0⟩)
def d_common_divisor : He.DefD := ⟨("common_divisor", none), "common_divisor", "common_divisor", defArgs (top 6), defBody (top 6), defScope (top 6), [], []⟩
def d_point_of : He.DefD := ⟨("point_of", none), "point_of", "point_of", defArgs (top 7), defBody (top 7), defScope (top 7), [], []⟩
def d_is_integer : He.DefD := ⟨("is_integer", none), "is_integer", "is_integer", defArgs (top 8), defBody (top 8), defScope (top 8), [], []⟩
def d_is_point : He.DefD := ⟨("is_point", none), "is_point", "is_point", defArgs (top 9), defBody (top 9), defScope (top 9), [], []⟩
def d_check_point : He.DefD := ⟨("check_point", none), "check_point", "check_point", defArgs (top 10), defBody (top 10), defScope (top 10), [], []⟩
def d_is_prime : He.DefD := ⟨("is_prime", none), "is_prime", "is_prime", defArgs (top 14), defBody (top 14), defScope (top 14), [], []⟩
def d_inverse_of : He.DefD := ⟨("inverse_of", none), "inverse_of", "inverse_of", defArgs (top 15), defBody (top 15), defScope (top 15), [], []⟩
def d_quotient : He.DefD := ⟨("quotient", none), "quotient", "quotient", defArgs (top 16), defBody (top 16), defScope (top 16), [], []⟩
def d_reduced : He.DefD := ⟨("reduced", none), "reduced", "reduced", defArgs (top 17), defBody (top 17), defScope (top 17), [], []⟩
def d__law_pool : He.DefD := ⟨("_law_pool", none), "_law_pool", "_law_pool", defArgs (top 19), defBody (top 19), defScope (top 19), [], []⟩
def d__law_draw : He.DefD := ⟨("_law_draw", none), "_law_draw", "_law_draw", defArgs (top 20), defBody (top 20), defScope (top 20), [], []⟩
def d__law_low : He.DefD := ⟨("_law_low", none), "_law_low", "_law_low", defArgs (top 21), defBody (top 21), defScope (top 21), [], []⟩
def d__law_spot : He.DefD := ⟨("_law_spot", none), "_law_spot", "_law_spot", defArgs (top 22), defBody (top 22), defScope (top 22), [], []⟩
def d__law_is_prime : He.DefD := ⟨("_law_is_prime", none), "_law_is_prime", "_law_is_prime", defArgs (top 23), defBody (top 23), defScope (top 23), [], []⟩
def d__law_primes : He.DefD := ⟨("_law_primes", none), "_law_primes", "_law_primes", defArgs (top 24), defBody (top 24), defScope (top 24), [], []⟩
def d__law_rest : He.DefD := ⟨("_law_rest", none), "_law_rest", "_law_rest", defArgs (top 25), defBody (top 25), defScope (top 25), [], []⟩
def d__law_right : He.DefD := ⟨("_law_right", none), "_law_right", "_law_right", defArgs (top 26), defBody (top 26), defScope (top 26), [], []⟩
def d_law : He.DefD := ⟨("law", none), "law", "law", defArgs (top 27), defBody (top 27), defScope (top 27), [], []⟩
def fns : List Fn := ([f_common_divisor, f_point_of, f_is_integer, f_is_point, f_check_point, f_is_prime, f_inverse_of, f_quotient, f_reduced, f_law_pool, f_law_draw, f_law_low, f_law_spot, f_law_is_prime, f_law_primes, f_law_rest, f_law_right_40, f_law_40] : List Fn)
def ids : List Nat := ([6, 7, 8, 9, 19, 196, 197, 198, 199, 0, 1, 10, 170, 200, 201, 202, 203, 204] : List Nat)
def defs : List He.DefD := ([d_common_divisor, d_point_of, d_is_integer, d_is_point, d_check_point, d_is_prime, d_inverse_of, d_quotient, d_reduced, d__law_pool, d__law_draw, d__law_low, d__law_spot, d__law_is_prime, d__law_primes, d__law_rest, d__law_right, d_law] : List He.DefD)
def gls : List (Str × D) := [("ENDLESS", (.tup [(.int 1), (.int 0)])), ("LEAST_PRIME", (.int 5)), ("MOST_PRIME", (.int 200))]
def kws : List (List (Nat × List Str × List Nat)) := ([[], [], [], [], [], [], [], [], [(0, ["prime", "point"], [1, 0])], [], [], [], [], [], [], [], [], []] : List (List (Nat × List Str × List Nat)))
def tab : Tab := ⟨ids, fns, defs, gls, kws, [], [], [500000, 500002, 500006], PySem.Challenge.pw_closechains_k41_residues_of_points.main.file⟩
theorem b_common_divisor : BindOk d_common_divisor f_common_divisor.ps [] where
  plain := fun kV doc pm an cdv ct us hl => match us, hl with | [_, _], _ => rfl
  kw := fun q hq => nomatch hq
theorem b_point_of : BindOk d_point_of f_point_of.ps [] where
  plain := fun kV doc pm an cdv ct us hl => match us, hl with | [_, _], _ => rfl
  kw := fun q hq => nomatch hq
theorem b_is_integer : BindOk d_is_integer f_is_integer.ps [] where
  plain := fun kV doc pm an cdv ct us hl => match us, hl with | [_], _ => rfl
  kw := fun q hq => nomatch hq
theorem b_is_point : BindOk d_is_point f_is_point.ps [] where
  plain := fun kV doc pm an cdv ct us hl => match us, hl with | [_], _ => rfl
  kw := fun q hq => nomatch hq
theorem b_check_point : BindOk d_check_point f_check_point.ps [] where
  plain := fun kV doc pm an cdv ct us hl => match us, hl with | [_], _ => rfl
  kw := fun q hq => nomatch hq
theorem b_is_prime : BindOk d_is_prime f_is_prime.ps [] where
  plain := fun kV doc pm an cdv ct us hl => match us, hl with | [_], _ => rfl
  kw := fun q hq => nomatch hq
theorem b_inverse_of : BindOk d_inverse_of f_inverse_of.ps [] where
  plain := fun kV doc pm an cdv ct us hl => match us, hl with | [_, _], _ => rfl
  kw := fun q hq => nomatch hq
theorem b_quotient : BindOk d_quotient f_quotient.ps [] where
  plain := fun kV doc pm an cdv ct us hl => match us, hl with | [_, _, _], _ => rfl
  kw := fun q hq => nomatch hq
theorem b_reduced : BindOk d_reduced f_reduced.ps [(0, ["prime", "point"], [1, 0])] where
  plain := fun kV doc pm an cdv ct us hl => match us, hl with | [_, _], _ => rfl
  kw := by
    intro q hq
    simp only [List.mem_cons, List.not_mem_nil, or_false] at hq
    subst hq
    intro kV doc pm an cdv ct us ws rs h1 h2 h3 h4
    exact match us, h1, ws, h2, h3 with | [], _, [w0, w1], _, h3 => by cases h3; rfl
theorem b__law_pool : BindOk d__law_pool f_law_pool.ps [] where
  plain := fun kV doc pm an cdv ct us hl => match us, hl with | [_, _], _ => rfl
  kw := fun q hq => nomatch hq
theorem b__law_draw : BindOk d__law_draw f_law_draw.ps [] where
  plain := fun kV doc pm an cdv ct us hl => match us, hl with | [_, _], _ => rfl
  kw := fun q hq => nomatch hq
theorem b__law_low : BindOk d__law_low f_law_low.ps [] where
  plain := fun kV doc pm an cdv ct us hl => match us, hl with | [_, _], _ => rfl
  kw := fun q hq => nomatch hq
theorem b__law_spot : BindOk d__law_spot f_law_spot.ps [] where
  plain := fun kV doc pm an cdv ct us hl => match us, hl with | [_], _ => rfl
  kw := fun q hq => nomatch hq
theorem b__law_is_prime : BindOk d__law_is_prime f_law_is_prime.ps [] where
  plain := fun kV doc pm an cdv ct us hl => match us, hl with | [_], _ => rfl
  kw := fun q hq => nomatch hq
theorem b__law_primes : BindOk d__law_primes f_law_primes.ps [] where
  plain := fun kV doc pm an cdv ct us hl => match us, hl with | [], _ => rfl
  kw := fun q hq => nomatch hq
theorem b__law_rest : BindOk d__law_rest f_law_rest.ps [] where
  plain := fun kV doc pm an cdv ct us hl => match us, hl with | [_, _], _ => rfl
  kw := fun q hq => nomatch hq
theorem b__law_right : BindOk d__law_right f_law_right_40.ps [] where
  plain := fun kV doc pm an cdv ct us hl => match us, hl with | [_], _ => rfl
  kw := fun q hq => nomatch hq
theorem b_law : BindOk d_law f_law_40.ps [] where
  plain := fun kV doc pm an cdv ct us hl => match us, hl with | [_], _ => rfl
  kw := fun q hq => nomatch hq
theorem binds : BindsOk tab.fns tab.defs tab.kws := (.cons b_common_divisor (.cons b_point_of (.cons b_is_integer (.cons b_is_point (.cons b_check_point (.cons b_is_prime (.cons b_inverse_of (.cons b_quotient (.cons b_reduced (.cons b__law_pool (.cons b__law_draw (.cons b__law_low (.cons b__law_spot (.cons b__law_is_prime (.cons b__law_primes (.cons b__law_rest (.cons b__law_right (.cons b_law .nil))))))))))))))))))
theorem ok : ((tab.fns.zip tab.defs).all fun p => tab.okB p.1 p.2) = true := by decide +kernel
abbrev row : PySem.W.OpenRow := PySem.W.OpenLaw.row PySem.Challenge.rw_closechains_k41_residues_of_points
abbrev hook : PySem.W.Hook := hookC 8 tab.fa tab.das tab.gls tab.prs tab.mf tab.exs
def loose : List Str := (["ChainError", "InvalidPoint", "InvalidPrime", "ENDLESS", "common_divisor", "point_of", "is_integer", "is_point", "check_point", "LEAST_PRIME", "MOST_PRIME", "is_prime", "inverse_of", "quotient", "reduced", "_law_pool", "_law_draw", "_law_low", "_law_spot", "_law_is_prime", "_law_primes", "_law_rest", "_law_right"] : List Str)
def ob (s : PySem.W.SharedT) : He.AlD × Bool := obsC 8 tab.fa tab.das tab.gls tab.prs tab.mf tab.exs (HandSHeadRun.getT s)
theorem ob_eq (s : PySem.W.SharedT) : ob s = hook.obs s.abs := obsC_eq (HandSHeadRun.getT_eq s)
theorem okc : ((tab.cids.zip tab.clss).all fun p => tab.clB p) = true := by decide +kernel
theorem runs (w : World) : HandSHeadRun.RunEq row (PySem.W.view row.prog [27]) hook ob 20000 loose w := by
  intro os
  kernel_rfl
end CC.k41
open PyProof.Rows PySem PySem.W PySem.Calls
theorem CC.k41.holds (hlaw : ∀ ns : List Int, ns.length ≤ 63 → CC.wpF CC.k41.tab.T 16 204 [.ref 0] [.rol (ns.map CC.D.int)] (fun d _ => d = .bl true) fun _ _ => False) : PySem.Challenge.rw_closechains_k41_residues_of_points.Holds := by
  w_on
  o_law
  refine HandSHeadRun.head_any (r := CC.k41.row) (q := view CC.k41.row.prog [27]) (H := CC.k41.hook) (ob := CC.k41.ob) (M := 20000) (loose := CC.k41.loose) (d := HandSHeadRun.topDef CC.k41.row.prog 27) (kwd := []) CC.k41.ob_eq
    (by kernel_rfl) (fun s => by kernel_rfl) CC.k41.runs (by kernel_rfl) (by kernel_rfl) (by kernel_rfl) (by rfl) (by first | assumption | decide +kernel) (by decide +kernel) ⟨rfl, rfl, rfl, rfl, rfl, by decide +kernel⟩ ?hw ?hc
  case hw => w_witness2
  case hc => exact CC.walk_tab (l := PySem.Challenge.rw_closechains_k41_residues_of_points) (n := 63) (k := 15) (f := 204) (m := 8) (t := CC.k41.tab) (fn := CC.f_law_40) (x := "script") rfl (by decide) (by kernel_rfl) ⟨rfl, by decide, by decide⟩ (by rfl) rfl (by kernel_rfl) (by rfl) CC.k41.okc (by decide) rfl (by kernel_rfl) CC.k41.ok CC.k41.binds hlaw
/-! The law of residues. -/
namespace CC
open PySem L2
/-! ### numbers -/
def Prm (p : Int) : Prop := 5 ≤ p ∧ p < 200 ∧ ∀ d : Nat, 2 ≤ d → (d : Int) < p → ¬ (d : Int) ∣ p
theorem Prm.cop {p b : Int} (h : Prm p) (hb : ¬ p ∣ b) : Int.gcd b p = 1 := by
  obtain ⟨h1, h2, h3⟩ := h
  have hd : ((Int.gcd b p : Nat) : Int) ∣ p := Int.gcd_dvd_right ..
  have hb' : ((Int.gcd b p : Nat) : Int) ∣ b := Int.gcd_dvd_left ..
  have le := Int.le_of_dvd (by omega) hd
  have n0 : Int.gcd b p ≠ 0 := fun e => by
    have := Int.gcd_eq_zero_iff.mp e
    omega
  by_cases e : Int.gcd b p = 1
  · exact e
  · exfalso
    by_cases l : ((Int.gcd b p : Nat) : Int) < p
    · exact h3 _ (by omega) l hd
    · have : ((Int.gcd b p : Nat) : Int) = p := by omega
      rw [this] at hb'
      exact hb hb'
theorem Prm.mul {p a b : Int} (h : Prm p) (hd : p ∣ a * b) : p ∣ a ∨ p ∣ b := by
  by_cases k : p ∣ a
  · exact .inl k
  · exact .inr (cop_dvd (h.cop k) hd)
theorem bez : ∀ m n : Nat, ∃ x y : Int, (m : Int) * x + n * y = Nat.gcd m n := fun m n => by
  induction m, n using Nat.gcd.induction with
  | H0 n => exact ⟨0, 1, by simp⟩
  | H1 m n hm ih =>
    obtain ⟨x, y, e⟩ := ih
    refine ⟨y - (n / m : Nat) * x, x, ?_⟩
    rw [Nat.gcd_rec m n, ← e]
    have h := Nat.div_add_mod n m
    have h2 : (m : Int) * (n / m : Nat) + (n % m : Nat) = n := by rw [← Int.natCast_mul, ← Int.natCast_add, h]
    grind
theorem Prm.inv {p b : Int} (h : Prm p) (hb : ¬ p ∣ b) : ∃ t : Int, p ∣ t * b - 1 := by
  have c := h.cop hb
  obtain ⟨x, y, e⟩ := bez b.natAbs p.natAbs
  have e2 : Nat.gcd b.natAbs p.natAbs = 1 := c
  rw [e2] at e
  have ep : ((p.natAbs : Nat) : Int) = p := by have := h.1; omega
  rw [ep] at e
  rcases Int.natAbs_eq b with k | k
  · refine ⟨x, -y, ?_⟩
    rw [← k] at e
    grind
  · refine ⟨-x, -y, ?_⟩
    have k2 : ((b.natAbs : Nat) : Int) = -b := by omega
    rw [k2] at e
    grind
/-- x is the residue of a / b -/
def Res (p a b x : Int) : Prop := (p ∣ b ∧ x = p) ∨ (¬ p ∣ b ∧ 0 ≤ x ∧ x < p ∧ p ∣ x * b - a)
theorem dvd_small {p x y : Int} (hx : 0 ≤ x ∧ x < p) (hy : 0 ≤ y ∧ y < p) (h : p ∣ x - y) : x = y := by
  have := Int.emod_emod_of_dvd x (Int.dvd_refl p)
  have e := Int.emod_eq_emod_iff_emod_sub_eq_zero.mpr (Int.emod_eq_zero_of_dvd h)
  rw [Int.emod_eq_of_lt hx.1 hx.2, Int.emod_eq_of_lt hy.1 hy.2] at e
  exact e
theorem Res.one {p a b x y : Int} (h : Prm p) (hx : Res p a b x) (hy : Res p a b y) : x = y := by
  rcases hx with ⟨a1, a2⟩ | ⟨a1, a2, a3, a4⟩
  · rcases hy with ⟨b1, b2⟩ | ⟨b1, _⟩
    · rw [a2, b2]
    · exact absurd a1 b1
  · rcases hy with ⟨b1, _⟩ | ⟨b1, b2, b3, b4⟩
    · exact absurd b1 a1
    · refine dvd_small ⟨a2, a3⟩ ⟨b2, b3⟩ ?_
      have : p ∣ b * (x - y) := by
        have := Int.dvd_sub a4 b4
        have e : x * b - a - (y * b - a) = b * (x - y) := by grind
        rw [e] at this
        exact this
      exact cop_dvd (h.cop a1) this
theorem Res.bd {p a b x : Int} (h : Prm p) (hx : Res p a b x) : 0 ≤ x ∧ x ≤ 200 := by
  have := h.1
  have := h.2.1
  rcases hx with ⟨_, rfl⟩ | ⟨_, h1, h2, _⟩
  · omega
  · omega
theorem fmod0 {a p : Int} (h : 0 < p) : a.fmod p = 0 ↔ p ∣ a := by
  rw [Int.fmod_eq_emod_of_nonneg _ (by omega)]
  exact ⟨Int.dvd_of_emod_eq_zero, Int.emod_eq_zero_of_dvd⟩
theorem fmod_dvd (a : Int) {p : Int} (h : 0 < p) : p ∣ a - a.fmod p := by
  rw [Int.fmod_eq_emod_of_nonneg _ (by omega)]
  exact Int.dvd_self_sub_emod
/-! ### lists of ints by range -/
def rg (lo : Int) (n : Nat) : List Int := (List.range n).map fun i : Nat => lo + i
theorem rangeL_rg : ∀ (n : Nat) (lo : Int), rangeL lo n = (rg lo n).map D.int
  | 0, _ => rfl
  | n + 1, lo => by
    unfold rangeL rg
    rw [List.range_succ_eq_map, List.map_cons, List.map_cons, rangeL_rg n (lo + 1)]
    unfold rg
    rw [List.map_map, List.map_map, List.map_map]
    congr 1
    · congr 1; omega
    · refine List.map_congr_left fun i _ => ?_
      show D.int (lo + 1 + (i : Int)) = D.int (lo + ((i + 1 : Nat) : Int))
      congr 1
      omega
theorem mem_rg {lo : Int} {n : Nat} {x : Int} : x ∈ rg lo n ↔ lo ≤ x ∧ x < lo + n := by
  unfold rg
  rw [List.mem_map]
  constructor
  · rintro ⟨i, hi, rfl⟩
    have := List.mem_range.mp hi
    omega
  · intro h
    exact ⟨(x - lo).toNat, List.mem_range.mpr (by omega), by omega⟩
theorem get_int {ns : List Int} {i : Nat} {d : D} (h : (ns.map D.int)[i]? = some d) : ∃ n ∈ ns, d = .int n := by
  obtain ⟨n, h1, h2⟩ := get_ints h
  exact ⟨n, List.mem_of_getElem? h1, h2⟩
/-! ### operations -/
section
variable {g : Bool} {S : Store} {Q : Post}
theorem p_max4 (i j k l : Int) : primW g (.blt .max4) [.int i, .int j, .int k, .int l] S Q = Q (.int (maxOf [i, j, k, l])) S := by simp [primW, primR, bltR]
theorem p_notin2 (a b c : Int) : primW g (.cmp .NotIn) [.int a, .tup [.int b, .int c]] S Q = Q (.bl (!(decide (b = a) || decide (c = a)))) S := by
  simp [primW, primR, cmpR, den, denL, deep, shaped_int, shapedT2, eqv_int]
end
/-! ### the law's primes -/
def partsL (n : Int) : List Int := (rg 2 13).filter fun p => decide (n.fmod p = 0) && !decide (p = n)
def lawPrime (n : Int) : Bool := decide (4 < n) && decide (n < 201) && decide (partsL n = [])
def primesL : List Int := (rg 5 195).filter lawPrime
theorem primes_len : primesL.length = 44 := by decide +kernel
theorem primes_all : (primesL.all fun p => decide (5 ≤ p) && decide (p < 200) && (List.range p.toNat).all fun d => decide (d < 2) || !decide (p.fmod (d : Nat) = 0)) = true := by decide +kernel
theorem primes_ok {p : Int} (h : p ∈ primesL) : Prm p := by
  have q := List.all_eq_true.mp primes_all p h
  simp only [Bool.and_eq_true, decide_eq_true_eq, List.all_eq_true, List.mem_range, Bool.or_eq_true, Bool.not_eq_true', decide_eq_false_iff_not] at q
  refine ⟨q.1.1, q.1.2, fun d h2 hd hh => ?_⟩
  rcases q.2 d (by omega) with z | z
  · omega
  · exact z ((fmod0 (by omega)).mpr hh)
theorem sp_law_is_prime {T : Nat → Option Fn} {k : Nat} (h : T 200 = some f_law_is_prime) (n : Int) (S : Store) : wpF T (k + 1) 200 [.int n] S (fun d S1 => d = .bl (lawPrime n) ∧ Gr S S1) fun _ _ => False := by
  rw [wF h]
  refine ⟨rfl, ?_⟩
  simp only [f_law_is_prime, sd_cons, sd_nil, sd_zero, List.length_cons, List.length_nil, Nat.reduceAdd, Nat.zero_add, ws_cons, ws_nil, w_setc]
  refine wp_comp (wpF_mono _ _) ?_
  simp only [sd_cons, sd_nil, sd_zero, List.length_cons, List.length_nil, w_var, w_const, w_glob, w_prim, w_meth, w_cut, w_not, w_and, w_or, w_one, w_ite, w_chain, w_call, w_callk, wa_nil, wa_cons, wt_name, wt_tup, wts_nil, wts_cons, wt_sub, ws_nil, ws_cons, w_expr, w_asg, w_setc, w_par2, w_par3, w_aug, w_ret, w_retN, w_ifs, w_never, seqD_tup, tgsLen, p_add, p_sub, p_mul, p_div, p_mod, p_pow, p_neg, p_eq, p_ne, p_lt, p_le, p_gt, p_ge, p_abs, p_int, p_max, p_min, p_tup, p_lst, p_ixT, p_lenT, truth_bl, onV_some, onB_some, onN_some, onD_bl, onO_some, onL_some, on2_eq, on3_eq, onC_nil, onC_one, onAug_sub, onAug_add, onAug_mul, List.getElem?_cons_zero, List.getElem?_cons_succ, List.set_cons_zero, List.set_cons_succ, wipeD, List.map_cons, List.map_nil, true_and, and_true, decide_eq_true_eq, Bool.not_eq_true', decide_eq_false_iff_not, Nat.reduceAdd, Nat.zero_add, atI_0, atI_1, atI_2, p_eqT2, p_neT2, p_isT, p_isI, p_isB, reduceIte, reduceCtorEq, Int.cast_ofNat_Int, not_true_eq_false, not_false_eq_true, eq_self, if_false, if_true, Bool.true_eq_false, Bool.false_eq_true, Bool.not_true, Bool.not_false, Bool.and_true, Bool.true_and, Bool.and_false, Bool.false_and, p_inT2, p_neS, p_eqS, iterR]
  refine ⟨_, _, rfl, by decide, ok_nil, (by rw [rangeL_length]; decide), fun d => match d with
    | .int p => if (decide (n.fmod p = 0) && !decide (p = n)) then some d else none
    | _ => none, fun i d S2 hd hg => ?_, fun S2 hg h2 => ?_⟩
  · rw [rangeL_rg] at hd
    obtain ⟨p, hp, rfl⟩ := get_int hd
    have := mem_rg.mp hp
    simp only [sd_cons, sd_nil, sd_zero, List.length_cons, List.length_nil, w_var, w_const, w_glob, w_prim, w_meth, w_cut, w_not, w_and, w_or, w_one, w_ite, w_chain, w_call, w_callk, wa_nil, wa_cons, wt_name, wt_tup, wts_nil, wts_cons, wt_sub, ws_nil, ws_cons, w_expr, w_asg, w_setc, w_par2, w_par3, w_aug, w_ret, w_retN, w_ifs, w_never, seqD_tup, tgsLen, p_add, p_sub, p_mul, p_div, p_mod, p_pow, p_neg, p_eq, p_ne, p_lt, p_le, p_gt, p_ge, p_abs, p_int, p_max, p_min, p_tup, p_lst, p_ixT, p_lenT, truth_bl, onV_some, onB_some, onN_some, onD_bl, onO_some, onL_some, on2_eq, on3_eq, onC_nil, onC_one, onAug_sub, onAug_add, onAug_mul, List.getElem?_cons_zero, List.getElem?_cons_succ, List.set_cons_zero, List.set_cons_succ, wipeD, List.map_cons, List.map_nil, true_and, and_true, decide_eq_true_eq, Bool.not_eq_true', decide_eq_false_iff_not, Nat.reduceAdd, Nat.zero_add, atI_0, atI_1, atI_2, p_eqT2, p_neT2, p_isT, p_isI, p_isB, reduceIte, reduceCtorEq, Int.cast_ofNat_Int, not_true_eq_false, not_false_eq_true, eq_self, if_false, if_true, Bool.true_eq_false, Bool.false_eq_true, Bool.not_true, Bool.not_false, Bool.and_true, Bool.true_and, Bool.and_false, Bool.false_and, p_inT2, p_neS, p_eqS]
    refine ⟨by omega, ?_⟩
    by_cases c1 : n.fmod p = 0
    · by_cases c2 : p = n
      · simp [c1, c2, Gr.refl]
      · simp [c1, c2, Gr.refl]
    · simp [c1, Gr.refl]
  · rw [rangeL_rg, filter_some (fun p => decide (n.fmod p = 0) && !decide (p = n)) _ D.int (fun a => rfl)] at h2
    have e : lawPrime n = (decide (4 < n) && decide (n < 201) && decide (partsL n = [])) := rfl
    by_cases c1 : 4 < n
    · by_cases c2 : n < 201
      · simp only [c1, c2, decide_true, if_true, List.length_nil]
        refine ⟨by decide, ?_⟩
        refine p_eqL (ns := partsL n) (ms := []) (seqAt_lst (Gr.push _ _ _ _ h2)) (seqAt_lst (by simp)) ?_
        rw [e]
        simp only [c1, c2, decide_true, Bool.true_and]
        exact ⟨trivial, hg.trans (Gr.push _ _)⟩
      · simp [c1, c2, e, hg]
    · simp [c1, e, hg]
theorem sp_primes {T : Nat → Option Fn} {k : Nat} (h : T 200 = some f_law_is_prime) (h1 : T 201 = some f_law_primes) (S : Store) : wpF T (k + 2) 201 [] S (fun d S1 => ∃ l, d = .ref l ∧ Gr S S1 ∧ S1[l]? = some (.lst (primesL.map D.int))) fun _ _ => False := by
  rw [wF h1]
  refine ⟨rfl, ?_⟩
  simp only [f_law_primes, sd_cons, sd_nil, sd_zero, List.length_cons, List.length_nil, Nat.reduceAdd, Nat.zero_add, ws_cons, ws_nil, w_ret]
  refine wp_comp (wpF_mono _ _) ?_
  simp only [sd_cons, sd_nil, sd_zero, List.length_cons, List.length_nil, w_var, w_const, w_glob, w_prim, w_meth, w_cut, w_not, w_and, w_or, w_one, w_ite, w_chain, w_call, w_callk, wa_nil, wa_cons, wt_name, wt_tup, wts_nil, wts_cons, wt_sub, ws_nil, ws_cons, w_expr, w_asg, w_setc, w_par2, w_par3, w_aug, w_ret, w_retN, w_ifs, w_never, seqD_tup, tgsLen, p_add, p_sub, p_mul, p_div, p_mod, p_pow, p_neg, p_eq, p_ne, p_lt, p_le, p_gt, p_ge, p_abs, p_int, p_max, p_min, p_tup, p_lst, p_ixT, p_lenT, truth_bl, onV_some, onB_some, onN_some, onD_bl, onO_some, onL_some, on2_eq, on3_eq, onC_nil, onC_one, onAug_sub, onAug_add, onAug_mul, List.getElem?_cons_zero, List.getElem?_cons_succ, List.set_cons_zero, List.set_cons_succ, wipeD, List.map_cons, List.map_nil, true_and, and_true, decide_eq_true_eq, Bool.not_eq_true', decide_eq_false_iff_not, Nat.reduceAdd, Nat.zero_add, atI_0, atI_1, atI_2, p_eqT2, p_neT2, p_isT, p_isI, p_isB, reduceIte, reduceCtorEq, Int.cast_ofNat_Int, not_true_eq_false, not_false_eq_true, eq_self, if_false, if_true, Bool.true_eq_false, Bool.false_eq_true, Bool.not_true, Bool.not_false, Bool.and_true, Bool.true_and, Bool.and_false, Bool.false_and, p_inT2, p_neS, p_eqS, iterR]
  refine ⟨_, _, rfl, by decide, ok_nil, (by rw [rangeL_length]; decide), fun d => match d with
    | .int p => if lawPrime p then some d else none
    | _ => none, fun i d S2 hd hg => ?_, fun S2 hg h2 => ?_⟩
  · rw [rangeL_rg] at hd
    obtain ⟨p, hp, rfl⟩ := get_int hd
    simp only [sd_cons, sd_nil, sd_zero, List.length_cons, List.length_nil, w_var, w_const, w_glob, w_prim, w_meth, w_cut, w_not, w_and, w_or, w_one, w_ite, w_chain, w_call, w_callk, wa_nil, wa_cons, wt_name, wt_tup, wts_nil, wts_cons, wt_sub, ws_nil, ws_cons, w_expr, w_asg, w_setc, w_par2, w_par3, w_aug, w_ret, w_retN, w_ifs, w_never, seqD_tup, tgsLen, p_add, p_sub, p_mul, p_div, p_mod, p_pow, p_neg, p_eq, p_ne, p_lt, p_le, p_gt, p_ge, p_abs, p_int, p_max, p_min, p_tup, p_lst, p_ixT, p_lenT, truth_bl, onV_some, onB_some, onN_some, onD_bl, onO_some, onL_some, on2_eq, on3_eq, onC_nil, onC_one, onAug_sub, onAug_add, onAug_mul, List.getElem?_cons_zero, List.getElem?_cons_succ, List.set_cons_zero, List.set_cons_succ, wipeD, List.map_cons, List.map_nil, true_and, and_true, decide_eq_true_eq, Bool.not_eq_true', decide_eq_false_iff_not, Nat.reduceAdd, Nat.zero_add, atI_0, atI_1, atI_2, p_eqT2, p_neT2, p_isT, p_isI, p_isB, reduceIte, reduceCtorEq, Int.cast_ofNat_Int, not_true_eq_false, not_false_eq_true, eq_self, if_false, if_true, Bool.true_eq_false, Bool.false_eq_true, Bool.not_true, Bool.not_false, Bool.and_true, Bool.true_and, Bool.and_false, Bool.false_and, p_inT2, p_neS, p_eqS]
    refine use (sp_law_is_prime h p S2) fun d S3 hd => ?_
    obtain ⟨rfl, g3⟩ := hd
    simp only [sd_cons, sd_nil, sd_zero, List.length_cons, List.length_nil, w_var, w_const, w_glob, w_prim, w_meth, w_cut, w_not, w_and, w_or, w_one, w_ite, w_chain, w_call, w_callk, wa_nil, wa_cons, wt_name, wt_tup, wts_nil, wts_cons, wt_sub, ws_nil, ws_cons, w_expr, w_asg, w_setc, w_par2, w_par3, w_aug, w_ret, w_retN, w_ifs, w_never, seqD_tup, tgsLen, p_add, p_sub, p_mul, p_div, p_mod, p_pow, p_neg, p_eq, p_ne, p_lt, p_le, p_gt, p_ge, p_abs, p_int, p_max, p_min, p_tup, p_lst, p_ixT, p_lenT, truth_bl, onV_some, onB_some, onN_some, onD_bl, onO_some, onL_some, on2_eq, on3_eq, onC_nil, onC_one, onAug_sub, onAug_add, onAug_mul, List.getElem?_cons_zero, List.getElem?_cons_succ, List.set_cons_zero, List.set_cons_succ, wipeD, List.map_cons, List.map_nil, true_and, and_true, decide_eq_true_eq, Bool.not_eq_true', decide_eq_false_iff_not, Nat.reduceAdd, Nat.zero_add, atI_0, atI_1, atI_2, p_eqT2, p_neT2, p_isT, p_isI, p_isB, reduceIte, reduceCtorEq, Int.cast_ofNat_Int, not_true_eq_false, not_false_eq_true, eq_self, if_false, if_true, Bool.true_eq_false, Bool.false_eq_true, Bool.not_true, Bool.not_false, Bool.and_true, Bool.true_and, Bool.and_false, Bool.false_and, p_inT2, p_neS, p_eqS]
    cases lawPrime p <;> simp [g3]
  · rw [rangeL_rg, filter_some lawPrime _ D.int (fun a => rfl)] at h2
    exact ⟨_, rfl, hg, h2⟩
/-! ### the program's -/
theorem sp_is_prime {T : Nat → Option Fn} {k : Nat} (h : T 196 = some f_is_prime) (p : Int) (hp : Prm p) (S : Store) : wpF T (k + 1) 196 [.int p] S (fun d S1 => d = .bl true ∧ Gr S S1) fun _ _ => False := by
  have ⟨p1, p2, p3⟩ := hp
  rw [wF h]
  simp only [f_is_prime, sd_cons, sd_nil, sd_zero, List.length_cons, List.length_nil, w_var, w_const, w_glob, w_prim, w_meth, w_cut, w_not, w_and, w_or, w_one, w_ite, w_chain, w_call, w_callk, wa_nil, wa_cons, wt_name, wt_tup, wts_nil, wts_cons, wt_sub, ws_nil, ws_cons, w_expr, w_asg, w_setc, w_par2, w_par3, w_aug, w_ret, w_retN, w_ifs, w_never, seqD_tup, tgsLen, p_add, p_sub, p_mul, p_div, p_mod, p_pow, p_neg, p_eq, p_ne, p_lt, p_le, p_gt, p_ge, p_abs, p_int, p_max, p_min, p_tup, p_lst, p_ixT, p_lenT, truth_bl, onV_some, onB_some, onN_some, onD_bl, onO_some, onL_some, on2_eq, on3_eq, onC_nil, onC_one, onAug_sub, onAug_add, onAug_mul, List.getElem?_cons_zero, List.getElem?_cons_succ, List.set_cons_zero, List.set_cons_succ, wipeD, List.map_cons, List.map_nil, true_and, and_true, decide_eq_true_eq, Bool.not_eq_true', decide_eq_false_iff_not, Nat.reduceAdd, Nat.zero_add, atI_0, atI_1, atI_2, p_eqT2, p_neT2, p_isT, p_isI, p_isB, reduceIte, reduceCtorEq, Int.cast_ofNat_Int, not_true_eq_false, not_false_eq_true, eq_self, if_false, if_true, Bool.true_eq_false, Bool.false_eq_true, Bool.not_true, Bool.not_false, Bool.and_true, Bool.true_and, Bool.and_false, Bool.false_and, p_inT2, p_neS, p_eqS, show (5 : Int) ≤ p from p1, show p ≤ 200 by omega, decide_true]
  refine wp_comp (wpF_mono _ _) ?_
  simp only [sd_cons, sd_nil, sd_zero, List.length_cons, List.length_nil, w_var, w_const, w_glob, w_prim, w_meth, w_cut, w_not, w_and, w_or, w_one, w_ite, w_chain, w_call, w_callk, wa_nil, wa_cons, wt_name, wt_tup, wts_nil, wts_cons, wt_sub, ws_nil, ws_cons, w_expr, w_asg, w_setc, w_par2, w_par3, w_aug, w_ret, w_retN, w_ifs, w_never, seqD_tup, tgsLen, p_add, p_sub, p_mul, p_div, p_mod, p_pow, p_neg, p_eq, p_ne, p_lt, p_le, p_gt, p_ge, p_abs, p_int, p_max, p_min, p_tup, p_lst, p_ixT, p_lenT, truth_bl, onV_some, onB_some, onN_some, onD_bl, onO_some, onL_some, on2_eq, on3_eq, onC_nil, onC_one, onAug_sub, onAug_add, onAug_mul, List.getElem?_cons_zero, List.getElem?_cons_succ, List.set_cons_zero, List.set_cons_succ, wipeD, List.map_cons, List.map_nil, true_and, and_true, decide_eq_true_eq, Bool.not_eq_true', decide_eq_false_iff_not, Nat.reduceAdd, Nat.zero_add, atI_0, atI_1, atI_2, p_eqT2, p_neT2, p_isT, p_isI, p_isB, reduceIte, reduceCtorEq, Int.cast_ofNat_Int, not_true_eq_false, not_false_eq_true, eq_self, if_false, if_true, Bool.true_eq_false, Bool.false_eq_true, Bool.not_true, Bool.not_false, Bool.and_true, Bool.true_and, Bool.and_false, Bool.false_and, p_inT2, p_neS, p_eqS, iterR]
  refine ⟨_, _, rfl, by omega, ok_nil, (by rw [rangeL_length]; have : (200 : Nat) ≤ sizeLine := by decide
                                           omega), fun d => match d with
    | .int n => some (.bl (!decide (p.fmod n = 0)))
    | _ => none, fun i d S2 hd hg => ?_, fun S2 hg h2 => ?_⟩
  · rw [rangeL_rg] at hd
    obtain ⟨n, hn, rfl⟩ := get_int hd
    have := mem_rg.mp hn
    simp only [sd_cons, sd_nil, sd_zero, List.length_cons, List.length_nil, w_var, w_const, w_glob, w_prim, w_meth, w_cut, w_not, w_and, w_or, w_one, w_ite, w_chain, w_call, w_callk, wa_nil, wa_cons, wt_name, wt_tup, wts_nil, wts_cons, wt_sub, ws_nil, ws_cons, w_expr, w_asg, w_setc, w_par2, w_par3, w_aug, w_ret, w_retN, w_ifs, w_never, seqD_tup, tgsLen, p_add, p_sub, p_mul, p_div, p_mod, p_pow, p_neg, p_eq, p_ne, p_lt, p_le, p_gt, p_ge, p_abs, p_int, p_max, p_min, p_tup, p_lst, p_ixT, p_lenT, truth_bl, onV_some, onB_some, onN_some, onD_bl, onO_some, onL_some, on2_eq, on3_eq, onC_nil, onC_one, onAug_sub, onAug_add, onAug_mul, List.getElem?_cons_zero, List.getElem?_cons_succ, List.set_cons_zero, List.set_cons_succ, wipeD, List.map_cons, List.map_nil, true_and, and_true, decide_eq_true_eq, Bool.not_eq_true', decide_eq_false_iff_not, Nat.reduceAdd, Nat.zero_add, atI_0, atI_1, atI_2, p_eqT2, p_neT2, p_isT, p_isI, p_isB, reduceIte, reduceCtorEq, Int.cast_ofNat_Int, not_true_eq_false, not_false_eq_true, eq_self, if_false, if_true, Bool.true_eq_false, Bool.false_eq_true, Bool.not_true, Bool.not_false, Bool.and_true, Bool.true_and, Bool.and_false, Bool.false_and, p_inT2, p_neS, p_eqS]
    exact ⟨by omega, Gr.refl _⟩
  · rw [rangeL_rg, map_some (fun n => !decide (p.fmod n = 0)) _ D.int D.bl (fun a => rfl)] at h2
    refine p_all (seqAt_lst h2) ?_
    refine ⟨?_, hg⟩
    congr 1
    rw [List.all_eq_true]
    intro b hb
    obtain ⟨n, hn, rfl⟩ := List.mem_map.mp hb
    have hn := mem_rg.mp hn
    have := p3 n.toNat (by omega) (by omega)
    have e : ((n.toNat : Nat) : Int) = n := by omega
    rw [e] at this
    simpa [fmod0 (show 0 < n by omega)] using this
theorem sp_inverse {T : Nat → Option Fn} {k : Nat} (h : T 197 = some f_inverse_of) (n p : Int) (hp : Prm p) (hn : ¬ p ∣ n) (S : Store) : wpF T (k + 1) 197 [.int n, .int p] S (fun d S1 => ∃ t, d = .int t ∧ 0 ≤ t ∧ t < p ∧ p ∣ t * n - 1 ∧ S1 = S) fun _ _ => False := by
  have ⟨p1, p2, p3⟩ := hp
  obtain ⟨m, rfl⟩ : ∃ m : Nat, p = m := ⟨p.toNat, by omega⟩
  rw [wF h]
  refine ⟨rfl, ?_⟩
  simp only [f_inverse_of, sd_cons, sd_nil, sd_zero, List.length_cons, List.length_nil, Nat.reduceAdd, Nat.zero_add]
  have f1 := fmod_bd (a := n) (b := m) (by omega)
  obtain ⟨a0, ha0⟩ : ∃ a : Nat, n.fmod m = a := ⟨(n.fmod m).toNat, by omega⟩
  have d0 := fmod_dvd n (p := m) (by omega)
  have g0 : Nat.gcd a0 m = 1 := by
    have hc : ¬ (m : Int) ∣ (a0 : Int) := fun e => hn (by
      have := Int.dvd_add d0 (ha0 ▸ e : (m : Int) ∣ n.fmod m)
      rw [Int.sub_add_cancel] at this
      exact this)
    exact hp.cop hc
  refine cutS (wpF_mono _ _) (fun σ S1 => σ = [some (.int n), some (.int m), some (.int a0), some (.int m), some (.int 1), some (.int 0), none] ∧ S1 = S) ?_ fun σ S1 hh => ?_
  · simp only [sd_cons, sd_nil, sd_zero, List.length_cons, List.length_nil, w_var, w_const, w_glob, w_prim, w_meth, w_cut, w_not, w_and, w_or, w_one, w_ite, w_chain, w_call, w_callk, wa_nil, wa_cons, wt_name, wt_tup, wts_nil, wts_cons, wt_sub, ws_nil, ws_cons, w_expr, w_asg, w_setc, w_par2, w_par3, w_aug, w_ret, w_retN, w_ifs, w_never, seqD_tup, tgsLen, p_add, p_sub, p_mul, p_div, p_mod, p_pow, p_neg, p_eq, p_ne, p_lt, p_le, p_gt, p_ge, p_abs, p_int, p_max, p_min, p_tup, p_lst, p_ixT, p_lenT, truth_bl, onV_some, onB_some, onN_some, onD_bl, onO_some, onL_some, on2_eq, on3_eq, onC_nil, onC_one, onAug_sub, onAug_add, onAug_mul, List.getElem?_cons_zero, List.getElem?_cons_succ, List.set_cons_zero, List.set_cons_succ, wipeD, List.map_cons, List.map_nil, true_and, and_true, decide_eq_true_eq, Bool.not_eq_true', decide_eq_false_iff_not, Nat.reduceAdd, Nat.zero_add, atI_0, atI_1, atI_2, p_eqT2, p_neT2, p_isT, p_isI, p_isB, reduceIte, reduceCtorEq, Int.cast_ofNat_Int, not_true_eq_false, not_false_eq_true, eq_self, if_false, if_true, Bool.true_eq_false, Bool.false_eq_true, Bool.not_true, Bool.not_false, Bool.and_true, Bool.true_and, Bool.and_false, Bool.false_and, p_inT2, p_neS, p_eqS]
    exact ⟨by omega, by decide, by rw [ha0]⟩
  obtain ⟨rfl, rfl⟩ := hh
  refine cutS (wpF_mono _ _) (fun σ S2 => ∃ t z w, σ = [some (.int n), some (.int m), some (.int 1), some (.int 0), some (.int t), z, w] ∧ (m : Int) ∣ t * n - 1 ∧ S2 = S1) ?_ fun σ S2 hh => ?_
  · refine wp_while (wpF_mono _ _) (fun j σ S2 => ∃ (a : Nat) (t u : Int) (w : Option D), σ = [some (.int n), some (.int m), some (.int a), some (.int j), some (.int t), some (.int u), w] ∧ S2 = S1 ∧ a ≤ 200 ∧ j ≤ 200 ∧ Nat.gcd a j = 1 ∧ (m : Int) ∣ t * n - a ∧ (m : Int) ∣ u * n - j ∧ Bd (10 * (400 - j)) t ∧ Bd (10 * (400 - j)) u) m ⟨a0, 1, 0, none, rfl, rfl, by omega, by omega, g0, ?_, ?_, (Bd.of (n := 2) (by decide) (by decide)).mono (by omega), (Bd.of (n := 2) (by decide) (by decide)).mono (by omega)⟩ fun j σ S2 hi => ?_
    · rw [Int.one_mul, ← ha0]
      exact d0
    · rw [Int.zero_mul]
      exact ⟨-1, by omega⟩
    · obtain ⟨a, t, u, w, rfl, rfl, h1, h2, h3, h4, h5, h6, h7⟩ := hi
      simp only [sd_cons, sd_nil, sd_zero, List.length_cons, List.length_nil, w_var, w_const, w_glob, w_prim, w_meth, w_cut, w_not, w_and, w_or, w_one, w_ite, w_chain, w_call, w_callk, wa_nil, wa_cons, wt_name, wt_tup, wts_nil, wts_cons, wt_sub, ws_nil, ws_cons, w_expr, w_asg, w_setc, w_par2, w_par3, w_aug, w_ret, w_retN, w_ifs, w_never, seqD_tup, tgsLen, p_add, p_sub, p_mul, p_div, p_mod, p_pow, p_neg, p_eq, p_ne, p_lt, p_le, p_gt, p_ge, p_abs, p_int, p_max, p_min, p_tup, p_lst, p_ixT, p_lenT, truth_bl, onV_some, onB_some, onN_some, onD_bl, onO_some, onL_some, on2_eq, on3_eq, onC_nil, onC_one, onAug_sub, onAug_add, onAug_mul, List.getElem?_cons_zero, List.getElem?_cons_succ, List.set_cons_zero, List.set_cons_succ, wipeD, List.map_cons, List.map_nil, true_and, and_true, decide_eq_true_eq, Bool.not_eq_true', decide_eq_false_iff_not, Nat.reduceAdd, Nat.zero_add, atI_0, atI_1, atI_2, p_eqT2, p_neT2, p_isT, p_isI, p_isB, reduceIte, reduceCtorEq, Int.cast_ofNat_Int, not_true_eq_false, not_false_eq_true, eq_self, if_false, if_true, Bool.true_eq_false, Bool.false_eq_true, Bool.not_true, Bool.not_false, Bool.and_true, Bool.true_and, Bool.and_false, Bool.false_and, p_inT2, p_neS, p_eqS]
      by_cases hj : (j : Int) = 0
      · have hj0 : j = 0 := by omega
        subst hj0
        rw [Nat.gcd_zero_right] at h3
        subst h3
        simp only [Int.natCast_zero, decide_true, not_true_eq_false, Bool.not_true, Bool.false_eq_true, if_false]
        exact ⟨t, _, _, rfl, by simpa using h4⟩
      · simp only [hj, decide_false, Bool.not_false, if_true]
        have hjp : 0 < j := by omega
        have eq : (a : Int).fdiv (j : Int) = ((a / j : Nat) : Int) := by
          rw [Int.fdiv_eq_ediv_of_nonneg _ (by omega)]
          rfl
        rw [eq]
        have hq : a / j ≤ 200 := Nat.le_trans (Nat.div_le_self _ _) h1
        have bq : ∀ c : Nat, c ≤ 200 → Bd 8 (c : Int) := fun c hc => Bd.of (by omega) (by omega)
        have bq := bq _ hq
        have bj : Bd 8 (j : Int) := Bd.of (by omega) (by omega)
        have em : (a : Int) - ((a / j : Nat) : Int) * j = ((a % j : Nat) : Int) := by
          have h := Nat.div_add_mod a j
          have h2 : (j : Int) * (a / j : Nat) + (a % j : Nat) = a := by rw [← Int.natCast_mul, ← Int.natCast_add, h]
          grind
        have lt := Nat.mod_lt a hjp
        refine ⟨⟨hj, bj.divOk (by decide)⟩, bq.mulOk bj (by decide) (by decide), bq.mulOk h7 (by decide) (Nat.le_trans (by omega) (show 4000 ≤ 2 ^ 20 by decide)), by decide, ?_⟩
        rw [em]
        have new : (m : Int) ∣ (t - ((a / j : Nat) : Int) * u) * n - ((a % j : Nat) : Int) := by
          rw [← em]
          have := Int.dvd_sub h4 (Int.dvd_mul_of_dvd_right (b := ((a / j : Nat) : Int)) h5)
          have e : t * n - a - ((a / j : Nat) : Int) * (u * n - j) = (t - ((a / j : Nat) : Int) * u) * n - (a - ((a / j : Nat) : Int) * j) := by grind
          rw [e] at this
          exact this
        have gc : Nat.gcd j (a % j) = 1 := by
          rw [Nat.gcd_comm, ← Nat.gcd_rec, Nat.gcd_comm]
          exact h3
        have bm := h6.sub (bq.mul h7)
        clear em
        generalize a % j = c at lt new gc ⊢
        exact ⟨c, lt, j, u, _, _, rfl, by omega, by omega, gc, h5, new, h7.mono (by omega), bm.mono (by omega)⟩
  · obtain ⟨t, z, w, rfl, ht, rfl⟩ := hh
    simp only [sd_cons, sd_nil, sd_zero, List.length_cons, List.length_nil, w_var, w_const, w_glob, w_prim, w_meth, w_cut, w_not, w_and, w_or, w_one, w_ite, w_chain, w_call, w_callk, wa_nil, wa_cons, wt_name, wt_tup, wts_nil, wts_cons, wt_sub, ws_nil, ws_cons, w_expr, w_asg, w_setc, w_par2, w_par3, w_aug, w_ret, w_retN, w_ifs, w_never, seqD_tup, tgsLen, p_add, p_sub, p_mul, p_div, p_mod, p_pow, p_neg, p_eq, p_ne, p_lt, p_le, p_gt, p_ge, p_abs, p_int, p_max, p_min, p_tup, p_lst, p_ixT, p_lenT, truth_bl, onV_some, onB_some, onN_some, onD_bl, onO_some, onL_some, on2_eq, on3_eq, onC_nil, onC_one, onAug_sub, onAug_add, onAug_mul, List.getElem?_cons_zero, List.getElem?_cons_succ, List.set_cons_zero, List.set_cons_succ, wipeD, List.map_cons, List.map_nil, true_and, and_true, decide_eq_true_eq, Bool.not_eq_true', decide_eq_false_iff_not, Nat.reduceAdd, Nat.zero_add, atI_0, atI_1, atI_2, p_eqT2, p_neT2, p_isT, p_isI, p_isB, reduceIte, reduceCtorEq, Int.cast_ofNat_Int, not_true_eq_false, not_false_eq_true, eq_self, if_false, if_true, Bool.true_eq_false, Bool.false_eq_true, Bool.not_true, Bool.not_false, Bool.and_true, Bool.true_and, Bool.and_false, Bool.false_and, p_inT2, p_neS, p_eqS]
    refine ⟨by omega, _, rfl, (fmod_bd (by omega)).1, (fmod_bd (by omega)).2, ?_⟩
    have d := fmod_dvd t (p := m) (by omega)
    have := Int.dvd_sub ht (Int.dvd_mul_of_dvd_left (c := n) d)
    have e : t * n - 1 - (t - t.fmod m) * n = t.fmod m * n - 1 := by grind
    rw [e] at this
    exact this
theorem sp_quotient {T : Nat → Option Fn} {k : Nat} (h7 : T 197 = some f_inverse_of) (h : T 198 = some f_quotient) (a b p : Int) (ha : Bd 200 a) (hp : Prm p) (S : Store) : wpF T (k + 2) 198 [.int a, .int b, .int p] S (fun d S1 => ∃ x, d = .int x ∧ Res p a b x ∧ S1 = S) fun _ _ => False := by
  have ⟨p1, p2, p3⟩ := hp
  rw [wF h]
  simp only [f_quotient, sd_cons, sd_nil, sd_zero, List.length_cons, List.length_nil, w_var, w_const, w_glob, w_prim, w_meth, w_cut, w_not, w_and, w_or, w_one, w_ite, w_chain, w_call, w_callk, wa_nil, wa_cons, wt_name, wt_tup, wts_nil, wts_cons, wt_sub, ws_nil, ws_cons, w_expr, w_asg, w_setc, w_par2, w_par3, w_aug, w_ret, w_retN, w_ifs, w_never, seqD_tup, tgsLen, p_add, p_sub, p_mul, p_div, p_mod, p_pow, p_neg, p_eq, p_ne, p_lt, p_le, p_gt, p_ge, p_abs, p_int, p_max, p_min, p_tup, p_lst, p_ixT, p_lenT, truth_bl, onV_some, onB_some, onN_some, onD_bl, onO_some, onL_some, on2_eq, on3_eq, onC_nil, onC_one, onAug_sub, onAug_add, onAug_mul, List.getElem?_cons_zero, List.getElem?_cons_succ, List.set_cons_zero, List.set_cons_succ, wipeD, List.map_cons, List.map_nil, true_and, and_true, decide_eq_true_eq, Bool.not_eq_true', decide_eq_false_iff_not, Nat.reduceAdd, Nat.zero_add, atI_0, atI_1, atI_2, p_eqT2, p_neT2, p_isT, p_isI, p_isB, reduceIte, reduceCtorEq, Int.cast_ofNat_Int, not_true_eq_false, not_false_eq_true, eq_self, if_false, if_true, Bool.true_eq_false, Bool.false_eq_true, Bool.not_true, Bool.not_false, Bool.and_true, Bool.true_and, Bool.and_false, Bool.false_and, p_inT2, p_neS, p_eqS]
  refine ⟨by omega, ?_⟩
  by_cases c : b.fmod p = 0
  · simp only [c, decide_true, if_true]
    exact ⟨p, rfl, .inl ⟨(fmod0 (by omega)).mp c, rfl⟩⟩
  · have nb : ¬ p ∣ b := fun e => c ((fmod0 (by omega)).mpr e)
    simp only [c, decide_false, Bool.false_eq_true, if_false]
    refine use (sp_inverse h7 b p hp nb S) fun d S1 hd => ?_
    obtain ⟨t, rfl, t1, t2, t3, rfl⟩ := hd
    simp only [sd_cons, sd_nil, sd_zero, List.length_cons, List.length_nil, w_var, w_const, w_glob, w_prim, w_meth, w_cut, w_not, w_and, w_or, w_one, w_ite, w_chain, w_call, w_callk, wa_nil, wa_cons, wt_name, wt_tup, wts_nil, wts_cons, wt_sub, ws_nil, ws_cons, w_expr, w_asg, w_setc, w_par2, w_par3, w_aug, w_ret, w_retN, w_ifs, w_never, seqD_tup, tgsLen, p_add, p_sub, p_mul, p_div, p_mod, p_pow, p_neg, p_eq, p_ne, p_lt, p_le, p_gt, p_ge, p_abs, p_int, p_max, p_min, p_tup, p_lst, p_ixT, p_lenT, truth_bl, onV_some, onB_some, onN_some, onD_bl, onO_some, onL_some, on2_eq, on3_eq, onC_nil, onC_one, onAug_sub, onAug_add, onAug_mul, List.getElem?_cons_zero, List.getElem?_cons_succ, List.set_cons_zero, List.set_cons_succ, wipeD, List.map_cons, List.map_nil, true_and, and_true, decide_eq_true_eq, Bool.not_eq_true', decide_eq_false_iff_not, Nat.reduceAdd, Nat.zero_add, atI_0, atI_1, atI_2, p_eqT2, p_neT2, p_isT, p_isI, p_isB, reduceIte, reduceCtorEq, Int.cast_ofNat_Int, not_true_eq_false, not_false_eq_true, eq_self, if_false, if_true, Bool.true_eq_false, Bool.false_eq_true, Bool.not_true, Bool.not_false, Bool.and_true, Bool.true_and, Bool.and_false, Bool.false_and, p_inT2, p_neS, p_eqS]
    refine ⟨ha.mulOk (Bd.of (n := 8) (by omega) (by omega)) (by decide) (by decide), by omega, _, rfl, .inr ⟨nb, (fmod_bd (by omega)).1, (fmod_bd (by omega)).2, ?_⟩⟩
    have d1 := fmod_dvd (a * t) (p := p) (by omega)
    have := Int.dvd_sub (Int.dvd_mul_of_dvd_right (b := a) t3) (Int.dvd_mul_of_dvd_left (c := b) d1)
    have e : a * (t * b - 1) - (a * t - (a * t).fmod p) * b = (a * t).fmod p * b - a := by grind
    rw [e] at this
    exact this
structure HasRed (T : Nat → Option Fn) : Prop where
  h6 : T 6 = some f_common_divisor
  h7 : T 7 = some f_point_of
  h8 : T 8 = some f_is_integer
  h9 : T 9 = some f_is_point
  h19 : T 19 = some f_check_point
  h196 : T 196 = some f_is_prime
  h197 : T 197 = some f_inverse_of
  h198 : T 198 = some f_quotient
  h199 : T 199 = some f_reduced
theorem sp_reduced {T : Nat → Option Fn} {k : Nat} (H : HasRed T) (a b p : Int) (ha : Bd 200 a) (hb : Bd 200 b) (hab : Pt a b) (hp : Prm p) (S : Store) : wpF T (k + 5) 199 [.tup [.int a, .int b], .int p] S (fun d S1 => ∃ x, d = .int x ∧ Res p a b x ∧ Gr S S1) fun _ _ => False := by
  rw [wF H.h199]
  simp only [f_reduced, sd_cons, sd_nil, sd_zero, List.length_cons, List.length_nil, w_var, w_const, w_glob, w_prim, w_meth, w_cut, w_not, w_and, w_or, w_one, w_ite, w_chain, w_call, w_callk, wa_nil, wa_cons, wt_name, wt_tup, wts_nil, wts_cons, wt_sub, ws_nil, ws_cons, w_expr, w_asg, w_setc, w_par2, w_par3, w_aug, w_ret, w_retN, w_ifs, w_never, seqD_tup, tgsLen, p_add, p_sub, p_mul, p_div, p_mod, p_pow, p_neg, p_eq, p_ne, p_lt, p_le, p_gt, p_ge, p_abs, p_int, p_max, p_min, p_tup, p_lst, p_ixT, p_lenT, truth_bl, onV_some, onB_some, onN_some, onD_bl, onO_some, onL_some, on2_eq, on3_eq, onC_nil, onC_one, onAug_sub, onAug_add, onAug_mul, List.getElem?_cons_zero, List.getElem?_cons_succ, List.set_cons_zero, List.set_cons_succ, wipeD, List.map_cons, List.map_nil, true_and, and_true, decide_eq_true_eq, Bool.not_eq_true', decide_eq_false_iff_not, Nat.reduceAdd, Nat.zero_add, atI_0, atI_1, atI_2, p_eqT2, p_neT2, p_isT, p_isI, p_isB, reduceIte, reduceCtorEq, Int.cast_ofNat_Int, not_true_eq_false, not_false_eq_true, eq_self, if_false, if_true, Bool.true_eq_false, Bool.false_eq_true, Bool.not_true, Bool.not_false, Bool.and_true, Bool.true_and, Bool.and_false, Bool.false_and, p_inT2, p_neS, p_eqS]
  refine use (sp_check_point H.h6 H.h7 H.h8 H.h9 H.h19 a b S (ha.mono (by decide)) (hb.mono (by decide)) hab.isPt) fun d S1 hd => ?_
  obtain ⟨_, g1⟩ := hd
  refine use (sp_is_prime H.h196 p hp S1) fun d S2 hd => ?_
  obtain ⟨rfl, g2⟩ := hd
  simp only [sd_cons, sd_nil, sd_zero, List.length_cons, List.length_nil, w_var, w_const, w_glob, w_prim, w_meth, w_cut, w_not, w_and, w_or, w_one, w_ite, w_chain, w_call, w_callk, wa_nil, wa_cons, wt_name, wt_tup, wts_nil, wts_cons, wt_sub, ws_nil, ws_cons, w_expr, w_asg, w_setc, w_par2, w_par3, w_aug, w_ret, w_retN, w_ifs, w_never, seqD_tup, tgsLen, p_add, p_sub, p_mul, p_div, p_mod, p_pow, p_neg, p_eq, p_ne, p_lt, p_le, p_gt, p_ge, p_abs, p_int, p_max, p_min, p_tup, p_lst, p_ixT, p_lenT, truth_bl, onV_some, onB_some, onN_some, onD_bl, onO_some, onL_some, on2_eq, on3_eq, onC_nil, onC_one, onAug_sub, onAug_add, onAug_mul, List.getElem?_cons_zero, List.getElem?_cons_succ, List.set_cons_zero, List.set_cons_succ, wipeD, List.map_cons, List.map_nil, true_and, and_true, decide_eq_true_eq, Bool.not_eq_true', decide_eq_false_iff_not, Nat.reduceAdd, Nat.zero_add, atI_0, atI_1, atI_2, p_eqT2, p_neT2, p_isT, p_isI, p_isB, reduceIte, reduceCtorEq, Int.cast_ofNat_Int, not_true_eq_false, not_false_eq_true, eq_self, if_false, if_true, Bool.true_eq_false, Bool.false_eq_true, Bool.not_true, Bool.not_false, Bool.and_true, Bool.true_and, Bool.and_false, Bool.false_and, p_inT2, p_neS, p_eqS]
  refine use (sp_quotient H.h197 H.h198 a b p ha hp S2) fun d S3 hd => ?_
  obtain ⟨x, rfl, hx, rfl⟩ := hd
  exact ⟨x, rfl, hx, g1.trans g2⟩
theorem sp_rest {T : Nat → Option Fn} {k : Nat} (h : T 202 = some f_law_rest) (a b p : Int) (ha : Bd 200 a) (hb : Bd 200 b) (hp : Prm p) (S : Store) : wpF T (k + 1) 202 [.int p, .tup [.int a, .int b]] S (fun d S1 => ∃ x, d = .int x ∧ Res p a b x ∧ Gr S S1) fun _ _ => False := by
  have ⟨p1, p2, p3⟩ := hp
  rw [wF h]
  simp only [f_law_rest, sd_cons, sd_nil, sd_zero, List.length_cons, List.length_nil, w_var, w_const, w_glob, w_prim, w_meth, w_cut, w_not, w_and, w_or, w_one, w_ite, w_chain, w_call, w_callk, wa_nil, wa_cons, wt_name, wt_tup, wts_nil, wts_cons, wt_sub, ws_nil, ws_cons, w_expr, w_asg, w_setc, w_par2, w_par3, w_aug, w_ret, w_retN, w_ifs, w_never, seqD_tup, tgsLen, p_add, p_sub, p_mul, p_div, p_mod, p_pow, p_neg, p_eq, p_ne, p_lt, p_le, p_gt, p_ge, p_abs, p_int, p_max, p_min, p_tup, p_lst, p_ixT, p_lenT, truth_bl, onV_some, onB_some, onN_some, onD_bl, onO_some, onL_some, on2_eq, on3_eq, onC_nil, onC_one, onAug_sub, onAug_add, onAug_mul, List.getElem?_cons_zero, List.getElem?_cons_succ, List.set_cons_zero, List.set_cons_succ, wipeD, List.map_cons, List.map_nil, true_and, and_true, decide_eq_true_eq, Bool.not_eq_true', decide_eq_false_iff_not, Nat.reduceAdd, Nat.zero_add, atI_0, atI_1, atI_2, p_eqT2, p_neT2, p_isT, p_isI, p_isB, reduceIte, reduceCtorEq, Int.cast_ofNat_Int, not_true_eq_false, not_false_eq_true, eq_self, if_false, if_true, Bool.true_eq_false, Bool.false_eq_true, Bool.not_true, Bool.not_false, Bool.and_true, Bool.true_and, Bool.and_false, Bool.false_and, p_inT2, p_neS, p_eqS]
  refine ⟨by omega, ?_⟩
  by_cases c : b.fmod p = 0
  · simp only [c, decide_true, if_true]
    exact ⟨p, rfl, .inl ⟨(fmod0 (by omega)).mp c, rfl⟩, Gr.refl _⟩
  · have nb : ¬ p ∣ b := fun e => c ((fmod0 (by omega)).mpr e)
    simp only [c, decide_false, Bool.false_eq_true, if_false]
    refine wp_comp (wpF_mono _ _) ?_
    simp only [sd_cons, sd_nil, sd_zero, List.length_cons, List.length_nil, w_var, w_const, w_glob, w_prim, w_meth, w_cut, w_not, w_and, w_or, w_one, w_ite, w_chain, w_call, w_callk, wa_nil, wa_cons, wt_name, wt_tup, wts_nil, wts_cons, wt_sub, ws_nil, ws_cons, w_expr, w_asg, w_setc, w_par2, w_par3, w_aug, w_ret, w_retN, w_ifs, w_never, seqD_tup, tgsLen, p_add, p_sub, p_mul, p_div, p_mod, p_pow, p_neg, p_eq, p_ne, p_lt, p_le, p_gt, p_ge, p_abs, p_int, p_max, p_min, p_tup, p_lst, p_ixT, p_lenT, truth_bl, onV_some, onB_some, onN_some, onD_bl, onO_some, onL_some, on2_eq, on3_eq, onC_nil, onC_one, onAug_sub, onAug_add, onAug_mul, List.getElem?_cons_zero, List.getElem?_cons_succ, List.set_cons_zero, List.set_cons_succ, wipeD, List.map_cons, List.map_nil, true_and, and_true, decide_eq_true_eq, Bool.not_eq_true', decide_eq_false_iff_not, Nat.reduceAdd, Nat.zero_add, atI_0, atI_1, atI_2, p_eqT2, p_neT2, p_isT, p_isI, p_isB, reduceIte, reduceCtorEq, Int.cast_ofNat_Int, not_true_eq_false, not_false_eq_true, eq_self, if_false, if_true, Bool.true_eq_false, Bool.false_eq_true, Bool.not_true, Bool.not_false, Bool.and_true, Bool.true_and, Bool.and_false, Bool.false_and, p_inT2, p_neS, p_eqS, iterR]
    refine ⟨_, _, rfl, by omega, ok_nil, (by rw [rangeL_length]; have : (200 : Nat) ≤ sizeLine := by decide
                                             omega), fun d => match d with
      | .int n => if decide ((n * b - a).fmod p = 0) then some d else none
      | _ => none, fun i d S2 hd hg => ?_, fun S2 hg h2 => ?_⟩
    · rw [rangeL_rg] at hd
      obtain ⟨n, hn, rfl⟩ := get_int hd
      have := mem_rg.mp hn
      simp only [sd_cons, sd_nil, sd_zero, List.length_cons, List.length_nil, w_var, w_const, w_glob, w_prim, w_meth, w_cut, w_not, w_and, w_or, w_one, w_ite, w_chain, w_call, w_callk, wa_nil, wa_cons, wt_name, wt_tup, wts_nil, wts_cons, wt_sub, ws_nil, ws_cons, w_expr, w_asg, w_setc, w_par2, w_par3, w_aug, w_ret, w_retN, w_ifs, w_never, seqD_tup, tgsLen, p_add, p_sub, p_mul, p_div, p_mod, p_pow, p_neg, p_eq, p_ne, p_lt, p_le, p_gt, p_ge, p_abs, p_int, p_max, p_min, p_tup, p_lst, p_ixT, p_lenT, truth_bl, onV_some, onB_some, onN_some, onD_bl, onO_some, onL_some, on2_eq, on3_eq, onC_nil, onC_one, onAug_sub, onAug_add, onAug_mul, List.getElem?_cons_zero, List.getElem?_cons_succ, List.set_cons_zero, List.set_cons_succ, wipeD, List.map_cons, List.map_nil, true_and, and_true, decide_eq_true_eq, Bool.not_eq_true', decide_eq_false_iff_not, Nat.reduceAdd, Nat.zero_add, atI_0, atI_1, atI_2, p_eqT2, p_neT2, p_isT, p_isI, p_isB, reduceIte, reduceCtorEq, Int.cast_ofNat_Int, not_true_eq_false, not_false_eq_true, eq_self, if_false, if_true, Bool.true_eq_false, Bool.false_eq_true, Bool.not_true, Bool.not_false, Bool.and_true, Bool.true_and, Bool.and_false, Bool.false_and, p_inT2, p_neS, p_eqS]
      refine ⟨(Bd.of (n := 8) (by omega) (by omega)).mulOk hb (by decide) (by decide), by omega, ?_⟩
      by_cases c1 : (n * b - a).fmod p = 0 <;> simp [c1, Gr.refl]
    · rw [rangeL_rg, filter_some (fun n => decide ((n * b - a).fmod p = 0)) _ D.int (fun a => rfl)] at h2
      obtain ⟨t, ht⟩ := hp.inv nb
      have mem : (a * t).fmod p ∈ (rg 0 p.toNat).filter (fun n => decide ((n * b - a).fmod p = 0)) := by
        have fb := fmod_bd (a := a * t) (b := p) (by omega)
        refine List.mem_filter.mpr ⟨mem_rg.mpr (by omega), ?_⟩
        rw [decide_eq_true_eq, fmod0 (by omega)]
        have d1 := fmod_dvd (a * t) (p := p) (by omega)
        have := Int.dvd_sub (Int.dvd_mul_of_dvd_right (b := a) ht) (Int.dvd_mul_of_dvd_left (c := b) d1)
        have e : a * (t * b - 1) - (a * t - (a * t).fmod p) * b = (a * t).fmod p * b - a := by grind
        rw [e] at this
        exact this
      obtain ⟨y, ys, hy⟩ : ∃ y ys, (rg 0 p.toNat).filter (fun n => decide ((n * b - a).fmod p = 0)) = y :: ys := by
        cases q : (rg 0 p.toNat).filter (fun n => decide ((n * b - a).fmod p = 0)) with
        | nil => rw [q] at mem; cases mem
        | cons y ys => exact ⟨y, ys, rfl⟩
      have hm : y ∈ (rg 0 p.toNat).filter (fun n => decide ((n * b - a).fmod p = 0)) := by rw [hy]; exact List.mem_cons_self
      obtain ⟨m1, m2⟩ := List.mem_filter.mp hm
      have m1 := mem_rg.mp m1
      rw [decide_eq_true_eq, fmod0 (by omega)] at m2
      rw [hy] at h2
      simp only [sd_cons, sd_nil, sd_zero, List.length_cons, List.length_nil, w_var, w_const, w_glob, w_prim, w_meth, w_cut, w_not, w_and, w_or, w_one, w_ite, w_chain, w_call, w_callk, wa_nil, wa_cons, wt_name, wt_tup, wts_nil, wts_cons, wt_sub, ws_nil, ws_cons, w_expr, w_asg, w_setc, w_par2, w_par3, w_aug, w_ret, w_retN, w_ifs, w_never, seqD_tup, tgsLen, p_add, p_sub, p_mul, p_div, p_mod, p_pow, p_neg, p_eq, p_ne, p_lt, p_le, p_gt, p_ge, p_abs, p_int, p_max, p_min, p_tup, p_lst, p_ixT, p_lenT, truth_bl, onV_some, onB_some, onN_some, onD_bl, onO_some, onL_some, on2_eq, on3_eq, onC_nil, onC_one, onAug_sub, onAug_add, onAug_mul, List.getElem?_cons_zero, List.getElem?_cons_succ, List.set_cons_zero, List.set_cons_succ, wipeD, List.map_cons, List.map_nil, true_and, and_true, decide_eq_true_eq, Bool.not_eq_true', decide_eq_false_iff_not, Nat.reduceAdd, Nat.zero_add, atI_0, atI_1, atI_2, p_eqT2, p_neT2, p_isT, p_isI, p_isB, reduceIte, reduceCtorEq, Int.cast_ofNat_Int, not_true_eq_false, not_false_eq_true, eq_self, if_false, if_true, Bool.true_eq_false, Bool.false_eq_true, Bool.not_true, Bool.not_false, Bool.and_true, Bool.true_and, Bool.and_false, Bool.false_and, p_inT2, p_neS, p_eqS, p_ixE (seqAt_lst h2)]
      exact ⟨y, rfl, .inr ⟨nb, by omega, by omega, m2⟩, hg⟩
/-! ### what is asked -/
theorem ptOf_res {p a b P Q x : Int} (hp : Prm p) (g : Int) (e1 : a = P * g) (e2 : b = Q * g) (nb : ¬ p ∣ b) (h0 : 0 ≤ x) (h1 : x < p) (hx : p ∣ x * b - a) : Res p P Q x := by
  have ng : ¬ p ∣ g := fun z => nb (by rw [e2]; exact Int.dvd_mul_of_dvd_right z)
  have nQ : ¬ p ∣ Q := fun z => nb (by rw [e2]; exact Int.dvd_mul_of_dvd_left z)
  refine .inr ⟨nQ, h0, h1, ?_⟩
  refine cop_dvd (hp.cop ng) ?_
  have e : x * b - a = g * (x * Q - P) := by rw [e1, e2]; grind
  rw [e] at hx
  exact hx
theorem sp_right {T : Nat → Option Fn} {k : Nat} (H : HasRed T) (h1 : T 1 = some f_law_draw) (h10 : T 10 = some f_law_low) (h170 : T 170 = some f_law_spot) (h200 : T 200 = some f_law_is_prime) (h201 : T 201 = some f_law_primes) (h202 : T 202 = some f_law_rest) (h203 : T 203 = some f_law_right_40)
    (r n : Nat) (S : Store) (hp : Pool S r n) (hn : n ≤ 2 ^ 20) : wpF T (k + 6) 203 [.ref r] S (fun d S1 => d = .bl true ∧ GrX r S S1 ∧ Pool S1 r (n + 20)) fun _ _ => False := by
  rw [wF h203]
  refine ⟨rfl, ?_⟩
  simp only [f_law_right_40, sd_cons, sd_nil, sd_zero, List.length_cons, List.length_nil, Nat.reduceAdd, Nat.zero_add]
  refine cutS (wpF_mono _ _) (fun σ S1 => ∃ l, σ = [some (.ref r), some (.ref l), none, none, none, none, none, none, none, none, none] ∧ Gr S S1 ∧ S1[l]? = some (.lst (primesL.map D.int))) ?_ fun σ S1 h => ?_
  · simp only [sd_cons, sd_nil, sd_zero, List.length_cons, List.length_nil, w_var, w_const, w_glob, w_prim, w_meth, w_cut, w_not, w_and, w_or, w_one, w_ite, w_chain, w_call, w_callk, wa_nil, wa_cons, wt_name, wt_tup, wts_nil, wts_cons, wt_sub, ws_nil, ws_cons, w_expr, w_asg, w_setc, w_par2, w_par3, w_aug, w_ret, w_retN, w_ifs, w_never, seqD_tup, tgsLen, p_add, p_sub, p_mul, p_div, p_mod, p_pow, p_neg, p_eq, p_ne, p_lt, p_le, p_gt, p_ge, p_abs, p_int, p_max, p_min, p_tup, p_lst, p_ixT, p_lenT, truth_bl, onV_some, onB_some, onN_some, onD_bl, onO_some, onL_some, on2_eq, on3_eq, onC_nil, onC_one, onAug_sub, onAug_add, onAug_mul, List.getElem?_cons_zero, List.getElem?_cons_succ, List.set_cons_zero, List.set_cons_succ, wipeD, List.map_cons, List.map_nil, true_and, and_true, decide_eq_true_eq, Bool.not_eq_true', decide_eq_false_iff_not, Nat.reduceAdd, Nat.zero_add, atI_0, atI_1, atI_2, p_eqT2, p_neT2, p_isT, p_isI, p_isB, reduceIte, reduceCtorEq, Int.cast_ofNat_Int, not_true_eq_false, not_false_eq_true, eq_self, if_false, if_true, Bool.true_eq_false, Bool.false_eq_true, Bool.not_true, Bool.not_false, Bool.and_true, Bool.true_and, Bool.and_false, Bool.false_and, p_inT2, p_neS, p_eqS]
    refine use (sp_primes h200 h201 S) fun d S1 hd => ?_
    obtain ⟨l, rfl, g1, e1⟩ := hd
    exact ⟨l, rfl, g1, e1⟩
  obtain ⟨l, rfl, g1, e1⟩ := h
  have p1 := hp.gr g1
  have lr : l ≠ r := by
    rintro rfl
    obtain ⟨a, b, c, h, _⟩ := p1
    rw [e1] at h
    have := congrArg List.length (O.lst.inj (Option.some.inj h))
    rw [List.length_map, primes_len] at this
    cases this
  refine cutS (wpF_mono _ _) (fun σ S2 => ∃ m a b u v : Int, σ = [some (.ref r), some (.ref l), some (.int m), some (.tup [.int a, .int b]), some (.tup [.int u, .int v]), none, none, none, none, none, none] ∧ Prm m ∧ Pt a b ∧ Pt u v ∧ Bd 40 a ∧ Bd 40 b ∧ Bd 40 u ∧ Bd 40 v ∧ GrX r S S2 ∧ Pool S2 r (n + 11)) ?_ fun σ S2 h => ?_
  · simp only [sd_cons, sd_nil, sd_zero, List.length_cons, List.length_nil, w_var, w_const, w_glob, w_prim, w_meth, w_cut, w_not, w_and, w_or, w_one, w_ite, w_chain, w_call, w_callk, wa_nil, wa_cons, wt_name, wt_tup, wts_nil, wts_cons, wt_sub, ws_nil, ws_cons, w_expr, w_asg, w_setc, w_par2, w_par3, w_aug, w_ret, w_retN, w_ifs, w_never, seqD_tup, tgsLen, p_add, p_sub, p_mul, p_div, p_mod, p_pow, p_neg, p_eq, p_ne, p_lt, p_le, p_gt, p_ge, p_abs, p_int, p_max, p_min, p_tup, p_lst, p_ixT, p_lenT, truth_bl, onV_some, onB_some, onN_some, onD_bl, onO_some, onL_some, on2_eq, on3_eq, onC_nil, onC_one, onAug_sub, onAug_add, onAug_mul, List.getElem?_cons_zero, List.getElem?_cons_succ, List.set_cons_zero, List.set_cons_succ, wipeD, List.map_cons, List.map_nil, true_and, and_true, decide_eq_true_eq, Bool.not_eq_true', decide_eq_false_iff_not, Nat.reduceAdd, Nat.zero_add, atI_0, atI_1, atI_2, p_eqT2, p_neT2, p_isT, p_isI, p_isB, reduceIte, reduceCtorEq, Int.cast_ofNat_Int, not_true_eq_false, not_false_eq_true, eq_self, if_false, if_true, Bool.true_eq_false, Bool.false_eq_true, Bool.not_true, Bool.not_false, Bool.and_true, Bool.true_and, Bool.and_false, Bool.false_and, p_inT2, p_neS, p_eqS, p_lenE (seqAt_lst e1), List.length_map, primes_len]
    refine use (sp_draw h1 r n (44 : Nat) S1 p1 (by omega) (by decide) (by decide)) fun d S2 hd => ?_
    obtain ⟨v1, rfl, a1, b1, g2, p2⟩ := hd
    obtain ⟨j, rfl⟩ : ∃ j : Nat, v1 = j := ⟨v1.toNat, by omega⟩
    have e2 := g2 l _ lr e1
    have jl : j < primesL.length := by rw [primes_len]; omega
    have hm : (primesL.map D.int)[j]? = some (.int primesL[j]) := by rw [List.getElem?_map, List.getElem?_eq_getElem jl]; rfl
    have pm := primes_ok (List.getElem_mem jl)
    generalize primesL[j] = m at hm pm
    simp only [sd_cons, sd_nil, sd_zero, List.length_cons, List.length_nil, w_var, w_const, w_glob, w_prim, w_meth, w_cut, w_not, w_and, w_or, w_one, w_ite, w_chain, w_call, w_callk, wa_nil, wa_cons, wt_name, wt_tup, wts_nil, wts_cons, wt_sub, ws_nil, ws_cons, w_expr, w_asg, w_setc, w_par2, w_par3, w_aug, w_ret, w_retN, w_ifs, w_never, seqD_tup, tgsLen, p_add, p_sub, p_mul, p_div, p_mod, p_pow, p_neg, p_eq, p_ne, p_lt, p_le, p_gt, p_ge, p_abs, p_int, p_max, p_min, p_tup, p_lst, p_ixT, p_lenT, truth_bl, onV_some, onB_some, onN_some, onD_bl, onO_some, onL_some, on2_eq, on3_eq, onC_nil, onC_one, onAug_sub, onAug_add, onAug_mul, List.getElem?_cons_zero, List.getElem?_cons_succ, List.set_cons_zero, List.set_cons_succ, wipeD, List.map_cons, List.map_nil, true_and, and_true, decide_eq_true_eq, Bool.not_eq_true', decide_eq_false_iff_not, Nat.reduceAdd, Nat.zero_add, atI_0, atI_1, atI_2, p_eqT2, p_neT2, p_isT, p_isI, p_isB, reduceIte, reduceCtorEq, Int.cast_ofNat_Int, not_true_eq_false, not_false_eq_true, eq_self, if_false, if_true, Bool.true_eq_false, Bool.false_eq_true, Bool.not_true, Bool.not_false, Bool.and_true, Bool.true_and, Bool.and_false, Bool.false_and, p_inT2, p_neS, p_eqS, p_ixE (seqAt_lst e2), atI_nat hm]
    refine use (sp_spot h1 h10 h170 r _ S2 p2 (by omega)) fun d S3 hd => ?_
    obtain ⟨⟨a, b, rfl, ha, hb, hc⟩, g3, p3⟩ := hd
    refine use (sp_spot h1 h10 h170 r _ S3 p3 (by omega)) fun d S4 hd => ?_
    obtain ⟨⟨u, v, rfl, hu, hv, hw⟩, g4, p4⟩ := hd
    exact ⟨m, a, b, u, v, rfl, pm, ha, hu, hb, hc, hv, hw, (((g1.x r).trans g2).trans g3).trans g4, p4.mono (by omega)⟩
  clear g1 e1 p1 hp lr
  obtain ⟨m, a, b, u, v, rfl, pm, pt1, pt2, ba, bb, bu, bv, g1, p1⟩ := h
  have ⟨m1, m2, m3⟩ := pm
  have w : ∀ {i : Int}, Bd 40 i → Bd 200 i := fun h => h.mono (by decide)
  have bm : Bd 8 m := Bd.of (by omega) (by omega)
  refine cutS (wpF_mono _ _) (fun σ S3 => ∃ x y : Int, σ = [some (.ref r), some (.ref l), some (.int m), some (.tup [.int a, .int b]), some (.tup [.int u, .int v]), some (.int x), some (.int y), none, none, none, none] ∧ Res m a b x ∧ Res m u v y ∧ Gr S2 S3) ?_ fun σ S3 h => ?_
  · simp only [sd_cons, sd_nil, sd_zero, List.length_cons, List.length_nil, w_var, w_const, w_glob, w_prim, w_meth, w_cut, w_not, w_and, w_or, w_one, w_ite, w_chain, w_call, w_callk, wa_nil, wa_cons, wt_name, wt_tup, wts_nil, wts_cons, wt_sub, ws_nil, ws_cons, w_expr, w_asg, w_setc, w_par2, w_par3, w_aug, w_ret, w_retN, w_ifs, w_never, seqD_tup, tgsLen, p_add, p_sub, p_mul, p_div, p_mod, p_pow, p_neg, p_eq, p_ne, p_lt, p_le, p_gt, p_ge, p_abs, p_int, p_max, p_min, p_tup, p_lst, p_ixT, p_lenT, truth_bl, onV_some, onB_some, onN_some, onD_bl, onO_some, onL_some, on2_eq, on3_eq, onC_nil, onC_one, onAug_sub, onAug_add, onAug_mul, List.getElem?_cons_zero, List.getElem?_cons_succ, List.set_cons_zero, List.set_cons_succ, wipeD, List.map_cons, List.map_nil, true_and, and_true, decide_eq_true_eq, Bool.not_eq_true', decide_eq_false_iff_not, Nat.reduceAdd, Nat.zero_add, atI_0, atI_1, atI_2, p_eqT2, p_neT2, p_isT, p_isI, p_isB, reduceIte, reduceCtorEq, Int.cast_ofNat_Int, not_true_eq_false, not_false_eq_true, eq_self, if_false, if_true, Bool.true_eq_false, Bool.false_eq_true, Bool.not_true, Bool.not_false, Bool.and_true, Bool.true_and, Bool.and_false, Bool.false_and, p_inT2, p_neS, p_eqS]
    refine use (sp_rest h202 a b m (w ba) (w bb) pm S2) fun d S3 hd => ?_
    obtain ⟨x, rfl, hx, g2⟩ := hd
    refine use (sp_rest h202 u v m (w bu) (w bv) pm S3) fun d S4 hd => ?_
    obtain ⟨y, rfl, hy, g3⟩ := hd
    exact ⟨x, y, rfl, hx, hy, g2.trans g3⟩
  obtain ⟨x, y, rfl, hx, hy, g2⟩ := h
  have bx := hx.bd pm
  have by' := hy.bd pm
  have bx8 : Bd 8 x := Bd.of (by omega) (by omega)
  have by8 : Bd 8 y := Bd.of (by omega) (by omega)
  refine cutS (wpF_mono _ _) (fun σ S4 => σ = [some (.ref r), some (.ref l), some (.int m), some (.tup [.int a, .int b]), some (.tup [.int u, .int v]), some (.int x), some (.int y), none, none, none, none] ∧ Gr S2 S4) ?_ fun σ S4 h => ?_
  · simp only [sd_cons, sd_nil, sd_zero, List.length_cons, List.length_nil, w_var, w_const, w_glob, w_prim, w_meth, w_cut, w_not, w_and, w_or, w_one, w_ite, w_chain, w_call, w_callk, wa_nil, wa_cons, wt_name, wt_tup, wts_nil, wts_cons, wt_sub, ws_nil, ws_cons, w_expr, w_asg, w_setc, w_par2, w_par3, w_aug, w_ret, w_retN, w_ifs, w_never, seqD_tup, tgsLen, p_add, p_sub, p_mul, p_div, p_mod, p_pow, p_neg, p_eq, p_ne, p_lt, p_le, p_gt, p_ge, p_abs, p_int, p_max, p_min, p_tup, p_lst, p_ixT, p_lenT, truth_bl, onV_some, onB_some, onN_some, onD_bl, onO_some, onL_some, on2_eq, on3_eq, onC_nil, onC_one, onAug_sub, onAug_add, onAug_mul, List.getElem?_cons_zero, List.getElem?_cons_succ, List.set_cons_zero, List.set_cons_succ, wipeD, List.map_cons, List.map_nil, true_and, and_true, decide_eq_true_eq, Bool.not_eq_true', decide_eq_false_iff_not, Nat.reduceAdd, Nat.zero_add, atI_0, atI_1, atI_2, p_eqT2, p_neT2, p_isT, p_isI, p_isB, reduceIte, reduceCtorEq, Int.cast_ofNat_Int, not_true_eq_false, not_false_eq_true, eq_self, if_false, if_true, Bool.true_eq_false, Bool.false_eq_true, Bool.not_true, Bool.not_false, Bool.and_true, Bool.true_and, Bool.and_false, Bool.false_and, p_inT2, p_neS, p_eqS, List.nil_append, pick]
    refine use (sp_reduced H a b m (w ba) (w bb) pt1 pm S3) fun d S4 hd => ?_
    obtain ⟨x1, rfl, hx1, g3⟩ := hd
    obtain rfl := hx1.one pm hx
    refine use (sp_reduced H a b m (w ba) (w bb) pt1 pm S4) fun d S5 hd => ?_
    obtain ⟨x2, rfl, hx2, g4⟩ := hd
    obtain rfl := hx2.one pm hx
    refine ⟨by decide, ?_⟩
    have small : SmallD 100 (.list ([x2, x2].map .int)) := by
      simp only [SmallD]
      exact small_ints fun n hn => by
        have : n = x2 := by simpa using hn
        rw [this]
        exact bx8.mono (by decide)
    have rep := repr_ok small (by decide) (by decide) (by simp only [PyData.depth, depth_ints]; decide) (by simp only [nodes, nodes_ints, List.length_cons, List.length_nil]; decide)
    have gp := Gr.push S5 (O.lst [.int x2, .int x2])
    refine p_repr (den_ints (ns := [x2, x2]) (seqAt_lst (by simp)) 7) rep ?_
    refine ⟨by decide, ?_⟩
    have gq := Gr.push (S5 ++ [O.lst [.int x2, .int x2]]) (O.lst [.int x2, .int x2])
    refine p_repr (den_ints (ns := [x2, x2]) (seqAt_lst (by simp)) 7) rep ?_
    simp only [sd_cons, sd_nil, sd_zero, List.length_cons, List.length_nil, w_var, w_const, w_glob, w_prim, w_meth, w_cut, w_not, w_and, w_or, w_one, w_ite, w_chain, w_call, w_callk, wa_nil, wa_cons, wt_name, wt_tup, wts_nil, wts_cons, wt_sub, ws_nil, ws_cons, w_expr, w_asg, w_setc, w_par2, w_par3, w_aug, w_ret, w_retN, w_ifs, w_never, seqD_tup, tgsLen, p_add, p_sub, p_mul, p_div, p_mod, p_pow, p_neg, p_eq, p_ne, p_lt, p_le, p_gt, p_ge, p_abs, p_int, p_max, p_min, p_tup, p_lst, p_ixT, p_lenT, truth_bl, onV_some, onB_some, onN_some, onD_bl, onO_some, onL_some, on2_eq, on3_eq, onC_nil, onC_one, onAug_sub, onAug_add, onAug_mul, List.getElem?_cons_zero, List.getElem?_cons_succ, List.set_cons_zero, List.set_cons_succ, wipeD, List.map_cons, List.map_nil, true_and, and_true, decide_eq_true_eq, Bool.not_eq_true', decide_eq_false_iff_not, Nat.reduceAdd, Nat.zero_add, atI_0, atI_1, atI_2, p_eqT2, p_neT2, p_isT, p_isI, p_isB, reduceIte, reduceCtorEq, Int.cast_ofNat_Int, not_true_eq_false, not_false_eq_true, eq_self, if_false, if_true, Bool.true_eq_false, Bool.false_eq_true, Bool.not_true, Bool.not_false, Bool.and_true, Bool.true_and, Bool.and_false, Bool.false_and, p_inT2, p_neS, p_eqS, decide_true]
    exact (((g2.trans g3).trans g4).trans gp).trans gq
  clear g2
  obtain ⟨rfl, g2⟩ := h
  refine cutS (wpF_mono _ _) (fun σ S5 => ∃ b1 : Bool, σ = [some (.ref r), some (.ref l), some (.int m), some (.tup [.int a, .int b]), some (.tup [.int u, .int v]), some (.int x), some (.int y), some (.bl b1), none, none, none] ∧ Gr S2 S5) ?_ fun σ S5 h => ?_
  · simp only [sd_cons, sd_nil, sd_zero, List.length_cons, List.length_nil, w_var, w_const, w_glob, w_prim, w_meth, w_cut, w_not, w_and, w_or, w_one, w_ite, w_chain, w_call, w_callk, wa_nil, wa_cons, wt_name, wt_tup, wts_nil, wts_cons, wt_sub, ws_nil, ws_cons, w_expr, w_asg, w_setc, w_par2, w_par3, w_aug, w_ret, w_retN, w_ifs, w_never, seqD_tup, tgsLen, p_add, p_sub, p_mul, p_div, p_mod, p_pow, p_neg, p_eq, p_ne, p_lt, p_le, p_gt, p_ge, p_abs, p_int, p_max, p_min, p_tup, p_lst, p_ixT, p_lenT, truth_bl, onV_some, onB_some, onN_some, onD_bl, onO_some, onL_some, on2_eq, on3_eq, onC_nil, onC_one, onAug_sub, onAug_add, onAug_mul, List.getElem?_cons_zero, List.getElem?_cons_succ, List.set_cons_zero, List.set_cons_succ, wipeD, List.map_cons, List.map_nil, true_and, and_true, decide_eq_true_eq, Bool.not_eq_true', decide_eq_false_iff_not, Nat.reduceAdd, Nat.zero_add, atI_0, atI_1, atI_2, p_eqT2, p_neT2, p_isT, p_isI, p_isB, reduceIte, reduceCtorEq, Int.cast_ofNat_Int, not_true_eq_false, not_false_eq_true, eq_self, if_false, if_true, Bool.true_eq_false, Bool.false_eq_true, Bool.not_true, Bool.not_false, Bool.and_true, Bool.true_and, Bool.and_false, Bool.false_and, p_inT2, p_neS, p_eqS, p_max4]
    exact ⟨_, rfl, g2⟩
  clear g2
  obtain ⟨b1, rfl, g2⟩ := h
  refine cutS (wpF_mono _ _) (fun σ S6 => ∃ z8, σ = [some (.ref r), some (.ref l), some (.int m), some (.tup [.int a, .int b]), some (.tup [.int u, .int v]), some (.int x), some (.int y), some (.bl b1), z8, none, none] ∧ Gr S2 S6) ?_ fun σ S6 h => ?_
  · cases b1 with
    | false =>
      simp only [sd_cons, sd_nil, sd_zero, List.length_cons, List.length_nil, w_var, w_const, w_glob, w_prim, w_meth, w_cut, w_not, w_and, w_or, w_one, w_ite, w_chain, w_call, w_callk, wa_nil, wa_cons, wt_name, wt_tup, wts_nil, wts_cons, wt_sub, ws_nil, ws_cons, w_expr, w_asg, w_setc, w_par2, w_par3, w_aug, w_ret, w_retN, w_ifs, w_never, seqD_tup, tgsLen, p_add, p_sub, p_mul, p_div, p_mod, p_pow, p_neg, p_eq, p_ne, p_lt, p_le, p_gt, p_ge, p_abs, p_int, p_max, p_min, p_tup, p_lst, p_ixT, p_lenT, truth_bl, onV_some, onB_some, onN_some, onD_bl, onO_some, onL_some, on2_eq, on3_eq, onC_nil, onC_one, onAug_sub, onAug_add, onAug_mul, List.getElem?_cons_zero, List.getElem?_cons_succ, List.set_cons_zero, List.set_cons_succ, wipeD, List.map_cons, List.map_nil, true_and, and_true, decide_eq_true_eq, Bool.not_eq_true', decide_eq_false_iff_not, Nat.reduceAdd, Nat.zero_add, atI_0, atI_1, atI_2, p_eqT2, p_neT2, p_isT, p_isI, p_isB, reduceIte, reduceCtorEq, Int.cast_ofNat_Int, not_true_eq_false, not_false_eq_true, eq_self, if_false, if_true, Bool.true_eq_false, Bool.false_eq_true, Bool.not_true, Bool.not_false, Bool.and_true, Bool.true_and, Bool.and_false, Bool.false_and, p_inT2, p_neS, p_eqS]
      exact ⟨none, rfl, g2⟩
    | true =>
      simp only [sd_cons, sd_nil, sd_zero, List.length_cons, List.length_nil, w_var, w_const, w_glob, w_prim, w_meth, w_cut, w_not, w_and, w_or, w_one, w_ite, w_chain, w_call, w_callk, wa_nil, wa_cons, wt_name, wt_tup, wts_nil, wts_cons, wt_sub, ws_nil, ws_cons, w_expr, w_asg, w_setc, w_par2, w_par3, w_aug, w_ret, w_retN, w_ifs, w_never, seqD_tup, tgsLen, p_add, p_sub, p_mul, p_div, p_mod, p_pow, p_neg, p_eq, p_ne, p_lt, p_le, p_gt, p_ge, p_abs, p_int, p_max, p_min, p_tup, p_lst, p_ixT, p_lenT, truth_bl, onV_some, onB_some, onN_some, onD_bl, onO_some, onL_some, on2_eq, on3_eq, onC_nil, onC_one, onAug_sub, onAug_add, onAug_mul, List.getElem?_cons_zero, List.getElem?_cons_succ, List.set_cons_zero, List.set_cons_succ, wipeD, List.map_cons, List.map_nil, true_and, and_true, decide_eq_true_eq, Bool.not_eq_true', decide_eq_false_iff_not, Nat.reduceAdd, Nat.zero_add, atI_0, atI_1, atI_2, p_eqT2, p_neT2, p_isT, p_isI, p_isB, reduceIte, reduceCtorEq, Int.cast_ofNat_Int, not_true_eq_false, not_false_eq_true, eq_self, if_false, if_true, Bool.true_eq_false, Bool.false_eq_true, Bool.not_true, Bool.not_false, Bool.and_true, Bool.true_and, Bool.and_false, Bool.false_and, p_inT2, p_neS, p_eqS, p_notin2]
      refine ⟨by decide, ?_⟩
      by_cases c : x = m ∨ y = m
      · have e : (decide (x = m) || decide (y = m)) = true := by
          simp only [Bool.or_eq_true, decide_eq_true_eq]
          exact c
        rw [if_neg (by rw [e]; decide)]
        exact ⟨none, rfl, g2⟩
      · have e : (decide (x = m) || decide (y = m)) = false := by
          simp only [Bool.or_eq_false_iff, decide_eq_false_iff_not]
          omega
        rw [if_pos e]
        have nb : ¬ m ∣ b := fun z => c (.inl (by
          rcases hx with ⟨_, h⟩ | ⟨h, _⟩
          · exact h
          · exact absurd z h))
        have nv : ¬ m ∣ v := fun z => c (.inr (by
          rcases hy with ⟨_, h⟩ | ⟨h, _⟩
          · exact h
          · exact absurd z h))
        obtain ⟨_, x0, x1, x2⟩ := hx.resolve_left fun h => nb h.1
        obtain ⟨_, y0, y1, y2⟩ := hy.resolve_left fun h => nv h.1
        have nbv : ¬ m ∣ b * v := fun z => (pm.mul z).elim nb nv
        have b0 : b * v ≠ 0 := fun z => nbv (by rw [z]; exact Int.dvd_zero _)
        have bau := ba.mul bu
        have bbv := bb.mul bv
        refine ⟨ba.mulOk bu (by decide) (by decide), bb.mulOk bv (by decide) (by decide), ?_⟩
        refine use (sp_law_low h10 (a * u) (b * v) S5 (bau.mono (by decide)) (bbv.mono (by decide))) fun d S6 hd => ?_
        obtain ⟨rfl, rfl⟩ := hd
        obtain ⟨g, P, Q, g0, eP, eQ, Q0, cop, ePQ⟩ := ptOf_spec (a := a * u) b0
        have bd := ptOf_bd (by decide) bau bbv
        rw [ePQ] at bd
        simp only [ePQ, ptD, sd_cons, sd_nil, sd_zero, List.length_cons, List.length_nil, w_var, w_const, w_glob, w_prim, w_meth, w_cut, w_not, w_and, w_or, w_one, w_ite, w_chain, w_call, w_callk, wa_nil, wa_cons, wt_name, wt_tup, wts_nil, wts_cons, wt_sub, ws_nil, ws_cons, w_expr, w_asg, w_setc, w_par2, w_par3, w_aug, w_ret, w_retN, w_ifs, w_never, seqD_tup, tgsLen, p_add, p_sub, p_mul, p_div, p_mod, p_pow, p_neg, p_eq, p_ne, p_lt, p_le, p_gt, p_ge, p_abs, p_int, p_max, p_min, p_tup, p_lst, p_ixT, p_lenT, truth_bl, onV_some, onB_some, onN_some, onD_bl, onO_some, onL_some, on2_eq, on3_eq, onC_nil, onC_one, onAug_sub, onAug_add, onAug_mul, List.getElem?_cons_zero, List.getElem?_cons_succ, List.set_cons_zero, List.set_cons_succ, wipeD, List.map_cons, List.map_nil, true_and, and_true, decide_eq_true_eq, Bool.not_eq_true', decide_eq_false_iff_not, Nat.reduceAdd, Nat.zero_add, atI_0, atI_1, atI_2, p_eqT2, p_neT2, p_isT, p_isI, p_isB, reduceIte, reduceCtorEq, Int.cast_ofNat_Int, not_true_eq_false, not_false_eq_true, eq_self, if_false, if_true, Bool.true_eq_false, Bool.false_eq_true, Bool.not_true, Bool.not_false, Bool.and_true, Bool.true_and, Bool.and_false, Bool.false_and, p_inT2, p_neS, p_eqS]
        have ptPQ : Pt P Q := .inl ⟨Q0, cop⟩
        refine use (sp_reduced H P Q m (bd.1.mono (by decide)) (bd.2.mono (by decide)) ptPQ pm S6) fun d S7 hd => ?_
        obtain ⟨z, rfl, hz, g3⟩ := hd
        simp only [sd_cons, sd_nil, sd_zero, List.length_cons, List.length_nil, w_var, w_const, w_glob, w_prim, w_meth, w_cut, w_not, w_and, w_or, w_one, w_ite, w_chain, w_call, w_callk, wa_nil, wa_cons, wt_name, wt_tup, wts_nil, wts_cons, wt_sub, ws_nil, ws_cons, w_expr, w_asg, w_setc, w_par2, w_par3, w_aug, w_ret, w_retN, w_ifs, w_never, seqD_tup, tgsLen, p_add, p_sub, p_mul, p_div, p_mod, p_pow, p_neg, p_eq, p_ne, p_lt, p_le, p_gt, p_ge, p_abs, p_int, p_max, p_min, p_tup, p_lst, p_ixT, p_lenT, truth_bl, onV_some, onB_some, onN_some, onD_bl, onO_some, onL_some, on2_eq, on3_eq, onC_nil, onC_one, onAug_sub, onAug_add, onAug_mul, List.getElem?_cons_zero, List.getElem?_cons_succ, List.set_cons_zero, List.set_cons_succ, wipeD, List.map_cons, List.map_nil, true_and, and_true, decide_eq_true_eq, Bool.not_eq_true', decide_eq_false_iff_not, Nat.reduceAdd, Nat.zero_add, atI_0, atI_1, atI_2, p_eqT2, p_neT2, p_isT, p_isI, p_isB, reduceIte, reduceCtorEq, Int.cast_ofNat_Int, not_true_eq_false, not_false_eq_true, eq_self, if_false, if_true, Bool.true_eq_false, Bool.false_eq_true, Bool.not_true, Bool.not_false, Bool.and_true, Bool.true_and, Bool.and_false, Bool.false_and, p_inT2, p_neS, p_eqS]
        have fb := fmod_bd (a := x * y) (b := m) (by omega)
        have hxy : m ∣ (x * y).fmod m * (b * v) - a * u := by
          have d1 := fmod_dvd (x * y) (p := m) (by omega)
          have t1 := Int.dvd_mul_of_dvd_left (c := y * v) x2
          have t2 := Int.dvd_mul_of_dvd_left (c := a) y2
          have t3 := Int.dvd_mul_of_dvd_left (c := b * v) d1
          have := Int.dvd_sub (Int.dvd_add t1 t2) t3
          have e : (x * b - a) * (y * v) + (y * v - u) * a - (x * y - (x * y).fmod m) * (b * v) = (x * y).fmod m * (b * v) - a * u := by grind
          rw [e] at this
          exact this
        have := hz.one pm (ptOf_res pm g eP eQ nbv fb.1 fb.2 hxy)
        subst this
        refine ⟨bx8.mulOk by8 (by decide) (by decide), by omega, ?_⟩
        simp only [decide_true, Bool.not_true, Bool.false_eq_true, if_false]
        exact ⟨_, rfl, g2.trans g3⟩
  clear g2
  obtain ⟨z8, rfl, g2⟩ := h
  have p6 := p1.gr g2
  have g6 : GrX r S S6 := g1.trans (g2.x r)
  refine cutS (wpF_mono _ _) (fun σ S7 => ∃ aw : Int, σ = [some (.ref r), some (.ref l), some (.int m), some (.tup [.int a, .int b]), some (.tup [.int u, .int v]), some (.int x), some (.int y), some (.bl b1), z8, some (.int aw), none] ∧ m ∣ aw ∧ Bd 20 aw ∧ GrX r S S7 ∧ Pool S7 r (n + 12)) ?_ fun σ S7 h => ?_
  · simp only [sd_cons, sd_nil, sd_zero, List.length_cons, List.length_nil, w_var, w_const, w_glob, w_prim, w_meth, w_cut, w_not, w_and, w_or, w_one, w_ite, w_chain, w_call, w_callk, wa_nil, wa_cons, wt_name, wt_tup, wts_nil, wts_cons, wt_sub, ws_nil, ws_cons, w_expr, w_asg, w_setc, w_par2, w_par3, w_aug, w_ret, w_retN, w_ifs, w_never, seqD_tup, tgsLen, p_add, p_sub, p_mul, p_div, p_mod, p_pow, p_neg, p_eq, p_ne, p_lt, p_le, p_gt, p_ge, p_abs, p_int, p_max, p_min, p_tup, p_lst, p_ixT, p_lenT, truth_bl, onV_some, onB_some, onN_some, onD_bl, onO_some, onL_some, on2_eq, on3_eq, onC_nil, onC_one, onAug_sub, onAug_add, onAug_mul, List.getElem?_cons_zero, List.getElem?_cons_succ, List.set_cons_zero, List.set_cons_succ, wipeD, List.map_cons, List.map_nil, true_and, and_true, decide_eq_true_eq, Bool.not_eq_true', decide_eq_false_iff_not, Nat.reduceAdd, Nat.zero_add, atI_0, atI_1, atI_2, p_eqT2, p_neT2, p_isT, p_isI, p_isB, reduceIte, reduceCtorEq, Int.cast_ofNat_Int, not_true_eq_false, not_false_eq_true, eq_self, if_false, if_true, Bool.true_eq_false, Bool.false_eq_true, Bool.not_true, Bool.not_false, Bool.and_true, Bool.true_and, Bool.and_false, Bool.false_and, p_inT2, p_neS, p_eqS]
    refine use (sp_draw h1 r _ 99 S6 p6 (by omega) (by decide) (by decide)) fun d S7 hd => ?_
    obtain ⟨w1, rfl, a1, b1', g7, p7⟩ := hd
    simp only [sd_cons, sd_nil, sd_zero, List.length_cons, List.length_nil, w_var, w_const, w_glob, w_prim, w_meth, w_cut, w_not, w_and, w_or, w_one, w_ite, w_chain, w_call, w_callk, wa_nil, wa_cons, wt_name, wt_tup, wts_nil, wts_cons, wt_sub, ws_nil, ws_cons, w_expr, w_asg, w_setc, w_par2, w_par3, w_aug, w_ret, w_retN, w_ifs, w_never, seqD_tup, tgsLen, p_add, p_sub, p_mul, p_div, p_mod, p_pow, p_neg, p_eq, p_ne, p_lt, p_le, p_gt, p_ge, p_abs, p_int, p_max, p_min, p_tup, p_lst, p_ixT, p_lenT, truth_bl, onV_some, onB_some, onN_some, onD_bl, onO_some, onL_some, on2_eq, on3_eq, onC_nil, onC_one, onAug_sub, onAug_add, onAug_mul, List.getElem?_cons_zero, List.getElem?_cons_succ, List.set_cons_zero, List.set_cons_succ, wipeD, List.map_cons, List.map_nil, true_and, and_true, decide_eq_true_eq, Bool.not_eq_true', decide_eq_false_iff_not, Nat.reduceAdd, Nat.zero_add, atI_0, atI_1, atI_2, p_eqT2, p_neT2, p_isT, p_isI, p_isB, reduceIte, reduceCtorEq, Int.cast_ofNat_Int, not_true_eq_false, not_false_eq_true, eq_self, if_false, if_true, Bool.true_eq_false, Bool.false_eq_true, Bool.not_true, Bool.not_false, Bool.and_true, Bool.true_and, Bool.and_false, Bool.false_and, p_inT2, p_neS, p_eqS]
    have bw : Bd 8 w1 := Bd.of (by omega) (by omega)
    refine ⟨bm.mulOk bw (by decide) (by decide), ?_⟩
    have bmw := bm.mul bw
    have one : Bd 1 (1 : Int) := Bd.of (by decide) (by decide)
    have dv : m ∣ m * w1 := Int.dvd_mul_right ..
    split
    · exact ⟨bmw.mulOk one (by decide) (by decide), _, rfl, Int.dvd_mul_of_dvd_left dv, (bmw.mul one).mono (by decide), g6.trans g7, p7⟩
    · exact ⟨bmw.mulOk one.neg (by decide) (by decide), _, rfl, Int.dvd_mul_of_dvd_left dv, (bmw.mul one.neg).mono (by decide), g6.trans g7, p7⟩
  obtain ⟨aw, rfl, daw, baw, g7, p7⟩ := h
  refine cutS (wpF_mono _ _) (fun σ S8 => ∃ P Q : Int, σ = [some (.ref r), some (.ref l), some (.int m), some (.tup [.int a, .int b]), some (.tup [.int u, .int v]), some (.int x), some (.int y), some (.bl b1), z8, some (.int aw), some (.tup [.int P, .int Q])] ∧ Pt P Q ∧ Bd 200 P ∧ Bd 200 Q ∧ Res m P Q x ∧ Gr S7 S8) ?_ fun σ S8 h => ?_
  · simp only [sd_cons, sd_nil, sd_zero, List.length_cons, List.length_nil, w_var, w_const, w_glob, w_prim, w_meth, w_cut, w_not, w_and, w_or, w_one, w_ite, w_chain, w_call, w_callk, wa_nil, wa_cons, wt_name, wt_tup, wts_nil, wts_cons, wt_sub, ws_nil, ws_cons, w_expr, w_asg, w_setc, w_par2, w_par3, w_aug, w_ret, w_retN, w_ifs, w_never, seqD_tup, tgsLen, p_add, p_sub, p_mul, p_div, p_mod, p_pow, p_neg, p_eq, p_ne, p_lt, p_le, p_gt, p_ge, p_abs, p_int, p_max, p_min, p_tup, p_lst, p_ixT, p_lenT, truth_bl, onV_some, onB_some, onN_some, onD_bl, onO_some, onL_some, on2_eq, on3_eq, onC_nil, onC_one, onAug_sub, onAug_add, onAug_mul, List.getElem?_cons_zero, List.getElem?_cons_succ, List.set_cons_zero, List.set_cons_succ, wipeD, List.map_cons, List.map_nil, true_and, and_true, decide_eq_true_eq, Bool.not_eq_true', decide_eq_false_iff_not, Nat.reduceAdd, Nat.zero_add, atI_0, atI_1, atI_2, p_eqT2, p_neT2, p_isT, p_isI, p_isB, reduceIte, reduceCtorEq, Int.cast_ofNat_Int, not_true_eq_false, not_false_eq_true, eq_self, if_false, if_true, Bool.true_eq_false, Bool.false_eq_true, Bool.not_true, Bool.not_false, Bool.and_true, Bool.true_and, Bool.and_false, Bool.false_and, p_inT2, p_neS, p_eqS]
    refine ⟨by decide, ?_⟩
    by_cases c : a = 1 ∧ b = 0
    · obtain ⟨rfl, rfl⟩ := c
      simp only [decide_true, Bool.and_true, Bool.not_true, Bool.false_eq_true, if_false]
      refine ⟨by decide, 1, m, rfl, .inl ⟨by omega, by simp⟩, Bd.of (by decide) (by decide), bm.mono (by decide), ?_, Gr.refl _⟩
      rcases hx with ⟨_, h⟩ | ⟨h, _⟩
      · exact .inl ⟨Int.dvd_refl _, h⟩
      · exact absurd (Int.dvd_zero _) h
    · have e : (decide (a = 1) && decide (b = 0)) = false := by
        simp only [Bool.and_eq_false_iff, decide_eq_false_iff_not]
        omega
      rw [if_pos e]
      have hb : 0 < b ∧ Int.gcd a b = 1 := pt1.resolve_right c
      have baa := ba.add (baw.mono (show 20 ≤ 40 by decide))
      refine use (sp_law_low h10 (a + aw) b S7 (baa.mono (by decide)) (bb.mono (by decide))) fun d S8 hd => ?_
      obtain ⟨rfl, rfl⟩ := hd
      obtain ⟨g, P, Q, g0, eP, eQ, Q0, cop, ePQ⟩ := ptOf_spec (a := a + aw) (show b ≠ 0 by omega)
      have bd := ptOf_bd (n := 200) (by decide) (baa.mono (by decide)) (bb.mono (by decide))
      rw [ePQ] at bd
      simp only [ePQ, ptD]
      refine ⟨P, Q, rfl, .inl ⟨Q0, cop⟩, bd.1, bd.2, ?_, Gr.refl _⟩
      by_cases mb : m ∣ b
      · have ex : x = m := by
          rcases hx with ⟨_, h⟩ | ⟨h, _⟩
          · exact h
          · exact absurd mb h
        refine .inl ⟨?_, ex⟩
        rcases pm.mul (a := Q) (b := g) (eQ ▸ mb) with h | h
        · exact h
        · exfalso
          have h2 : m ∣ a := by
            have t := Int.dvd_sub (Int.dvd_mul_of_dvd_right (b := P) h) daw
            rw [← eP, Int.add_sub_cancel] at t
            exact t
          have h3 := Int.dvd_coe_gcd h2 mb
          rw [hb.2] at h3
          have := Int.le_of_dvd (by decide) h3
          omega
      · obtain ⟨_, x0, x1, x2⟩ := hx.resolve_left fun h => mb h.1
        refine ptOf_res pm g eP eQ mb x0 x1 ?_
        have t := Int.dvd_sub x2 daw
        have e2 : x * b - a - aw = x * b - (a + aw) := by omega
        rw [e2] at t
        exact t
  obtain ⟨P, Q, rfl, hPQ, bP, bQ, hr, g8⟩ := h
  simp only [sd_cons, sd_nil, sd_zero, List.length_cons, List.length_nil, w_var, w_const, w_glob, w_prim, w_meth, w_cut, w_not, w_and, w_or, w_one, w_ite, w_chain, w_call, w_callk, wa_nil, wa_cons, wt_name, wt_tup, wts_nil, wts_cons, wt_sub, ws_nil, ws_cons, w_expr, w_asg, w_setc, w_par2, w_par3, w_aug, w_ret, w_retN, w_ifs, w_never, seqD_tup, tgsLen, p_add, p_sub, p_mul, p_div, p_mod, p_pow, p_neg, p_eq, p_ne, p_lt, p_le, p_gt, p_ge, p_abs, p_int, p_max, p_min, p_tup, p_lst, p_ixT, p_lenT, truth_bl, onV_some, onB_some, onN_some, onD_bl, onO_some, onL_some, on2_eq, on3_eq, onC_nil, onC_one, onAug_sub, onAug_add, onAug_mul, List.getElem?_cons_zero, List.getElem?_cons_succ, List.set_cons_zero, List.set_cons_succ, wipeD, List.map_cons, List.map_nil, true_and, and_true, decide_eq_true_eq, Bool.not_eq_true', decide_eq_false_iff_not, Nat.reduceAdd, Nat.zero_add, atI_0, atI_1, atI_2, p_eqT2, p_neT2, p_isT, p_isI, p_isB, reduceIte, reduceCtorEq, Int.cast_ofNat_Int, not_true_eq_false, not_false_eq_true, eq_self, if_false, if_true, Bool.true_eq_false, Bool.false_eq_true, Bool.not_true, Bool.not_false, Bool.and_true, Bool.true_and, Bool.and_false, Bool.false_and, p_inT2, p_neS, p_eqS]
  refine use (sp_reduced H P Q m bP bQ hPQ pm S8) fun d S9 hd => ?_
  obtain ⟨z, rfl, hz, g9⟩ := hd
  obtain rfl := hz.one pm hr
  simp only [sd_cons, sd_nil, sd_zero, List.length_cons, List.length_nil, w_var, w_const, w_glob, w_prim, w_meth, w_cut, w_not, w_and, w_or, w_one, w_ite, w_chain, w_call, w_callk, wa_nil, wa_cons, wt_name, wt_tup, wts_nil, wts_cons, wt_sub, ws_nil, ws_cons, w_expr, w_asg, w_setc, w_par2, w_par3, w_aug, w_ret, w_retN, w_ifs, w_never, seqD_tup, tgsLen, p_add, p_sub, p_mul, p_div, p_mod, p_pow, p_neg, p_eq, p_ne, p_lt, p_le, p_gt, p_ge, p_abs, p_int, p_max, p_min, p_tup, p_lst, p_ixT, p_lenT, truth_bl, onV_some, onB_some, onN_some, onD_bl, onO_some, onL_some, on2_eq, on3_eq, onC_nil, onC_one, onAug_sub, onAug_add, onAug_mul, List.getElem?_cons_zero, List.getElem?_cons_succ, List.set_cons_zero, List.set_cons_succ, wipeD, List.map_cons, List.map_nil, true_and, and_true, decide_eq_true_eq, Bool.not_eq_true', decide_eq_false_iff_not, Nat.reduceAdd, Nat.zero_add, atI_0, atI_1, atI_2, p_eqT2, p_neT2, p_isT, p_isI, p_isB, reduceIte, reduceCtorEq, Int.cast_ofNat_Int, not_true_eq_false, not_false_eq_true, eq_self, if_false, if_true, Bool.true_eq_false, Bool.false_eq_true, Bool.not_true, Bool.not_false, Bool.and_true, Bool.true_and, Bool.and_false, Bool.false_and, p_inT2, p_neS, p_eqS, decide_true]
  exact ⟨g7.trans ((g8.trans g9).x r), (p7.gr (g8.trans g9)).mono (by omega)⟩
theorem sp_law {T : Nat → Option Fn} {k : Nat} (H : HasRed T) (h0 : T 0 = some f_law_pool) (h1 : T 1 = some f_law_draw) (h10 : T 10 = some f_law_low) (h170 : T 170 = some f_law_spot) (h200 : T 200 = some f_law_is_prime) (h201 : T 201 = some f_law_primes) (h202 : T 202 = some f_law_rest) (h203 : T 203 = some f_law_right_40) (h204 : T 204 = some f_law_40)
    (ns : List Int) (hn : ns.length ≤ 63) : wpF T (k + 7) 204 [.ref 0] [.rol (ns.map D.int)] (fun d _ => d = .bl true) fun _ _ => False := by
  rw [wF h204]
  refine ⟨rfl, ?_⟩
  simp only [f_law_40, sd_cons, sd_nil, sd_zero, List.length_cons, List.length_nil, Nat.reduceAdd, Nat.zero_add, ws_cons, ws_nil]
  have s0 : ∀ S : Store, Gr [.rol (ns.map D.int)] S → seqAt S 0 = some (ns.map D.int) := fun S g => seqAt_rol (g 0 _ rfl)
  refine wp_for (wpF_mono _ _) ?_
  simp only [sd_cons, sd_nil, sd_zero, List.length_cons, List.length_nil, w_var, w_const, w_glob, w_prim, w_meth, w_cut, w_not, w_and, w_or, w_one, w_ite, w_chain, w_call, w_callk, wa_nil, wa_cons, wt_name, wt_tup, wts_nil, wts_cons, wt_sub, ws_nil, ws_cons, w_expr, w_asg, w_setc, w_par2, w_par3, w_aug, w_ret, w_retN, w_ifs, w_never, seqD_tup, tgsLen, p_add, p_sub, p_mul, p_div, p_mod, p_pow, p_neg, p_eq, p_ne, p_lt, p_le, p_gt, p_ge, p_abs, p_int, p_max, p_min, p_tup, p_lst, p_ixT, p_lenT, truth_bl, onV_some, onB_some, onN_some, onD_bl, onO_some, onL_some, on2_eq, on3_eq, onC_nil, onC_one, onAug_sub, onAug_add, onAug_mul, List.getElem?_cons_zero, List.getElem?_cons_succ, List.set_cons_zero, List.set_cons_succ, wipeD, List.map_cons, List.map_nil, true_and, and_true, decide_eq_true_eq, Bool.not_eq_true', decide_eq_false_iff_not, Nat.reduceAdd, Nat.zero_add, atI_0, atI_1, atI_2, p_eqT2, p_neT2, p_isT, p_isI, p_isB, reduceIte, reduceCtorEq, Int.cast_ofNat_Int, not_true_eq_false, not_false_eq_true, eq_self, if_false, if_true, Bool.true_eq_false, Bool.false_eq_true, Bool.not_true, Bool.not_false, Bool.and_true, Bool.true_and, Bool.and_false, Bool.false_and, p_inT2, p_neS, p_eqS, p_lenE (s0 _ (Gr.refl _)), iterR, List.length_map]
  refine ⟨_, _, rfl, by omega, fun i σ S1 => ∃ z1 z2 z3, σ = [some (.ref 0), z1, z2, z3] ∧ Gr [.rol (ns.map D.int)] S1, ⟨_, _, _, rfl, Gr.refl _⟩, fun i σ S1 _ _ => ok_nil, fun i d σ S1 hd hi => ?_, fun σ S1 _ => ?_⟩
  · obtain ⟨z1, z2, z3, rfl, g1⟩ := hi
    have hi : i < 8 := by
      have := (List.getElem?_eq_some_iff.mp hd).1
      rw [rangeL_length] at this
      omega
    have := rangeL_get _ _ _ _ hd
    rw [Int.zero_add] at this
    subst this
    simp only [sd_cons, sd_nil, sd_zero, List.length_cons, List.length_nil, w_var, w_const, w_glob, w_prim, w_meth, w_cut, w_not, w_and, w_or, w_one, w_ite, w_chain, w_call, w_callk, wa_nil, wa_cons, wt_name, wt_tup, wts_nil, wts_cons, wt_sub, ws_nil, ws_cons, w_expr, w_asg, w_setc, w_par2, w_par3, w_aug, w_ret, w_retN, w_ifs, w_never, seqD_tup, tgsLen, p_add, p_sub, p_mul, p_div, p_mod, p_pow, p_neg, p_eq, p_ne, p_lt, p_le, p_gt, p_ge, p_abs, p_int, p_max, p_min, p_tup, p_lst, p_ixT, p_lenT, truth_bl, onV_some, onB_some, onN_some, onD_bl, onO_some, onL_some, on2_eq, on3_eq, onC_nil, onC_one, onAug_sub, onAug_add, onAug_mul, List.getElem?_cons_zero, List.getElem?_cons_succ, List.set_cons_zero, List.set_cons_succ, wipeD, List.map_cons, List.map_nil, true_and, and_true, decide_eq_true_eq, Bool.not_eq_true', decide_eq_false_iff_not, Nat.reduceAdd, Nat.zero_add, atI_0, atI_1, atI_2, p_eqT2, p_neT2, p_isT, p_isI, p_isB, reduceIte, reduceCtorEq, Int.cast_ofNat_Int, not_true_eq_false, not_false_eq_true, eq_self, if_false, if_true, Bool.true_eq_false, Bool.false_eq_true, Bool.not_true, Bool.not_false, Bool.and_true, Bool.true_and, Bool.and_false, Bool.false_and, p_inT2, p_neS, p_eqS]
    refine use (sp_pool h0 0 i ns S1 (s0 _ g1) (by omega)) fun d S2 hd => ?_
    obtain ⟨rfl, g2, p2⟩ := hd
    refine wp_for (wpF_mono _ _) ?_
    simp only [sd_cons, sd_nil, sd_zero, List.length_cons, List.length_nil, w_var, w_const, w_glob, w_prim, w_meth, w_cut, w_not, w_and, w_or, w_one, w_ite, w_chain, w_call, w_callk, wa_nil, wa_cons, wt_name, wt_tup, wts_nil, wts_cons, wt_sub, ws_nil, ws_cons, w_expr, w_asg, w_setc, w_par2, w_par3, w_aug, w_ret, w_retN, w_ifs, w_never, seqD_tup, tgsLen, p_add, p_sub, p_mul, p_div, p_mod, p_pow, p_neg, p_eq, p_ne, p_lt, p_le, p_gt, p_ge, p_abs, p_int, p_max, p_min, p_tup, p_lst, p_ixT, p_lenT, truth_bl, onV_some, onB_some, onN_some, onD_bl, onO_some, onL_some, on2_eq, on3_eq, onC_nil, onC_one, onAug_sub, onAug_add, onAug_mul, List.getElem?_cons_zero, List.getElem?_cons_succ, List.set_cons_zero, List.set_cons_succ, wipeD, List.map_cons, List.map_nil, true_and, and_true, decide_eq_true_eq, Bool.not_eq_true', decide_eq_false_iff_not, Nat.reduceAdd, Nat.zero_add, atI_0, atI_1, atI_2, p_eqT2, p_neT2, p_isT, p_isI, p_isB, reduceIte, reduceCtorEq, Int.cast_ofNat_Int, not_true_eq_false, not_false_eq_true, eq_self, if_false, if_true, Bool.true_eq_false, Bool.false_eq_true, Bool.not_true, Bool.not_false, Bool.and_true, Bool.true_and, Bool.and_false, Bool.false_and, p_inT2, p_neS, p_eqS, iterR]
    have lpos : 1 ≤ S1.length := g1.len
    refine ⟨_, _, rfl, by decide, fun j σ S3 => ∃ z3, σ = [some (.ref 0), some (.int i), some (.ref S1.length), z3] ∧ Gr [.rol (ns.map D.int)] S3 ∧ Pool S3 S1.length (20 * j), ⟨_, rfl, g1.trans g2, p2.mono (by omega)⟩, fun i σ S1 _ _ => ok_nil, fun j d σ S3 hd hi => ?_, fun σ S3 hi => ?_⟩
    · obtain ⟨z3, rfl, g3, p3⟩ := hi
      have hj : j < 20 := by
        have := (List.getElem?_eq_some_iff.mp hd).1
        rw [rangeL_length] at this
        omega
      simp only [sd_cons, sd_nil, sd_zero, List.length_cons, List.length_nil, w_var, w_const, w_glob, w_prim, w_meth, w_cut, w_not, w_and, w_or, w_one, w_ite, w_chain, w_call, w_callk, wa_nil, wa_cons, wt_name, wt_tup, wts_nil, wts_cons, wt_sub, ws_nil, ws_cons, w_expr, w_asg, w_setc, w_par2, w_par3, w_aug, w_ret, w_retN, w_ifs, w_never, seqD_tup, tgsLen, p_add, p_sub, p_mul, p_div, p_mod, p_pow, p_neg, p_eq, p_ne, p_lt, p_le, p_gt, p_ge, p_abs, p_int, p_max, p_min, p_tup, p_lst, p_ixT, p_lenT, truth_bl, onV_some, onB_some, onN_some, onD_bl, onO_some, onL_some, on2_eq, on3_eq, onC_nil, onC_one, onAug_sub, onAug_add, onAug_mul, List.getElem?_cons_zero, List.getElem?_cons_succ, List.set_cons_zero, List.set_cons_succ, wipeD, List.map_cons, List.map_nil, true_and, and_true, decide_eq_true_eq, Bool.not_eq_true', decide_eq_false_iff_not, Nat.reduceAdd, Nat.zero_add, atI_0, atI_1, atI_2, p_eqT2, p_neT2, p_isT, p_isI, p_isB, reduceIte, reduceCtorEq, Int.cast_ofNat_Int, not_true_eq_false, not_false_eq_true, eq_self, if_false, if_true, Bool.true_eq_false, Bool.false_eq_true, Bool.not_true, Bool.not_false, Bool.and_true, Bool.true_and, Bool.and_false, Bool.false_and, p_inT2, p_neS, p_eqS]
      refine use (sp_right H h1 h10 h170 h200 h201 h202 h203 S1.length (20 * j) S3 p3 (by omega)) fun d S4 hd => ?_
      obtain ⟨rfl, g4, p4⟩ := hd
      simp only [sd_cons, sd_nil, sd_zero, List.length_cons, List.length_nil, w_var, w_const, w_glob, w_prim, w_meth, w_cut, w_not, w_and, w_or, w_one, w_ite, w_chain, w_call, w_callk, wa_nil, wa_cons, wt_name, wt_tup, wts_nil, wts_cons, wt_sub, ws_nil, ws_cons, w_expr, w_asg, w_setc, w_par2, w_par3, w_aug, w_ret, w_retN, w_ifs, w_never, seqD_tup, tgsLen, p_add, p_sub, p_mul, p_div, p_mod, p_pow, p_neg, p_eq, p_ne, p_lt, p_le, p_gt, p_ge, p_abs, p_int, p_max, p_min, p_tup, p_lst, p_ixT, p_lenT, truth_bl, onV_some, onB_some, onN_some, onD_bl, onO_some, onL_some, on2_eq, on3_eq, onC_nil, onC_one, onAug_sub, onAug_add, onAug_mul, List.getElem?_cons_zero, List.getElem?_cons_succ, List.set_cons_zero, List.set_cons_succ, wipeD, List.map_cons, List.map_nil, true_and, and_true, decide_eq_true_eq, Bool.not_eq_true', decide_eq_false_iff_not, Nat.reduceAdd, Nat.zero_add, atI_0, atI_1, atI_2, p_eqT2, p_neT2, p_isT, p_isI, p_isB, reduceIte, reduceCtorEq, Int.cast_ofNat_Int, not_true_eq_false, not_false_eq_true, eq_self, if_false, if_true, Bool.true_eq_false, Bool.false_eq_true, Bool.not_true, Bool.not_false, Bool.and_true, Bool.true_and, Bool.and_false, Bool.false_and, p_inT2, p_neS, p_eqS]
      exact ⟨_, rfl, g4.gr g3 lpos, p4.mono (by omega)⟩
    · obtain ⟨z3, rfl, g3, p3⟩ := hi
      exact ⟨_, _, _, rfl, g3⟩
  · trivial
end CC
theorem PySem.Challenge.cw_closechains_k41_residues_of_points_holds : PySem.Challenge.rw_closechains_k41_residues_of_points.Holds :=
  CC.k41.holds fun ns hn => CC.sp_law (k := 9) ⟨rfl, rfl, rfl, rfl, rfl, rfl, rfl, rfl, rfl⟩ rfl rfl rfl rfl rfl rfl rfl rfl rfl ns hn
