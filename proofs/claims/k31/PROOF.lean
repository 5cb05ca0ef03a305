import PyProof.Rows.All
import HandS.ForMost
import HandS.ForExc
import HandS.Flow
import HandS.Style
import HandS.Conv
import HandS.Wide
import HandS.WideBits
import HandS.Deep
import HandS.IsInst
import HandS.More
import HandS.TupLe
import PyProof.P3In
import PyProof.MaxThree
import PyProof.ReprRoads
import PyProof.ReprText
import HandS.Property
import HandS.Iter
import HandS.Zip
import HandS.TryOnly
import HandS.TryMany
import HandS.Head2
import HandS.HeadHook4
import HandS.HeadEnd
import HandS.Defaults
import HandS.Words
import HandS.HeadHook2
import HandS.HeadNt
import PyProof.ReprLen
import PySem.Challenge.RW_closechains_k31_exchanged_by_five_number
set_option Elab.async false
set_option linter.all false
set_option maxRecDepth 100000
set_option maxHeartbeats 0
/-! Plain data, a store of objects, and how both stand for the layer's values and heap. -/
namespace CC
open PySem L2

/-- plain data; ref l: the object at place l of the store -/
inductive D where
  | non | bl (b : Bool) | int (i : Int) | str (x : Str) | tup (xs : List D) | ref (l : Nat)

/-- objects: a list; a list that is never written; an instance (its class's number, its fields) -/
inductive O where
  | lst (xs : List D) | rol (xs : List D) | ins (c : Nat) (fs : List (Str × D))

abbrev Store := List O
abbrev Exc := Nat × D
abbrev Post := D → Store → Prop
abbrev EPost := Exc → Store → Prop

def O.mut : O → Bool
  | .rol _ => false
  | _ => true

section
variable (K : PySem.W.Frag) (ca : Nat → Addr)

mutual
inductive RelD (ι : List Addr) (H : Hp) : D → V → Prop
  | non : RelD ι H .non .non
  | bl (b : Bool) : RelD ι H (.bl b) (.bl b)
  | int (i : Int) : RelD ι H (.int i) (.int i)
  | str (x : Str) : RelD ι H (.str x) (.str x)
  | tup {ds : List D} {vs : List V} {a : Addr} : SqT K H a vs → RelDs ι H ds vs → RelD ι H (.tup ds) (.ref a)
  | ref {l : Nat} {a : Addr} : ι[l]? = some a → RelD ι H (.ref l) (.ref a)
inductive RelDs (ι : List Addr) (H : Hp) : List D → List V → Prop
  | nil : RelDs ι H [] []
  | cons {d : D} {v : V} {ds : List D} {vs : List V} : RelD ι H d v → RelDs ι H ds vs → RelDs ι H (d :: ds) (v :: vs)
end

/-- the fields of an instance -/
inductive RelF (ι : List Addr) (H : Hp) : List (Str × D) → List (Str × V) → Prop
  | nil : RelF ι H [] []
  | cons {x : Str} {d : D} {v : V} {ds : List (Str × D)} {vs : List (Str × V)} : RelD K ι H d v → RelF ι H ds vs → RelF ι H ((x, d) :: ds) ((x, v) :: vs)

/-- a list that stays: frozen, or of the written part -/
def SqF (H : Hp) (a : Addr) (xs : List V) : Prop :=
  (∃ o, H a = some (.frz o (.lst xs))) ∨
    ∃ (o : Obj) (its : Array Value) (n : Nat), K.lookup a = some o ∧ o.cls = .type "list" ∧ o.dict = none ∧ o.data = .seq its n ∧ its.size ≤ sizeLine ∧ Vals xs its.toList

inductive RelO (ι : List Addr) (H : Hp) : O → Addr → Prop
  | lst {ds : List D} {vs : List V} {a : Addr} : H a = some (.lst vs) → RelDs K ι H ds vs → RelO ι H (.lst ds) a
  | rol {ds : List D} {vs : List V} {a : Addr} : SqF K H a vs → RelDs K ι H ds vs → RelO ι H (.rol ds) a
  | ins {c : Nat} {fs : List (Str × D)} {gs : List (Str × V)} {a dx : Addr} : H a = some (.ins (ca c) dx gs) → H dx = some (.own a) → RelF K ι H fs gs → RelO ι H (.ins c fs) a

structure Rep (ι : List Addr) (S : Store) (H : Hp) : Prop where
  len : ι.length = S.length
  obj : ∀ (l : Nat) (o : O) (a : Addr), S[l]? = some o → ι[l]? = some a → RelO K ca ι H o a
  inj : ∀ (l m : Nat) (o o' : O) (a : Addr), S[l]? = some o → S[m]? = some o' → o.mut = true → o'.mut = true → ι[l]? = some a → ι[m]? = some a → l = m

structure Ext (ι : List Addr) (H : Hp) (ι' : List Addr) (H' : Hp) : Prop where
  pre : ∀ (l : Nat) (a : Addr), ι[l]? = some a → ι'[l]? = some a
  tup : ∀ (a : Addr) (vs : List V), SqT K H a vs → SqT K H' a vs
end

section
variable {K : PySem.W.Frag} {ca : Nat → Addr} {ι ι' ι2 : List Addr} {H H' H2 : Hp} {S S' : Store}
theorem Ext.refl : Ext K ι H ι H := ⟨fun _ _ h => h, fun _ _ h => h⟩
theorem Ext.trans (x : Ext K ι H ι' H') (y : Ext K ι' H' ι2 H2) : Ext K ι H ι2 H2 :=
  ⟨fun l a h => y.pre l a (x.pre l a h), fun a vs h => y.tup a vs (x.tup a vs h)⟩

mutual
theorem RelD.mono (x : Ext K ι H ι' H') : ∀ {d : D} {v : V}, RelD K ι H d v → RelD K ι' H' d v
  | _, _, .non => .non
  | _, _, .bl b => .bl b
  | _, _, .int i => .int i
  | _, _, .str z => .str z
  | _, _, .tup h r => .tup (x.tup _ _ h) (RelDs.mono x r)
  | _, _, .ref h => .ref (x.pre _ _ h)
theorem RelDs.mono (x : Ext K ι H ι' H') : ∀ {ds : List D} {vs : List V}, RelDs K ι H ds vs → RelDs K ι' H' ds vs
  | _, _, .nil => .nil
  | _, _, .cons h r => .cons (RelD.mono x h) (RelDs.mono x r)
end
theorem RelF.mono (x : Ext K ι H ι' H') : ∀ {ds : List (Str × D)} {vs : List (Str × V)}, RelF K ι H ds vs → RelF K ι' H' ds vs
  | _, _, .nil => .nil
  | _, _, .cons h r => .cons (h.mono x) (RelF.mono x r)

theorem RelDs.length : ∀ {ds : List D} {vs : List V}, RelDs K ι H ds vs → ds.length = vs.length
  | _, _, .nil => rfl
  | _, _, .cons _ r => congrArg (· + 1) (RelDs.length r)
theorem RelDs.get : ∀ {ds : List D} {vs : List V} {i : Nat} {d : D}, RelDs K ι H ds vs → ds[i]? = some d → ∃ v, vs[i]? = some v ∧ RelD K ι H d v
  | _, _, _, _, .nil, h => by simp at h
  | _, _, 0, _, .cons r _, h => by simp at h; subst h; exact ⟨_, rfl, r⟩
  | _, _, i + 1, d, .cons _ r, h => by
    obtain ⟨v, e, q⟩ := RelDs.get (i := i) (d := d) r (by simpa using h)
    exact ⟨v, by simpa using e, q⟩
theorem RelDs.append : ∀ {ds es : List D} {vs us : List V}, RelDs K ι H ds vs → RelDs K ι H es us → RelDs K ι H (ds ++ es) (vs ++ us)
  | _, _, _, _, .nil, q => q
  | _, _, _, _, .cons h r, q => .cons h (RelDs.append r q)
theorem RelDs.take : ∀ {ds : List D} {vs : List V} (n : Nat), RelDs K ι H ds vs → RelDs K ι H (ds.take n) (vs.take n)
  | _, _, 0, _ => by simpa using RelDs.nil
  | _, _, _ + 1, .nil => by simpa using RelDs.nil
  | _, _, n + 1, .cons h r => .cons h (RelDs.take n r)
theorem RelDs.drop : ∀ {ds : List D} {vs : List V} (n : Nat), RelDs K ι H ds vs → RelDs K ι H (ds.drop n) (vs.drop n)
  | _, _, 0, q => q
  | _, _, _ + 1, .nil => by simpa using RelDs.nil
  | _, _, n + 1, .cons _ r => RelDs.drop n r
theorem RelDs.set {d : D} {v : V} (h : RelD K ι H d v) : ∀ {ds : List D} {vs : List V} (i : Nat), RelDs K ι H ds vs → RelDs K ι H (ds.set i d) (vs.set i v)
  | _, _, _, .nil => .nil
  | _, _, 0, .cons _ r => .cons h r
  | _, _, i + 1, .cons q r => .cons q (RelDs.set h i r)
theorem RelDs.reverse : ∀ {ds : List D} {vs : List V}, RelDs K ι H ds vs → RelDs K ι H ds.reverse vs.reverse
  | _, _, .nil => .nil
  | _, _, .cons h r => by
    rw [List.reverse_cons, List.reverse_cons]
    exact RelDs.append (RelDs.reverse r) (.cons h .nil)
theorem RelDs.ints {ns : List Int} : ∀ {vs : List V}, RelDs K ι H (ns.map D.int) vs → vs = ns.map V.int := by
  induction ns with
  | nil => intro vs h; cases h; rfl
  | cons n r ih =>
    intro vs h
    cases h with
    | cons a b => cases a; rw [ih b]; rfl
theorem RelDs.of_ints (ns : List Int) : RelDs K ι H (ns.map D.int) (ns.map V.int) := by
  induction ns with
  | nil => exact .nil
  | cons n r ih => exact .cons (.int n) ih

theorem SqF.seq {a : Addr} {vs : List V} (h : SqF K H a vs) : SqL K H a vs := by
  rcases h with ⟨o, h⟩ | h
  · exact .inl (.inr ⟨o, h⟩)
  · exact .inr h

/-- a tuple stays when a new object is laid -/
theorem SqT.laid {p : Addr} {o : HO} (hp : H p = none) {a : Addr} {vs : List V} (h : SqT K H a vs) : SqT K (upd H p o) a vs := by
  rcases h with (h | ⟨x, h⟩) | h
  · exact .inl (.inl (by rw [upd_ne (ne_of_none h hp)]; exact h))
  · exact .inl (.inr ⟨x, by rw [upd_ne (ne_of_none h hp)]; exact h⟩)
  · exact .inr h
theorem SqF.laid {p : Addr} {o : HO} (hp : H p = none) {a : Addr} {vs : List V} (h : SqF K H a vs) : SqF K (upd H p o) a vs := by
  rcases h with ⟨x, h⟩ | h
  · exact .inl ⟨x, by rw [upd_ne (ne_of_none h hp)]; exact h⟩
  · exact .inr h
/-- .. and when a list or an instance is written -/
theorem SqT.wrote {p : Addr} {o u : HO} (hp : H p = some u) (hu : Mut (some u)) {a : Addr} {vs : List V} (h : SqT K H a vs) : SqT K (upd H p o) a vs := by
  rcases h with (h | ⟨x, h⟩) | h
  · exact .inl (.inl (by rw [upd_ne (ne_of h hp (fun e => by rw [← e] at hu; exact hu))]; exact h))
  · exact .inl (.inr ⟨x, by rw [upd_ne (ne_of h hp (fun e => by rw [← e] at hu; exact hu))]; exact h⟩)
  · exact .inr h
theorem SqF.wrote {p : Addr} {o u : HO} (hp : H p = some u) (hu : Mut (some u)) {a : Addr} {vs : List V} (h : SqF K H a vs) : SqF K (upd H p o) a vs := by
  rcases h with ⟨x, h⟩ | h
  · exact .inl ⟨x, by rw [upd_ne (ne_of h hp (fun e => by rw [← e] at hu; exact hu))]; exact h⟩
  · exact .inr h

theorem Ext.laid {p : Addr} {o : HO} (hp : H p = none) : Ext K ι H ι (upd H p o) := ⟨fun _ _ h => h, fun _ _ h => SqT.laid hp h⟩
theorem Ext.push {p q : Addr} {o : HO} (hp : H p = none) : Ext K ι H (ι ++ [q]) (upd H p o) :=
  ⟨fun l a h => by rw [List.getElem?_append_left (List.getElem?_eq_some_iff.mp h).1]; exact h, fun _ _ h => SqT.laid hp h⟩
theorem Ext.wrote {p : Addr} {o u : HO} (hp : H p = some u) (hu : Mut (some u)) : Ext K ι H ι (upd H p o) := ⟨fun _ _ h => h, fun _ _ h => SqT.wrote hp hu h⟩

/-- a new object that the store does not know is laid -/
theorem Rep.laid (R : Rep K ca ι S H) {p : Addr} {o : HO} (hp : H p = none) : Rep K ca ι S (upd H p o) where
  len := R.len
  obj := fun l ob a h1 h2 => by
    have x : Ext K ι H ι (upd H p o) := Ext.laid hp
    cases R.obj l ob a h1 h2 with
    | lst e r => exact .lst (by rw [upd_ne (ne_of_none e hp)]; exact e) (r.mono x)
    | rol e r => exact .rol (SqF.laid hp e) (r.mono x)
    | ins e f r => exact .ins (by rw [upd_ne (ne_of_none e hp)]; exact e) (by rw [upd_ne (ne_of_none f hp)]; exact f) (r.mono x)
  inj := R.inj
/-- the mutable objects of the store are tracked -/
theorem Rep.there (R : Rep K ca ι S H) {l : Nat} {o : O} {a : Addr} (h1 : S[l]? = some o) (h2 : ι[l]? = some a) (m : o.mut = true) : ∃ u, H a = some u ∧ Mut (some u) := by
  cases R.obj l o a h1 h2 with
  | lst e r => exact ⟨_, e, trivial⟩
  | rol e r => cases m
  | ins e f r => exact ⟨_, e, trivial⟩
/-- a new list is laid, the store knows it -/
theorem Rep.pushLst (R : Rep K ca ι S H) {p : Addr} (hp : H p = none) {ds : List D} {vs : List V} (r : RelDs K ι H ds vs) : Rep K ca (ι ++ [p]) (S ++ [.lst ds]) (upd H p (.lst vs)) where
  len := by simp [R.len]
  obj := fun l ob a h1 h2 => by
    have x : Ext K ι H (ι ++ [p]) (upd H p (.lst vs)) := Ext.push hp
    by_cases hl : l < S.length
    · rw [List.getElem?_append_left hl] at h1
      rw [List.getElem?_append_left (by rw [R.len]; exact hl)] at h2
      cases R.obj l ob a h1 h2 with
      | lst e r => exact .lst (by rw [upd_ne (ne_of_none e hp)]; exact e) (r.mono x)
      | rol e r => exact .rol (SqF.laid hp e) (r.mono x)
      | ins e f r => exact .ins (by rw [upd_ne (ne_of_none e hp)]; exact e) (by rw [upd_ne (ne_of_none f hp)]; exact f) (r.mono x)
    · rw [List.getElem?_append_right (by omega)] at h1
      rw [List.getElem?_append_right (by rw [R.len]; omega)] at h2
      obtain ⟨_, e1⟩ := List.getElem?_eq_some_iff.mp h1
      obtain ⟨_, e2⟩ := List.getElem?_eq_some_iff.mp h2
      simp at e1 e2
      subst e1 e2
      exact .lst upd_same (r.mono x)
  inj := fun l m o o' a h1 h2 m1 m2 h3 h4 => by
    have key : ∀ {l : Nat} {o : O}, (S ++ [O.lst ds])[l]? = some o → o.mut = true → (ι ++ [p])[l]? = some a → (l < S.length ∧ S[l]? = some o ∧ ι[l]? = some a ∧ a ≠ p) ∨ (l = S.length ∧ a = p) := fun {l o} h1 m1 h3 => by
      by_cases hl : l < S.length
      · rw [List.getElem?_append_left hl] at h1
        rw [List.getElem?_append_left (by rw [R.len]; exact hl)] at h3
        obtain ⟨u, e, _⟩ := R.there h1 h3 m1
        exact .inl ⟨hl, h1, h3, ne_of_none e hp⟩
      · have hz := (List.getElem?_eq_some_iff.mp h1).1
        rw [List.length_append, List.length_singleton] at hz
        have : l = S.length := by omega
        rw [List.getElem?_append_right (by rw [R.len]; omega), this, R.len] at h3
        simp at h3
        exact .inr ⟨this, h3.symm⟩
    rcases key h1 m1 h3 with ⟨_, a1, a2, a3⟩ | ⟨a1, a2⟩ <;> rcases key h2 m2 h4 with ⟨_, b1, b2, b3⟩ | ⟨b1, b2⟩
    · exact R.inj l m o o' a a1 b1 m1 m2 a2 b2
    · exact absurd b2 a3
    · exact absurd a2 b3
    · rw [a1, b1]
/-- a list of the store is written -/
theorem Rep.setLst (R : Rep K ca ι S H) {l : Nat} {a : Addr} {ds0 ds : List D} {vs : List V} (h1 : S[l]? = some (.lst ds0)) (h2 : ι[l]? = some a) (r : RelDs K ι H ds vs) : Rep K ca ι (S.set l (.lst ds)) (upd H a (.lst vs)) := by
  obtain ⟨u, hu, mu⟩ := R.there h1 h2 rfl
  have hl : l < S.length := (List.getElem?_eq_some_iff.mp h1).1
  have x : Ext K ι H ι (upd H a (.lst vs)) := Ext.wrote hu mu
  have low : ∀ {m : Nat} {o : O}, (S.set l (.lst ds))[m]? = some o → (m = l ∧ o = .lst ds) ∨ (m ≠ l ∧ S[m]? = some o) := fun {m o} h => by
    by_cases e : m = l
    · subst e
      rw [List.getElem?_set_self hl] at h
      exact .inl ⟨rfl, (Option.some.inj h).symm⟩
    · rw [List.getElem?_set_ne (Ne.symm e)] at h
      exact .inr ⟨e, h⟩
  refine ⟨by rw [List.length_set]; exact R.len, fun m ob b h3 h4 => ?_, fun m n o o' b h3 h4 m1 m2 h5 h6 => ?_⟩
  · rcases low h3 with ⟨e1, e2⟩ | ⟨e1, e2⟩
    · subst e1 e2
      rw [h2] at h4
      cases h4
      exact .lst upd_same (r.mono x)
    · have ne : ∀ w, H b = some w → ob.mut = true → b ≠ a := fun w hw hm z => by
        subst z
        exact e1 (R.inj m l ob (.lst ds0) b e2 h1 hm rfl h4 h2)
      cases R.obj m ob b e2 h4 with
      | lst e r => exact .lst (by rw [upd_ne (ne _ e rfl)]; exact e) (r.mono x)
      | rol e r => exact .rol (SqF.wrote hu mu e) (r.mono x)
      | @ins c fs gs _ dx e f r =>
        exact .ins (by rw [upd_ne (ne _ e rfl)]; exact e) (by rw [upd_ne (fun z => by subst z; rw [hu] at f; cases f; exact mu)]; exact f) (r.mono x)
  · rcases low h3 with ⟨e1, e2⟩ | ⟨e1, e2⟩ <;> rcases low h4 with ⟨f1, f2⟩ | ⟨f1, f2⟩
    · rw [e1, f1]
    · subst e1
      exact R.inj m n (.lst ds0) o' b h1 f2 rfl m2 h5 h6
    · subst f1
      exact R.inj m n o (.lst ds0) b e2 h1 m1 rfl h5 h6
    · exact R.inj m n o o' b e2 f2 m1 m2 h5 h6
/-- a new instance: its dict at dx, it at p -/
theorem Ext.pushIns {p dx q : Addr} {o o' : HO} (hp : H p = none) (hd : H dx = none) : Ext K ι H (ι ++ [q]) (upd (upd H dx o) p o') :=
  ⟨fun l a h => by rw [List.getElem?_append_left (List.getElem?_eq_some_iff.mp h).1]; exact h, fun a vs h => by
    by_cases e : p = dx
    · subst e
      have : upd (upd H p o) p o' = upd H p o' := by
        funext b
        by_cases hb : b = p
        · rw [hb, upd_same, upd_same]
        · rw [upd_ne hb, upd_ne hb, upd_ne hb]
      rw [this]
      exact SqT.laid hp h
    · exact SqT.laid (by rw [upd_ne e]; exact hp) (SqT.laid hd h)⟩
theorem Rep.pushIns (R : Rep K ca ι S H) {c : Nat} {p dx : Addr} (hp : H p = none) (hd : H dx = none) (ne : dx ≠ p) : Rep K ca (ι ++ [p]) (S ++ [.ins c []]) (upd (upd H dx (.own p)) p (.ins (ca c) dx [])) where
  len := by simp [R.len]
  obj := fun l ob a h1 h2 => by
    have R1 : Rep K ca ι S (upd H dx (.own p)) := R.laid hd
    have hp1 : (upd H dx (.own p)) p = none := by rw [upd_ne (Ne.symm ne)]; exact hp
    have R2 : Rep K ca ι S (upd (upd H dx (.own p)) p (.ins (ca c) dx [])) := R1.laid hp1
    by_cases hl : l < S.length
    · rw [List.getElem?_append_left hl] at h1
      rw [List.getElem?_append_left (by rw [R.len]; exact hl)] at h2
      have x : Ext K ι (upd (upd H dx (.own p)) p (.ins (ca c) dx [])) (ι ++ [p]) (upd (upd H dx (.own p)) p (.ins (ca c) dx [])) := ⟨fun l a h => by rw [List.getElem?_append_left (List.getElem?_eq_some_iff.mp h).1]; exact h, fun _ _ h => h⟩
      cases R2.obj l ob a h1 h2 with
      | lst e r => exact .lst e (r.mono x)
      | rol e r => exact .rol e (r.mono x)
      | ins e f r => exact .ins e f (r.mono x)
    · rw [List.getElem?_append_right (by omega)] at h1
      rw [List.getElem?_append_right (by rw [R.len]; omega)] at h2
      obtain ⟨_, e1⟩ := List.getElem?_eq_some_iff.mp h1
      obtain ⟨_, e2⟩ := List.getElem?_eq_some_iff.mp h2
      simp at e1 e2
      subst e1 e2
      exact .ins upd_same (by rw [upd_ne ne, upd_same]) .nil
  inj := fun l m o o' a h1 h2 m1 m2 h3 h4 => by
    have key : ∀ {l : Nat} {o : O}, (S ++ [O.ins c []])[l]? = some o → o.mut = true → (ι ++ [p])[l]? = some a → (l < S.length ∧ S[l]? = some o ∧ ι[l]? = some a ∧ a ≠ p) ∨ (l = S.length ∧ a = p) := fun {l o} h1 m1 h3 => by
      by_cases hl : l < S.length
      · rw [List.getElem?_append_left hl] at h1
        rw [List.getElem?_append_left (by rw [R.len]; exact hl)] at h3
        obtain ⟨u, e, _⟩ := R.there h1 h3 m1
        exact .inl ⟨hl, h1, h3, ne_of_none e hp⟩
      · have hz := (List.getElem?_eq_some_iff.mp h1).1
        rw [List.length_append, List.length_singleton] at hz
        have : l = S.length := by omega
        rw [List.getElem?_append_right (by rw [R.len]; omega), this, R.len] at h3
        simp at h3
        exact .inr ⟨this, h3.symm⟩
    rcases key h1 m1 h3 with ⟨_, a1, a2, a3⟩ | ⟨a1, a2⟩ <;> rcases key h2 m2 h4 with ⟨_, b1, b2, b3⟩ | ⟨b1, b2⟩
    · exact R.inj l m o o' a a1 b1 m1 m2 a2 b2
    · exact absurd b2 a3
    · exact absurd a2 b3
    · rw [a1, b1]
def putD (f : Str) (v : D) : List (Str × D) → List (Str × D)
  | [] => [(f, v)]
  | (g, x) :: r => if g = f then (g, v) :: r else (g, x) :: putD f v r
theorem RelF.put {f : Str} {d : D} {v : V} (h : RelD K ι H d v) : ∀ {fs : List (Str × D)} {gs : List (Str × V)}, RelF K ι H fs gs → RelF K ι H (putD f d fs) (putF f v gs)
  | _, _, .nil => .cons h .nil
  | _, _, .cons (x := x) a r => by
    unfold putD putF
    by_cases e : x = f
    · rw [if_pos e, if_pos e]
      exact .cons h r
    · rw [if_neg e, if_neg e]
      exact .cons a (RelF.put h r)
theorem RelF.look {f : Str} {d : D} : ∀ {fs : List (Str × D)} {gs : List (Str × V)}, RelF K ι H fs gs → fs.lookup f = some d → ∃ v, gs.lookup f = some v ∧ RelD K ι H d v
  | _, _, .nil, h => by cases h
  | _, _, .cons (x := x) a r, h => by
    rw [List.lookup_cons] at h ⊢
    cases e : f == x with
    | true =>
      rw [e] at h
      cases h
      exact ⟨_, rfl, a⟩
    | false =>
      rw [e] at h
      exact RelF.look r h
theorem RelF.length : ∀ {fs : List (Str × D)} {gs : List (Str × V)}, RelF K ι H fs gs → fs.length = gs.length
  | _, _, .nil => rfl
  | _, _, .cons _ r => congrArg (· + 1) (RelF.length r)
/-- an instance of the store is written -/
theorem Rep.setIns (R : Rep K ca ι S H) {l c : Nat} {a dx : Addr} {fs0 fs : List (Str × D)} {gs0 gs : List (Str × V)} (h1 : S[l]? = some (.ins c fs0)) (h2 : ι[l]? = some a) (h3 : H a = some (.ins (ca c) dx gs0)) (h4 : H dx = some (.own a)) (r : RelF K ι H fs gs) : Rep K ca ι (S.set l (.ins c fs)) (upd H a (.ins (ca c) dx gs)) := by
  have hl : l < S.length := (List.getElem?_eq_some_iff.mp h1).1
  have mu : Mut (some (HO.ins (ca c) dx gs0)) := trivial
  have x : Ext K ι H ι (upd H a (.ins (ca c) dx gs)) := Ext.wrote h3 mu
  have low : ∀ {m : Nat} {o : O}, (S.set l (.ins c fs))[m]? = some o → (m = l ∧ o = .ins c fs) ∨ (m ≠ l ∧ S[m]? = some o) := fun {m o} h => by
    by_cases e : m = l
    · subst e
      rw [List.getElem?_set_self hl] at h
      exact .inl ⟨rfl, (Option.some.inj h).symm⟩
    · rw [List.getElem?_set_ne (Ne.symm e)] at h
      exact .inr ⟨e, h⟩
  refine ⟨by rw [List.length_set]; exact R.len, fun m ob b h5 h6 => ?_, fun m n o o' b h5 h6 m1 m2 h7 h8 => ?_⟩
  · rcases low h5 with ⟨e1, e2⟩ | ⟨e1, e2⟩
    · subst e1 e2
      rw [h2] at h6
      cases h6
      refine .ins upd_same ?_ (r.mono x)
      rw [upd_ne (fun z => by rw [z] at h4; rw [h3] at h4; cases h4)]
      exact h4
    · have ne : ∀ w, H b = some w → ob.mut = true → b ≠ a := fun w hw hm z => by
        subst z
        exact e1 (R.inj m l ob (.ins c fs0) b e2 h1 hm rfl h6 h2)
      cases R.obj m ob b e2 h6 with
      | lst e r => exact .lst (by rw [upd_ne (ne _ e rfl)]; exact e) (r.mono x)
      | rol e r => exact .rol (SqF.wrote h3 mu e) (r.mono x)
      | ins e f r => exact .ins (by rw [upd_ne (ne _ e rfl)]; exact e) (by rw [upd_ne (fun z => by rw [z] at f; rw [h3] at f; cases f)]; exact f) (r.mono x)
  · rcases low h5 with ⟨e1, e2⟩ | ⟨e1, e2⟩ <;> rcases low h6 with ⟨f1, f2⟩ | ⟨f1, f2⟩
    · rw [e1, f1]
    · subst e1
      exact R.inj m n (.ins c fs0) o' b h1 f2 rfl m2 h7 h8
    · subst f1
      exact R.inj m n o (.ins c fs0) b e2 h1 m1 rfl h7 h8
    · exact R.inj m n o o' b e2 f2 m1 m2 h7 h8
/-- what an instance of the store is -/
def insAt (d : D) (S : Store) : Option (Nat × List (Str × D)) := match d with
  | .ref l => (match S[l]? with
    | some (.ins c fs) => some (c, fs)
    | _ => none)
  | _ => none
theorem Rep.ins (R : Rep K ca ι S H) {d : D} {c : Nat} {fs : List (Str × D)} {v : V} (h : insAt d S = some (c, fs)) (r : RelD K ι H d v) : ∃ l a dx gs, d = .ref l ∧ S[l]? = some (.ins c fs) ∧ v = .ref a ∧ ι[l]? = some a ∧ H a = some (.ins (ca c) dx gs) ∧ H dx = some (.own a) ∧ RelF K ι H fs gs := by
  unfold insAt at h
  split at h
  · rename_i l
    split at h
    · rename_i c' fs' e
      cases h
      cases r with
      | ref e1 =>
        cases R.obj l _ _ e e1 with
        | ins e2 e3 e4 => exact ⟨l, _, _, _, rfl, e, rfl, e1, e2, e3, e4⟩
    · cases h
  · cases h
/-- what a list of the store is -/
theorem Rep.lst (R : Rep K ca ι S H) {l : Nat} {ds : List D} {v : V} (h : S[l]? = some (.lst ds)) (r : RelD K ι H (.ref l) v) : ∃ a vs, v = .ref a ∧ ι[l]? = some a ∧ H a = some (.lst vs) ∧ RelDs K ι H ds vs := by
  cases r with
  | ref e =>
    cases R.obj l _ _ h e with
    | lst q r => exact ⟨_, _, rfl, e, q, r⟩
/-- the items of a list or of a list that stays -/
def seqAt (S : Store) (l : Nat) : Option (List D) := match S[l]? with
  | some (.lst ds) => some ds
  | some (.rol ds) => some ds
  | _ => none
theorem Rep.seq (R : Rep K ca ι S H) {l : Nat} {ds : List D} {v : V} (h : seqAt S l = some ds) (r : RelD K ι H (.ref l) v) : ∃ a vs, v = .ref a ∧ SqL K H a vs ∧ RelDs K ι H ds vs := by
  cases r with
  | ref e =>
    unfold seqAt at h
    cases q : S[l]? with
    | none => rw [q] at h; cases h
    | some o =>
      rw [q] at h
      cases R.obj l _ _ q e with
      | lst z r => cases h; exact ⟨_, _, rfl, SqL.of z, r⟩
      | rol z r => cases h; exact ⟨_, _, rfl, z.seq, r⟩
      | ins z f r => cases h
end
end CC
/-! The little language over plain data: what its operations give, what a run of it wants. -/
namespace CC
open PySem L2

/-! ### reading data out of the store -/
def denL (f : D → Option PyData) : List D → Option (List PyData)
  | [] => some []
  | d :: ds => (match f d, denL f ds with
    | some e, some es => some (e :: es)
    | _, _ => none)
def den : Nat → Store → D → Option PyData
  | 0, _, d => (match d with
    | .non => some .none
    | .bl b => some (.bool b)
    | .int i => some (.int i)
    | .str x => some (.str x)
    | _ => none)
  | n + 1, S, d => (match d with
    | .non => some .none
    | .bl b => some (.bool b)
    | .int i => some (.int i)
    | .str x => some (.str x)
    | .tup ds => (match denL (den n S) ds with
      | some es => some (.tuple es)
      | none => none)
    | .ref l => (match seqAt S l with
      | some ds => (match denL (den n S) ds with
        | some es => some (.list es)
        | none => none)
      | none => none))

/-- a value's truth -/
def truth (d : D) (S : Store) : Option Bool := match d with
  | .non => some false
  | .bl b => some b
  | .int i => some (i != 0)
  | .tup ds => some !ds.isEmpty
  | .ref l => (match seqAt S l with
    | some ds => some !ds.isEmpty
    | none => none)
  | .str _ => none

/-- what an operation gives: what it wants, its value, the store behind it -/
structure Out where
  c : Prop
  d : D
  S : Store

def newL (c : Prop) (xs : List D) (S : Store) : Option Out := some ⟨c, .ref S.length, S ++ [.lst xs]⟩

def DivOk (i j : Int) : Prop := Builtin.divisionGoesByPylong i j = false

def binR (op : Operator) (x y : D) (S : Store) : Option Out := match op, x, y with
  | .Add, .int i, .int j => some ⟨True, .int (i + j), S⟩
  | .Add, .ref l, .ref m => (match S[l]?, S[m]? with
    | some (.lst a), some (.lst b) => newL (a.length + b.length ≤ sizeLine) (a ++ b) S
    | _, _ => none)
  | .Add, .str a, .str b => some ⟨a.length + b.length ≤ sizeLine, .str (a ++ b), S⟩
  | .Sub, .int i, .int j => some ⟨True, .int (i - j), S⟩
  | .Mult, .int i, .int j => some ⟨IntMulOk i j, .int (i * j), S⟩
  | .Mult, .ref l, .int k => (match S[l]? with
    | some (.lst a) => newL (-(2 ^ 63) ≤ k ∧ k < 2 ^ 63 ∧ a.length * k.toNat ≤ sizeLine) (List.replicate k.toNat a).flatten S
    | _ => none)
  | .FloorDiv, .int i, .int j => some ⟨j ≠ 0 ∧ DivOk i j, .int (i.fdiv j), S⟩
  | .Mod, .int i, .int j => some ⟨j ≠ 0, .int (i.fmod j), S⟩
  | .Pow, .int i, .int j => some ⟨0 ≤ j ∧ (Builtin.Int.intBits i : Int) * j ≤ 2 ^ 27, .int (i ^ j.toNat), S⟩
  | .LShift, .int i, .int j => some ⟨0 ≤ j ∧ (Builtin.Int.intBits i : Int) + j ≤ 2 ^ 27, .int (i * 2 ^ j.toNat), S⟩
  | _, _, _ => none

def isNon : D → Bool
  | .non => true
  | _ => false
/-- how deep data may be -/
abbrev deep : Nat := 8
def cmpR (op : CmpOp) (x y : D) (S : Store) : Option Out := match op with
  | .Eq => (match x, y with
    | .str a, .str b => some ⟨True, .bl (decide (a = b)), S⟩
    | x, y => (match den deep S x, den deep S y with
      | some a, some b => some ⟨SeqAt.shaped a = true ∧ SeqAt.shaped b = true, .bl (PyData.eqv a b), S⟩
      | _, _ => none))
  | .NotEq => (match x, y with
    | .str a, .str b => some ⟨True, .bl (!decide (a = b)), S⟩
    | x, y => (match den deep S x, den deep S y with
      | some a, some b => some ⟨SeqAt.shaped a = true ∧ SeqAt.shaped b = true, .bl (!PyData.eqv a b), S⟩
      | _, _ => none))
  | .Lt => (match x, y with
    | .int i, .int j => some ⟨True, .bl (decide (i < j)), S⟩
    | _, _ => none)
  | .LtE => (match x, y with
    | .int i, .int j => some ⟨True, .bl (decide (i ≤ j)), S⟩
    | _, _ => none)
  | .Gt => (match x, y with
    | .int i, .int j => some ⟨True, .bl (decide (j < i)), S⟩
    | _, _ => none)
  | .GtE => (match x, y with
    | .int i, .int j => some ⟨True, .bl (decide (j ≤ i)), S⟩
    | _, _ => none)
  | .Is => (match x, y with
    | x, .non => some ⟨True, .bl (isNon x), S⟩
    | .bl a, .bl b => some ⟨True, .bl (decide (a = b)), S⟩
    | _, _ => none)
  | .IsNot => (match x, y with
    | x, .non => some ⟨True, .bl (!isNon x), S⟩
    | .bl a, .bl b => some ⟨True, .bl (!decide (a = b)), S⟩
    | _, _ => none)
  | .In => (match den deep S x, den deep S y with
    | some a, some (.list bs) => some ⟨SeqAt.shaped a = true ∧ SeqAt.shaped (.list bs) = true, .bl (bs.any fun z => PyData.eqv z a), S⟩
    | some a, some (.tuple bs) => some ⟨SeqAt.shaped a = true ∧ SeqAt.shaped (.tuple bs) = true, .bl (bs.any fun z => PyData.eqv z a), S⟩
    | _, _ => none)
  | .NotIn => (match den deep S x, den deep S y with
    | some a, some (.list bs) => some ⟨SeqAt.shaped a = true ∧ SeqAt.shaped (.list bs) = true, .bl (!bs.any fun z => PyData.eqv z a), S⟩
    | some a, some (.tuple bs) => some ⟨SeqAt.shaped a = true ∧ SeqAt.shaped (.tuple bs) = true, .bl (!bs.any fun z => PyData.eqv z a), S⟩
    | _, _ => none)

/-- the items of a list or a tuple -/
def seqD (S : Store) : D → Option (List D)
  | .tup ds => some ds
  | .ref l => seqAt S l
  | _ => none

def intsOf : List D → Option (List Int)
  | [] => some []
  | .int i :: r => (match intsOf r with
    | some is => some (i :: is)
    | none => none)
  | _ => none
def boolsOf : List D → Option (List Bool)
  | [] => some []
  | .bl i :: r => (match boolsOf r with
    | some is => some (i :: is)
    | none => none)
  | _ => none

inductive Blt where
  | len | abs | int | max1 | max2 | min2 | list | tuple | sum | all | max4 | any | sorted
  deriving DecidableEq
inductive Ty where
  | int | bool | tuple
  deriving DecidableEq

def maxOf : List Int → Int
  | [] => 0
  | i :: r => r.foldl (fun a b => if b > a then b else a) i

def insI (i : Int) : List Int → List Int
  | [] => [i]
  | j :: r => if i ≤ j then i :: j :: r else j :: insI i r
def sortI : List Int → List Int
  | [] => []
  | i :: r => insI i (sortI r)
def bltR (b : Blt) (ds : List D) (S : Store) : Option Out := match b, ds with
  | .len, [x] => (match seqD S x with
    | some xs => some ⟨True, .int xs.length, S⟩
    | none => none)
  | .abs, [.int i] => some ⟨True, .int (if i < 0 then -i else i), S⟩
  | .int, [.int i] => some ⟨True, .int i, S⟩
  | .int, [.bl k] => some ⟨True, .int (if k then 1 else 0), S⟩
  | .max2, [.int i, .int j] => some ⟨True, .int (if j > i then j else i), S⟩
  | .min2, [.int i, .int j] => some ⟨True, .int (if j < i then j else i), S⟩
  | .max1, [.ref l] => (match seqAt S l with
    | some xs => (match intsOf xs with
      | some (i :: is) => some ⟨True, .int (maxOf (i :: is)), S⟩
      | _ => none)
    | none => none)
  | .sum, [.ref l] => (match seqAt S l with
    | some xs => (match intsOf xs with
      | some is => some ⟨True, .int is.sum, S⟩
      | none => none)
    | none => none)
  | .all, [.ref l] => (match seqAt S l with
    | some xs => (match boolsOf xs with
      | some bs => some ⟨True, .bl (bs.all id), S⟩
      | none => none)
    | none => none)
  | .list, [x] => (match seqD S x with
    | some xs => newL True xs S
    | none => none)
  | .tuple, [x] => (match seqD S x with
    | some xs => some ⟨True, .tup xs, S⟩
    | none => none)
  | .max4, [.int i, .int j, .int k, .int l] => some ⟨True, .int (maxOf [i, j, k, l]), S⟩
  | .any, [.ref l] => (match seqAt S l with
    | some xs => (match intsOf xs with
      | some is => some ⟨True, .bl (is.any (· != 0)), S⟩
      | none => none)
    | none => none)
  | .sorted, [.ref l] => (match seqAt S l with
    | some xs => (match intsOf xs with
      | some is => newL (is.length < 64) ((sortI is).map .int) S
      | none => none)
    | none => none)
  | _, _ => none

def isaR (t : Ty) (x : D) : Option Bool := match t, x with
  | .int, .int _ => some true
  | .int, .bl _ => some true
  | .int, .ref _ => none
  | .int, _ => some false
  | .bool, .bl _ => some true
  | .bool, .ref _ => none
  | .bool, _ => some false
  | .tuple, .tup _ => some true
  | .tuple, .ref _ => none
  | .tuple, _ => some false

inductive Prim where
  | bin (op : Operator) | neg | cmp (op : CmpOp) | tup | lst | idx | slc (lo hi : Bool) | rev | blt (b : Blt) | isa (t : Ty) | app | ins | repr | bits | rng
  deriving DecidableEq

/-- xs[lo:hi] -/
def cutD (xs : List D) (lo hi : Option Int) : List D := (xs.drop (HT.sIx xs.length 0 lo)).take (HT.sIx xs.length xs.length hi - HT.sIx xs.length 0 lo)
def slcR (x : D) (lo hi : Option Int) (S : Store) : Option Out := match x with
  | .ref l => (match seqAt S l with
    | some xs => newL True (cutD xs lo hi) S
    | none => none)
  | .tup ds => if HT.sIx ds.length 0 lo = 0 ∧ HT.sIx ds.length ds.length hi = ds.length then none else some ⟨True, .tup (cutD ds lo hi), S⟩
  | _ => none

def rangeL : Int → Nat → List D
  | _, 0 => []
  | lo, n + 1 => .int lo :: rangeL (lo + 1) n
/-- whether repr is known to give the text of plain data -/
def primR (g : Bool) (p : Prim) (ds : List D) (S : Store) : Option Out := match p, ds with
  | .bin op, [x, y] => binR op x y S
  | .cmp op, [x, y] => cmpR op x y S
  | .neg, [.int i] => some ⟨True, .int (-i), S⟩
  | .tup, ds => some ⟨ds.length ≤ sizeLine, .tup ds, S⟩
  | .lst, ds => newL (ds.length ≤ sizeLine) ds S
  | .idx, [x, .int i] => (match seqD S x with
    | some xs => (match atI xs i with
      | some d => some ⟨True, d, S⟩
      | none => none)
    | none => none)
  | .slc false false, [x] => slcR x none none S
  | .slc true false, [x, .int i] => slcR x (some i) none S
  | .slc false true, [x, .int j] => slcR x none (some j) S
  | .slc true true, [x, .int i, .int j] => slcR x (some i) (some j) S
  | .rev, [.ref l] => (match seqAt S l with
    | some xs => newL True xs.reverse S
    | none => none)
  | .blt b, ds => bltR b ds S
  | .isa t, [x] => (match isaR t x with
    | some b => some ⟨True, .bl b, S⟩
    | none => none)
  | .app, [.ref l, y] => (match S[l]? with
    | some (.lst xs) => some ⟨xs.length < sizeLine, .non, S.set l (.lst (xs ++ [y]))⟩
    | _ => none)
  | .ins, [.ref l, .int i, y] => (match S[l]? with
    | some (.lst xs) => some ⟨xs.length < sizeLine ∧ 0 ≤ i ∧ i < 2 ^ 63, .non, S.set l (.lst (xs.take i.toNat ++ [y] ++ xs.drop i.toNat))⟩
    | _ => none)
  | .repr, [x] => if g then (match den deep S x with
      | some a => some ⟨SeqAt.shaped a = true ∧ PyData.showable a = true ∧ a.shown.length ≤ sizeLine, .str a.shown, S⟩
      | none => none) else none
  | .bits, [.int i] => some ⟨True, .int (Builtin.Int.intBits i : Nat), S⟩
  | .rng, [.int j] => newL (RgOk 0 j) (rangeL 0 j.toNat) S
  | .rng, [.int i, .int j] => newL (RgOk i j) (rangeL i (j - i).toNat) S
  | _, _ => none
def primW (g : Bool) (p : Prim) (ds : List D) (S : Store) (Q : Post) : Prop := match primR g p ds S with
  | some o => o.c ∧ Q o.d o.S
  | none => False

/-! ### what is walked -/
inductive ItK where
  | seq | range | zip | enum
  deriving DecidableEq
/-- the items; the lists that have to stay as they are -/
structure Src where
  xs : List D
  hold : List (Nat × List D)
def Src.ok (w : Src) (S : Store) : Prop := ∀ p ∈ w.hold, seqAt S p.1 = some p.2
def holdOf (S : Store) : D → List (Nat × List D)
  | .ref l => (match seqAt S l with
    | some ds => [(l, ds)]
    | none => [])
  | _ => []
def iterR (k : ItK) (ds : List D) (S : Store) : Option (Prop × Src) := match k with
  | .seq => (match ds with
    | [x] => (match seqD S x with
      | some xs => some (True, ⟨xs, holdOf S x⟩)
      | none => none)
    | _ => none)
  | .range => (match ds with
    | [.int j] => some (-(2 ^ 62) ≤ j ∧ j < 2 ^ 62, ⟨rangeL 0 j.toNat, []⟩)
    | [.int i, .int j] => some (-(2 ^ 62) ≤ i ∧ i < 2 ^ 62 ∧ -(2 ^ 62) ≤ j ∧ j < 2 ^ 62, ⟨rangeL i (j - i).toNat, []⟩)
    | _ => none)
  | .zip => (match ds with
    | [.ref l, .ref m] => (match seqAt S l, seqAt S m with
      | some xs, some ys => some (True, ⟨(xs.zip ys).map fun p => .tup [p.1, p.2], [(l, xs), (m, ys)]⟩)
      | _, _ => none)
    | [.tup xs, .tup ys] => some (True, ⟨(xs.zip ys).map fun p => .tup [p.1, p.2], []⟩)
    | _ => none)
  | .enum => (match ds with
    | [.ref l] => (match seqAt S l with
      | some xs => some (True, ⟨(xs.zipIdx).map fun p => .tup [.int p.2, p.1], [(l, xs)]⟩)
      | none => none)
    | _ => none)

def isI (d : D) : Bool := match d with
  | .int _ => true
  | _ => false
/-- a list that may be written -/
def isL (d : D) (S : Store) : Bool := match d with
  | .ref l => (match S[l]? with
    | some (.lst _) => true
    | _ => false)
  | _ => false
/-! ### the language -/
mutual
inductive Ex where
  | var (i : Nat)
  | const (d : D)
  | glob (x : Str) (d : D)
  | prim (p : Prim) (es : Exs)
  | meth (p : Prim) (o : Ex) (es : Exs)
  | notE (a : Ex)
  | cut (a b c : Ex)
  | fld (cs : List Nat) (o : Ex) (x : Str)
  | prop (tb : List (Nat × Nat)) (o : Ex) (x : Str)
  | make (c f : Nat) (es : Exs)
  | makek (c f : Nat) (es : Exs) (ks : List Str) (kes : Exs) (perm : List Nat)
  | andE (a b : Ex) | orE (a b : Ex) | one (a : Ex)
  | ite (c a b : Ex)
  | chain (op op' : CmpOp) (a b c : Ex)
  | call (f : Nat) (es : Exs)
  | callk (f : Nat) (es : Exs) (ks : List Str) (kes : Exs) (perm : List Nat)
  | comp (elt : Ex) (tg : Tg) (k : ItK) (src : Exs) (cond : Exs) (own : List (Str × Nat))
inductive Exs where
  | nil | cons (a : Ex) (r : Exs)
inductive Tg where
  | name (i : Nat) | tup (ts : Tgs) | sub (o i : Ex)
inductive Tgs where
  | nil | cons (a : Tg) (r : Tgs)
end

abbrev Sd := List (Option D)
def tgsLen : Tgs → Nat
  | .nil => 0
  | .cons _ r => tgsLen r + 1
/-- values by place -/
def pick {α : Type} (xs : List α) : List Nat → Option (List α)
  | [] => some []
  | i :: is => (match xs[i]?, pick xs is with
    | some x, some r => some (x :: r)
    | _, _ => none)
def wipeD (σ : Sd) : List Nat → Sd
  | [] => σ
  | v :: vs => (wipeD σ vs).set v none

/-- what a call of a function wants: number, arguments, store, what is wanted of its value, of an exception -/
abbrev Phi := Nat → List D → Store → Post → EPost → Prop

/-- [.. for .. in items ..], L the new list -/
def compW (w : Src) (L : Nat) (Q : Post) (turn : D → Store → (D → Store → Prop) → (Store → Prop) → Prop) : List D → Store → Prop
  | [], S => w.ok S ∧ Q (.ref L) S
  | x :: xs, S => w.ok S ∧ turn x S (fun d S2 => ∃ acc, S2[L]? = some (.lst acc) ∧ acc.length < sizeLine ∧ compW w L Q turn xs (S2.set L (.lst (acc ++ [d])))) (compW w L Q turn xs)

mutual
def wpE (g : Bool) (φ : Phi) : Ex → Sd → Store → Post → EPost → Prop
  | .var i, σ, S, Q, _ => (match σ[i]? with
    | some (some d) => Q d S
    | _ => False)
  | .const d, _, S, Q, _ => Q d S
  | .glob _ d, _, S, Q, _ => Q d S
  | .prim p es, σ, S, Q, E => wpAs g φ es σ S (fun ds S1 => primW g p ds S1 Q) E
  | .meth p o es, σ, S, Q, E => wpE g φ o σ S (fun d S1 => isL d S1 = true ∧ wpAs g φ es σ S1 (fun ds S2 => primW g p (d :: ds) S2 Q) E) E
  | .cut a b c, σ, S, Q, E => wpE g φ a σ S (fun x S1 => wpE g φ b σ S1 (fun y S2 => isI y = true ∧ wpE g φ c σ S2 (fun z S3 => primW g (.slc true true) [x, y, z] S3 Q) E) E) E
  | .fld cs o x, σ, S, Q, E => wpE g φ o σ S (fun d S1 => match insAt d S1 with
    | some (c, fs) => cs.contains c = true ∧ (match fs.lookup x with
      | some v => Q v S1
      | none => False)
    | none => False) E
  | .prop tb o _, σ, S, Q, E => wpE g φ o σ S (fun d S1 => match insAt d S1 with
    | some (c, _) => (match tb.lookup c with
      | some f => φ f [d] S1 Q (fun _ _ => False)
      | none => False)
    | none => False) E
  | .make c f es, σ, S, Q, E => wpAs g φ es σ S (fun ds S1 => φ f (.ref S1.length :: ds) (S1 ++ [.ins c []]) (fun d S2 => d = .non ∧ Q (.ref S1.length) S2) E) E
  | .makek c f es _ kes perm, σ, S, Q, E => wpAs g φ es σ S (fun ds S1 => wpAs g φ kes σ S1 (fun ks S2 => match pick (ds ++ ks) perm with
    | some rs => φ f (.ref S2.length :: rs) (S2 ++ [.ins c []]) (fun d S3 => d = .non ∧ Q (.ref S2.length) S3) E
    | none => False) E) E
  | .notE a, σ, S, Q, E => wpE g φ a σ S (fun d S1 => match truth d S1 with
    | some b => Q (.bl (!b)) S1
    | none => False) E
  | .andE a b, σ, S, Q, E => wpE g φ a σ S (fun d S1 => match truth d S1 with
    | some true => wpE g φ b σ S1 Q E
    | some false => Q d S1
    | none => False) E
  | .orE a b, σ, S, Q, E => wpE g φ a σ S (fun d S1 => match truth d S1 with
    | some true => Q d S1
    | some false => wpE g φ b σ S1 Q E
    | none => False) E
  | .one a, σ, S, Q, E => wpE g φ a σ S Q E
  | .ite c a b, σ, S, Q, E => wpE g φ c σ S (fun d S1 => match truth d S1 with
    | some true => wpE g φ a σ S1 Q E
    | some false => wpE g φ b σ S1 Q E
    | none => False) E
  | .chain op op' a b c, σ, S, Q, E => wpE g φ a σ S (fun x S1 => wpE g φ b σ S1 (fun y S2 => primW g (.cmp op) [x, y] S2 fun z S3 => match z with
    | .bl true => wpE g φ c σ S3 (fun w S4 => primW g (.cmp op') [y, w] S4 Q) E
    | .bl false => Q (.bl false) S3
    | _ => False) E) E
  | .call f es, σ, S, Q, E => wpAs g φ es σ S (fun ds S1 => φ f ds S1 Q E) E
  | .callk f es _ kes perm, σ, S, Q, E => wpAs g φ es σ S (fun ds S1 => wpAs g φ kes σ S1 (fun ks S2 => match pick (ds ++ ks) perm with
    | some rs => φ f rs S2 Q E
    | none => False) E) E
  | .comp elt tg k src cond own, σ, S, Q, E => wpAs g φ src σ S (fun ds S1 => match iterR k ds S1 with
    | some (c, w) => c ∧ compW w S1.length Q (fun x S2 yes no => wpTg g φ tg x (wipeD σ (own.map (·.2))) S2 (fun σ2 S3 => wpAs g φ cond σ2 S3 (fun bs S4 => match bs with
        | [] => wpE g φ elt σ2 S4 yes (fun _ _ => False)
        | [b] => (match truth b S4 with
          | some true => wpE g φ elt σ2 S4 yes (fun _ _ => False)
          | some false => no S4
          | none => False)
        | _ => False) (fun _ _ => False)) (fun _ _ => False)) w.xs (S1 ++ [.lst []])
    | none => False) E
def wpAs (g : Bool) (φ : Phi) : Exs → Sd → Store → (List D → Store → Prop) → EPost → Prop
  | .nil, _, S, Q, _ => Q [] S
  | .cons a r, σ, S, Q, E => wpE g φ a σ S (fun d S1 => wpAs g φ r σ S1 (fun ds S2 => Q (d :: ds) S2) E) E
def wpTg (g : Bool) (φ : Phi) : Tg → D → Sd → Store → (Sd → Store → Prop) → EPost → Prop
  | .name i, d, σ, S, Q, _ => Q (σ.set i (some d)) S
  | .tup ts, d, σ, S, Q, E => (match seqD S d with
    | some ds => ds.length = tgsLen ts ∧ wpTgs g φ ts ds σ S Q E
    | none => False)
  | .sub o i, d, σ, S, Q, _ => wpE g φ o σ S (fun x S1 => wpE g φ i σ S1 (fun y S2 => match x, y with
    | .ref l, .int k => (match S2[l]? with
      | some (.lst xs) => (match ixN xs.length k with
        | some j => Q σ (S2.set l (.lst (xs.set j d)))
        | none => False)
      | _ => False)
    | _, _ => False) (fun _ _ => False)) (fun _ _ => False)
def wpTgs (g : Bool) (φ : Phi) : Tgs → List D → Sd → Store → (Sd → Store → Prop) → EPost → Prop
  | .nil, [], σ, S, Q, _ => Q σ S
  | .cons t r, d :: ds, σ, S, Q, E => wpTg g φ t d σ S (fun σ1 S1 => wpTgs g φ r ds σ1 S1 Q E) E
  | _, _, _, _, _, _ => False
end

/-! ### statements -/
structure EndsD where
  nx : Sd → Store → Prop
  rt : Post
  bk : Sd → Store → Prop := fun _ _ => False
  ct : Sd → Store → Prop := fun _ _ => False
  ex : Exc → Sd → Store → Prop := fun _ _ _ => False

mutual
inductive Sm where
  | expr (e : Ex)
  | asg (t : Tg) (e : Ex)
  | setc (i : Nat) (e : Ex)
  | par2 (i j : Nat) (es : Exs)
  | par3 (i j l : Nat) (es : Exs)
  | aug (i : Nat) (op : Operator) (e : Ex)
  | ret (e : Ex) | retN
  | setf (cs : List Nat) (o : Ex) (x : Str) (e : Ex)
  | pass
  | ifs (c : Ex) (a b : Sms)
  | whil (c : Ex) (b : Sms)
  | fors (t : Tg) (k : ItK) (src : Exs) (b : Sms)
  | never
inductive Sms where
  | nil | cons (a : Sm) (r : Sms)
end

/-- a loop over items -/
def forW (w : Src) (nx : Sd → Store → Prop) (turn : D → Sd → Store → (Sd → Store → Prop) → Prop) : List D → Sd → Store → Prop
  | [], σ, S => w.ok S ∧ nx σ S
  | x :: xs, σ, S => w.ok S ∧ turn x σ S (forW w nx turn xs)
/-- a while, so many turns at most -/
def whileW (nx : Sd → Store → Prop) (turn : Sd → Store → (Sd → Store → Prop) → (Sd → Store → Prop) → Prop) : Nat → Sd → Store → Prop
  | 0, _, _ => False
  | n + 1, σ, S => turn σ S (whileW nx turn n) nx

mutual
def wpS (g : Bool) (φ : Phi) : Sm → EndsD → Sd → Store → Prop
  | .expr e, D, σ, S => wpE g φ e σ S (fun _ S1 => D.nx σ S1) (fun x S1 => D.ex x σ S1)
  | .asg t e, D, σ, S => wpE g φ e σ S (fun d S1 => wpTg g φ t d σ S1 D.nx (fun x S2 => D.ex x σ S2)) (fun x S1 => D.ex x σ S1)
  | .setc i e, D, σ, S => wpE g φ e σ S (fun d S1 => D.nx (σ.set i (some d)) S1) (fun x S1 => D.ex x σ S1)
  | .par2 i j es, D, σ, S => wpAs g φ es σ S (fun ds S1 => match ds with
    | [a, b] => D.nx ((σ.set i (some a)).set j (some b)) S1
    | _ => False) (fun x S1 => D.ex x σ S1)
  | .par3 i j l es, D, σ, S => wpAs g φ es σ S (fun ds S1 => match ds with
    | [a, b, c] => D.nx (((σ.set i (some a)).set j (some b)).set l (some c)) S1
    | _ => False) (fun x S1 => D.ex x σ S1)
  | .aug i op e, D, σ, S => (match σ[i]? with
    | some (some x) => wpE g φ e σ S (fun y S1 => match op, x, y with
      | .Add, .int a, .int b => D.nx (σ.set i (some (.int (a + b)))) S1
      | .Sub, .int a, .int b => D.nx (σ.set i (some (.int (a - b)))) S1
      | .Mult, .int a, .int b => IntMulOk a b ∧ D.nx (σ.set i (some (.int (a * b)))) S1
      | _, _, _ => False) (fun x S1 => D.ex x σ S1)
    | _ => False)
  | .ret e, D, σ, S => wpE g φ e σ S D.rt (fun x S1 => D.ex x σ S1)
  | .retN, D, σ, S => D.rt .non S
  | .ifs c a b, D, σ, S => wpE g φ c σ S (fun d S1 => match truth d S1 with
    | some true => wpSs g φ a D σ S1
    | some false => wpSs g φ b D σ S1
    | none => False) (fun x S1 => D.ex x σ S1)
  | .whil c b, D, σ, S => ∃ n, whileW D.nx (fun σ S more nx => wpE g φ c σ S (fun d S1 => match truth d S1 with
    | some true => wpSs g φ b { D with nx := more, ct := more, bk := D.nx } σ S1
    | some false => nx σ S1
    | none => False) (fun x S1 => D.ex x σ S1)) n σ S
  | .fors t k src b, D, σ, S => wpAs g φ src σ S (fun ds S1 => match iterR k ds S1 with
    | some (c, w) => c ∧ forW w D.nx (fun x σ S more => wpTg g φ t x σ S (fun σ2 S2 => wpSs g φ b { D with nx := more, ct := more, bk := D.nx } σ2 S2) (fun x S1 => D.ex x σ S1)) w.xs σ S1
    | none => False) (fun x S1 => D.ex x σ S1)
  | .setf cs o x e, D, σ, S => wpE g φ e σ S (fun v S1 => wpE g φ o σ S1 (fun d S2 => match d with
    | .ref l => (match S2[l]? with
      | some (.ins c fs) => cs.contains c = true ∧ fs.length < 1000 ∧ D.nx σ (S2.set l (.ins c (putD x v fs)))
      | _ => False)
    | _ => False) (fun y S2 => D.ex y σ S2)) (fun y S1 => D.ex y σ S1)
  | .pass, D, σ, S => D.nx σ S
  | .never, _, _, _ => False
def wpSs (g : Bool) (φ : Phi) : Sms → EndsD → Sd → Store → Prop
  | .nil, D, σ, S => D.nx σ S
  | .cons a r, D, σ, S => wpS g φ a { D with nx := fun σ1 S1 => wpSs g φ r D σ1 S1 } σ S
end

/-! ### functions -/
structure Fn where
  name : Str
  ps : List Str
  N : List Str
  g : Bool
  body : Sms
  cls : Option Str := none
  prop : Bool := false
def startD (n : Nat) (ds : List D) : Sd := ds.map some ++ List.replicate (n - ds.length) none
def wpF (T : Nat → Option Fn) : Nat → Phi
  | 0 => fun _ _ _ _ _ => False
  | k + 1 => fun f ds S Q E => match T f with
    | some fn => ds.length = fn.ps.length ∧ wpSs fn.g (wpF T k) fn.body { nx := fun _ S1 => Q .non S1, rt := Q, ex := fun x _ S1 => E x S1 } (startD fn.N.length ds) S
    | none => False
end CC
/-! What is wanted may be weakened. -/
namespace CC
open PySem L2

def PhiMono (φ : Phi) : Prop := ∀ (f : Nat) (ds : List D) (S : Store) (Q Q' : Post) (E E' : EPost), (∀ d S1, Q d S1 → Q' d S1) → (∀ x S1, E x S1 → E' x S1) → φ f ds S Q E → φ f ds S Q' E'

theorem primW_mono {g : Bool} {p : Prim} {ds : List D} {S : Store} {Q Q' : Post} (h : ∀ d S1, Q d S1 → Q' d S1) (w : primW g p ds S Q) : primW g p ds S Q' := by
  unfold primW at w ⊢
  split at w
  · exact ⟨w.1, h _ _ w.2⟩
  · exact w

theorem compW_mono {w : Src} {L : Nat} {Q Q' : Post} {t t' : D → Store → (D → Store → Prop) → (Store → Prop) → Prop} (hQ : ∀ d S1, Q d S1 → Q' d S1)
    (ht : ∀ x S y y' n n', (∀ d S1, y d S1 → y' d S1) → (∀ S1, n S1 → n' S1) → t x S y n → t' x S y' n') : ∀ (xs : List D) (S : Store), compW w L Q t xs S → compW w L Q' t' xs S
  | [], S, h => ⟨h.1, hQ _ _ h.2⟩
  | x :: xs, S, h => ⟨h.1, ht x S _ _ _ _ (fun d S1 ⟨acc, a, b, c⟩ => ⟨acc, a, b, compW_mono hQ ht xs _ c⟩) (fun S1 c => compW_mono hQ ht xs _ c) h.2⟩

section
variable {g : Bool} {φ : Phi} (hφ : PhiMono φ)
include hφ
mutual
theorem wpE_mono : ∀ (m : Ex) {σ : Sd} {S : Store} {Q Q' : Post} {E E' : EPost}, (∀ d S1, Q d S1 → Q' d S1) → (∀ x S1, E x S1 → E' x S1) → wpE g φ m σ S Q E → wpE g φ m σ S Q' E'
  | .var i, σ, S, Q, Q', E, E', hQ, hE, h => by
    simp only [wpE] at h ⊢
    split at h
    · exact hQ _ _ h
    · exact h
  | .const d, σ, S, Q, Q', E, E', hQ, hE, h => by
    simp only [wpE] at h ⊢
    exact hQ _ _ h
  | .glob x d, σ, S, Q, Q', E, E', hQ, hE, h => by
    simp only [wpE] at h ⊢
    exact hQ _ _ h
  | .prim p es, σ, S, Q, Q', E, E', hQ, hE, h => by
    simp only [wpE] at h ⊢
    exact wpAs_mono es (fun ds S1 q => primW_mono hQ q) hE h
  | .meth p o es, σ, S, Q, Q', E, E', hQ, hE, h => by
    simp only [wpE] at h ⊢
    exact wpE_mono o (fun d S1 q => ⟨q.1, wpAs_mono es (fun ds S2 q => primW_mono hQ q) hE q.2⟩) hE h
  | .cut a b c, σ, S, Q, Q', E, E', hQ, hE, h => by
    simp only [wpE] at h ⊢
    exact wpE_mono a (fun x S1 q => wpE_mono b (fun y S2 q => ⟨q.1, wpE_mono c (fun z S3 q => primW_mono hQ q) hE q.2⟩) hE q) hE h
  | .fld cs o x, σ, S, Q, Q', E, E', hQ, hE, h => by
    simp only [wpE] at h ⊢
    refine wpE_mono o (fun d S1 q => ?_) hE h
    split at q
    · refine ⟨q.1, ?_⟩
      have q := q.2
      split at q
      · exact hQ _ _ q
      · exact q
    · exact q
  | .prop tb o x, σ, S, Q, Q', E, E', hQ, hE, h => by
    simp only [wpE] at h ⊢
    refine wpE_mono o (fun d S1 q => ?_) hE h
    split at q
    · split at q
      · exact hφ _ _ _ _ _ _ _ hQ (fun _ _ z => z) q
      · exact q
    · exact q
  | .make c f es, σ, S, Q, Q', E, E', hQ, hE, h => by
    simp only [wpE] at h ⊢
    exact wpAs_mono es (fun ds S1 q => hφ _ _ _ _ _ _ _ (fun d S2 q => ⟨q.1, hQ _ _ q.2⟩) hE q) hE h
  | .makek c f es ks kes perm, σ, S, Q, Q', E, E', hQ, hE, h => by
    simp only [wpE] at h ⊢
    refine wpAs_mono es (fun ds S1 q => wpAs_mono kes (fun ks S2 q => ?_) hE q) hE h
    split at q
    · exact hφ _ _ _ _ _ _ _ (fun d S2 q => ⟨q.1, hQ _ _ q.2⟩) hE q
    · exact q
  | .notE a, σ, S, Q, Q', E, E', hQ, hE, h => by
    simp only [wpE] at h ⊢
    refine wpE_mono a (fun d S1 q => ?_) hE h
    split at q
    · exact hQ _ _ q
    · exact q
  | .andE a b, σ, S, Q, Q', E, E', hQ, hE, h => by
    simp only [wpE] at h ⊢
    refine wpE_mono a (fun d S1 q => ?_) hE h
    split at q
    · exact wpE_mono b hQ hE q
    · exact hQ _ _ q
    · exact q
  | .orE a b, σ, S, Q, Q', E, E', hQ, hE, h => by
    simp only [wpE] at h ⊢
    refine wpE_mono a (fun d S1 q => ?_) hE h
    split at q
    · exact hQ _ _ q
    · exact wpE_mono b hQ hE q
    · exact q
  | .one a, σ, S, Q, Q', E, E', hQ, hE, h => by
    simp only [wpE] at h ⊢
    exact wpE_mono a hQ hE h
  | .ite c a b, σ, S, Q, Q', E, E', hQ, hE, h => by
    simp only [wpE] at h ⊢
    refine wpE_mono c (fun d S1 q => ?_) hE h
    split at q
    · exact wpE_mono a hQ hE q
    · exact wpE_mono b hQ hE q
    · exact q
  | .chain op op' a b c, σ, S, Q, Q', E, E', hQ, hE, h => by
    simp only [wpE] at h ⊢
    refine wpE_mono a (fun x S1 q => wpE_mono b (fun y S2 q => primW_mono (fun z S3 q => ?_) q) hE q) hE h
    split at q
    · exact wpE_mono c (fun w S4 q => primW_mono hQ q) hE q
    · exact hQ _ _ q
    · exact q
  | .call f es, σ, S, Q, Q', E, E', hQ, hE, h => by
    simp only [wpE] at h ⊢
    exact wpAs_mono es (fun ds S1 q => hφ _ _ _ _ _ _ _ hQ hE q) hE h
  | .callk f es ks kes perm, σ, S, Q, Q', E, E', hQ, hE, h => by
    simp only [wpE] at h ⊢
    refine wpAs_mono es (fun ds S1 q => wpAs_mono kes (fun ks S2 q => ?_) hE q) hE h
    split at q
    · exact hφ _ _ _ _ _ _ _ hQ hE q
    · exact q
  | .comp elt tg k src cond own, σ, S, Q, Q', E, E', hQ, hE, h => by
    simp only [wpE] at h ⊢
    refine wpAs_mono src (fun ds S1 q => ?_) hE h
    split at q
    · refine ⟨q.1, compW_mono hQ (fun x S2 y y' n n' hy hn t => ?_) _ _ q.2⟩
      refine wpTg_mono tg (fun σ2 S3 t => wpAs_mono cond (fun bs S4 t => ?_) (fun _ _ z => z) t) (fun _ _ z => z) t
      split at t
      · exact wpE_mono elt hy (fun _ _ z => z) t
      · split at t
        · exact wpE_mono elt hy (fun _ _ z => z) t
        · exact hn _ t
        · exact t
      · exact t
    · exact q
theorem wpAs_mono : ∀ (es : Exs) {σ : Sd} {S : Store} {Q Q' : List D → Store → Prop} {E E' : EPost}, (∀ d S1, Q d S1 → Q' d S1) → (∀ x S1, E x S1 → E' x S1) → wpAs g φ es σ S Q E → wpAs g φ es σ S Q' E'
  | .nil, σ, S, Q, Q', E, E', hQ, hE, h => by
    simp only [wpAs] at h ⊢
    exact hQ _ _ h
  | .cons a r, σ, S, Q, Q', E, E', hQ, hE, h => by
    simp only [wpAs] at h ⊢
    exact wpE_mono a (fun d S1 q => wpAs_mono r (fun ds S2 q => hQ _ _ q) hE q) hE h
theorem wpTg_mono : ∀ (t : Tg) {d : D} {σ : Sd} {S : Store} {Q Q' : Sd → Store → Prop} {E E' : EPost}, (∀ σ1 S1, Q σ1 S1 → Q' σ1 S1) → (∀ x S1, E x S1 → E' x S1) → wpTg g φ t d σ S Q E → wpTg g φ t d σ S Q' E'
  | .name i, d, σ, S, Q, Q', E, E', hQ, hE, h => by
    simp only [wpTg] at h ⊢
    exact hQ _ _ h
  | .tup ts, d, σ, S, Q, Q', E, E', hQ, hE, h => by
    simp only [wpTg] at h ⊢
    split at h
    · exact ⟨h.1, wpTgs_mono ts hQ hE h.2⟩
    · exact h
  | .sub o i, d, σ, S, Q, Q', E, E', hQ, hE, h => by
    simp only [wpTg] at h ⊢
    refine wpE_mono o (fun x S1 q => wpE_mono i (fun y S2 q => ?_) (fun _ _ z => z) q) (fun _ _ z => z) h
    split at q
    · split at q
      · split at q
        · exact hQ _ _ q
        · exact q
      · exact q
    · exact q
theorem wpTgs_mono : ∀ (t : Tgs) {ds : List D} {σ : Sd} {S : Store} {Q Q' : Sd → Store → Prop} {E E' : EPost}, (∀ σ1 S1, Q σ1 S1 → Q' σ1 S1) → (∀ x S1, E x S1 → E' x S1) → wpTgs g φ t ds σ S Q E → wpTgs g φ t ds σ S Q' E'
  | .nil, [], σ, S, Q, Q', E, E', hQ, hE, h => by
    simp only [wpTgs] at h ⊢
    exact hQ _ _ h
  | .cons t r, d :: ds, σ, S, Q, Q', E, E', hQ, hE, h => by
    simp only [wpTgs] at h ⊢
    exact wpTg_mono t (fun σ1 S1 q => wpTgs_mono r hQ hE q) hE h
  | .nil, _ :: _, σ, S, Q, Q', E, E', hQ, hE, h => by simp only [wpTgs] at h
  | .cons _ _, [], σ, S, Q, Q', E, E', hQ, hE, h => by simp only [wpTgs] at h
end

/-- what is wanted behind a statement is less -/
structure EndsD.Le (D D' : EndsD) : Prop where
  nx : ∀ σ S, D.nx σ S → D'.nx σ S
  rt : ∀ d S, D.rt d S → D'.rt d S
  bk : ∀ σ S, D.bk σ S → D'.bk σ S
  ct : ∀ σ S, D.ct σ S → D'.ct σ S
  ex : ∀ x σ S, D.ex x σ S → D'.ex x σ S

omit hφ in
theorem forW_mono {w : Src} {nx nx' : Sd → Store → Prop} {t t' : D → Sd → Store → (Sd → Store → Prop) → Prop} (hn : ∀ σ S, nx σ S → nx' σ S)
    (ht : ∀ x σ S m m', (∀ σ1 S1, m σ1 S1 → m' σ1 S1) → t x σ S m → t' x σ S m') : ∀ (xs : List D) (σ : Sd) (S : Store), forW w nx t xs σ S → forW w nx' t' xs σ S
  | [], σ, S, h => ⟨h.1, hn _ _ h.2⟩
  | x :: xs, σ, S, h => ⟨h.1, ht x σ S _ _ (fun σ1 S1 q => forW_mono hn ht xs σ1 S1 q) h.2⟩
omit hφ in
theorem whileW_mono {nx nx' : Sd → Store → Prop} {t t' : Sd → Store → (Sd → Store → Prop) → (Sd → Store → Prop) → Prop} (hn : ∀ σ S, nx σ S → nx' σ S)
    (ht : ∀ σ S m m' n n', (∀ σ1 S1, m σ1 S1 → m' σ1 S1) → (∀ σ1 S1, n σ1 S1 → n' σ1 S1) → t σ S m n → t' σ S m' n') : ∀ (k : Nat) (σ : Sd) (S : Store), whileW nx t k σ S → whileW nx' t' k σ S
  | 0, _, _, h => h
  | k + 1, σ, S, h => ht σ S _ _ _ _ (fun σ1 S1 q => whileW_mono hn ht k σ1 S1 q) hn h

mutual
theorem wpS_mono : ∀ (m : Sm) {D D' : EndsD} {σ : Sd} {S : Store}, D.Le D' → wpS g φ m D σ S → wpS g φ m D' σ S
  | .expr e, D, D', σ, S, l, h => by
    simp only [wpS] at h ⊢
    exact wpE_mono hφ e (fun _ _ q => l.nx _ _ q) (fun _ _ q => l.ex _ _ _ q) h
  | .asg t e, D, D', σ, S, l, h => by
    simp only [wpS] at h ⊢
    exact wpE_mono hφ e (fun _ _ q => wpTg_mono hφ t l.nx (fun _ _ q => l.ex _ _ _ q) q) (fun _ _ q => l.ex _ _ _ q) h
  | .setc i e, D, D', σ, S, l, h => by
    simp only [wpS] at h ⊢
    exact wpE_mono hφ e (fun _ _ q => l.nx _ _ q) (fun _ _ q => l.ex _ _ _ q) h
  | .par2 i j es, D, D', σ, S, l, h => by
    simp only [wpS] at h ⊢
    refine wpAs_mono hφ es (fun ds S1 q => ?_) (fun _ _ q => l.ex _ _ _ q) h
    split at q
    · exact l.nx _ _ q
    · exact q
  | .par3 i j k es, D, D', σ, S, l, h => by
    simp only [wpS] at h ⊢
    refine wpAs_mono hφ es (fun ds S1 q => ?_) (fun _ _ q => l.ex _ _ _ q) h
    split at q
    · exact l.nx _ _ q
    · exact q
  | .aug i op e, D, D', σ, S, l, h => by
    simp only [wpS] at h ⊢
    split at h
    · refine wpE_mono hφ e (fun y S1 q => ?_) (fun _ _ q => l.ex _ _ _ q) h
      split at q
      · exact l.nx _ _ q
      · exact l.nx _ _ q
      · exact ⟨q.1, l.nx _ _ q.2⟩
      · exact q
    · exact h
  | .ret e, D, D', σ, S, l, h => by
    simp only [wpS] at h ⊢
    exact wpE_mono hφ e l.rt (fun _ _ q => l.ex _ _ _ q) h
  | .retN, D, D', σ, S, l, h => by
    simp only [wpS] at h ⊢
    exact l.rt _ _ h
  | .ifs c a b, D, D', σ, S, l, h => by
    simp only [wpS] at h ⊢
    refine wpE_mono hφ c (fun d S1 q => ?_) (fun _ _ q => l.ex _ _ _ q) h
    split at q
    · exact wpSs_mono a l q
    · exact wpSs_mono b l q
    · exact q
  | .whil c b, D, D', σ, S, l, h => by
    simp only [wpS] at h ⊢
    obtain ⟨n, h⟩ := h
    refine ⟨n, whileW_mono l.nx (fun σ S m m' nx nx' hm hn t => ?_) n σ S h⟩
    refine wpE_mono hφ c (fun d S1 q => ?_) (fun _ _ q => l.ex _ _ _ q) t
    split at q
    · refine wpSs_mono b ?_ q
      exact ⟨hm, l.rt, l.nx, hm, l.ex⟩
    · exact hn _ _ q
    · exact q
  | .fors t k src b, D, D', σ, S, l, h => by
    simp only [wpS] at h ⊢
    refine wpAs_mono hφ src (fun ds S1 q => ?_) (fun _ _ q => l.ex _ _ _ q) h
    split at q
    · refine ⟨q.1, forW_mono l.nx (fun x σ S m m' hm t' => ?_) _ _ _ q.2⟩
      exact wpTg_mono hφ t (fun σ2 S2 q => by
        refine wpSs_mono b ?_ q
        exact ⟨hm, l.rt, l.nx, hm, l.ex⟩) (fun _ _ q => l.ex _ _ _ q) t'
    · exact q
  | .setf cs o x e, D, D', σ, S, l, h => by
    simp only [wpS] at h ⊢
    refine wpE_mono hφ e (fun v S1 q => wpE_mono hφ o (fun d S2 q => ?_) (fun _ _ q => l.ex _ _ _ q) q) (fun _ _ q => l.ex _ _ _ q) h
    split at q
    · split at q
      · exact ⟨q.1, q.2.1, l.nx _ _ q.2.2⟩
      · exact q
    · exact q
  | .pass, D, D', σ, S, l, h => by
    simp only [wpS] at h ⊢
    exact l.nx _ _ h
  | .never, D, D', σ, S, l, h => by simp only [wpS] at h
theorem wpSs_mono : ∀ (m : Sms) {D D' : EndsD} {σ : Sd} {S : Store}, D.Le D' → wpSs g φ m D σ S → wpSs g φ m D' σ S
  | .nil, D, D', σ, S, l, h => by
    simp only [wpSs] at h ⊢
    exact l.nx _ _ h
  | .cons a r, D, D', σ, S, l, h => by
    simp only [wpSs] at h ⊢
    refine wpS_mono a ?_ h
    exact ⟨fun _ _ q => wpSs_mono r l q, l.rt, l.bk, l.ct, l.ex⟩
end
end

theorem wpF_mono (T : Nat → Option Fn) : ∀ k, PhiMono (wpF T k)
  | 0 => fun _ _ _ _ _ _ _ _ _ h => h
  | k + 1 => fun f ds S Q Q' E E' hQ hE h => by
    simp only [wpF] at h ⊢
    split at h
    · refine ⟨h.1, wpSs_mono (wpF_mono T k) _ ?_ h.2⟩
      exact ⟨fun _ S q => hQ _ _ q, hQ, fun _ _ q => q, fun _ _ q => q, fun x _ S q => hE _ _ q⟩
    · exact h
end CC
/-! The operations are those of the model. -/
namespace CC
open L2 PySem PySem.Spec PyProof.Rows

/-- what is wanted of a value of the layer, as what is wanted of plain data -/
def QL (K : PySem.W.Frag) (ca : Nat → Addr) (Q : VK) (ι : List Addr) (H : Hp) : Post := fun d S' =>
  ∀ ι' H' v, Ext K ι H ι' H' → Rep K ca ι' S' H' → RelD K ι' H' d v → Q v H'
theorem QL.of {K : PySem.W.Frag} {ca : Nat → Addr} {Q : VK} {ι ι' : List Addr} {H H' : Hp} (x : Ext K ι H ι' H') {d : D} {S : Store} (h : QL K ca Q ι H d S) : QL K ca Q ι' H' d S :=
  fun ι2 H2 v y R r => h ι2 H2 v (x.trans y) R r

/-- an operation, by values of the layer -/
def rP (K : PySem.W.Frag) (ca : Nat → Addr) (g : Bool) (p : Prim) : List V → Hp → VK → Prop := fun xs H Q =>
  ∃ ι S ds o, Rep K ca ι S H ∧ RelDs K ι H ds xs ∧ primR g p ds S = some o ∧ o.c ∧ QL K ca Q ι H o.d o.S

section
variable {K : PySem.W.Frag} {ca : Nat → Addr} {ι : List Addr} {H : Hp} {S : Store} {Q : VK} {d : D} {v : V}
theorem Rel1 {d : D} {x : V} (h : RelDs K ι H [d] [x]) : RelD K ι H d x := by
  cases h with
  | cons a b => exact a
theorem Rel2 {d e : D} {x y : V} (h : RelDs K ι H [d, e] [x, y]) : RelD K ι H d x ∧ RelD K ι H e y := by
  cases h with
  | cons a b => exact ⟨a, Rel1 b⟩
/-- a value in the same store -/
theorem QL.same (h : QL K ca Q ι H d S) (R : Rep K ca ι S H) (r : RelD K ι H d v) : Q v H := h ι H v Ext.refl R r
/-- a new list -/
theorem QL.new {ds : List D} {vs : List V} (h : QL K ca Q ι H (.ref S.length) (S ++ [.lst ds])) (R : Rep K ca ι S H) (r : RelDs K ι H ds vs) : ∀ p, H p = none → Q (.ref p) (upd H p (.lst vs)) := fun p hp =>
  h (ι ++ [p]) _ _ (Ext.push hp) (R.pushLst hp r) (.ref (by rw [← R.len]; simp))
/-- a new tuple -/
theorem QL.newT {ds : List D} {vs : List V} (h : QL K ca Q ι H (.tup ds) S) (R : Rep K ca ι S H) (r : RelDs K ι H ds vs) : ∀ p, H p = none → Q (.ref p) (upd H p (.tup vs)) := fun p hp =>
  h ι _ _ (Ext.laid hp) (R.laid hp) (.tup (.inl (.inl upd_same)) (r.mono (Ext.laid hp)))
/-- a list written -/
theorem QL.wrote {l : Nat} {a : Addr} {ds0 ds : List D} {vs vs0 : List V} (h : QL K ca Q ι H d (S.set l (.lst ds))) (R : Rep K ca ι S H) (h1 : S[l]? = some (.lst ds0)) (h2 : ι[l]? = some a) (h3 : H a = some (.lst vs0)) (r : RelDs K ι H ds vs) (rd : RelD K ι H d v) : Q v (upd H a (.lst vs)) :=
  h ι _ v (Ext.wrote h3 trivial) (R.setLst h1 h2 r) (rd.mono (Ext.wrote h3 trivial))
theorem RelDs.flat {ds : List D} {vs : List V} (r : RelDs K ι H ds vs) : ∀ k : Nat, RelDs K ι H (List.replicate k ds).flatten (List.replicate k vs).flatten
  | 0 => .nil
  | k + 1 => by
    rw [List.replicate_succ, List.replicate_succ, List.flatten_cons, List.flatten_cons]
    exact r.append (RelDs.flat r k)

/-! ### data -/
theorem dpAll_of {f : D → Option PyData} (h : ∀ d v pd, f d = some pd → RelD K ι H d v → Dp K H v pd) : ∀ {ds : List D} {vs : List V} {es : List PyData}, denL f ds = some es → RelDs K ι H ds vs → DpAll K H vs es
  | [], _, _, e, .nil => by
    cases e
    exact .nil
  | d :: ds, _, es, e, .cons a b => by
    unfold denL at e
    split at e
    · rename_i e1 e2 h1 h2
      cases e
      exact .cons (h _ _ _ h1 a) (dpAll_of h h2 b)
    · cases e
theorem dp_of (R : Rep K ca ι S H) : ∀ (n : Nat) (d : D) (v : V) (pd : PyData), den n S d = some pd → RelD K ι H d v → Dp K H v pd
  | 0, d, v, pd, e, r => by
    unfold den at e
    cases r with
    | non => cases e; exact .non
    | bl b => cases e; exact .bl b
    | int i => cases e; exact .int i
    | str x => cases e; exact .str x
    | tup _ _ => cases e
    | ref _ => cases e
  | n + 1, d, v, pd, e, r => by
    unfold den at e
    cases r with
    | non => cases e; exact .non
    | bl b => cases e; exact .bl b
    | int i => cases e; exact .int i
    | str x => cases e; exact .str x
    | tup h a =>
      dsimp only at e
      split at e
      · rename_i es h1
        cases e
        exact .tup h (dpAll_of (dp_of R n) h1 a)
      · cases e
    | @ref l a h =>
      dsimp only at e
      split at e
      · rename_i ds h1
        split at e
        · rename_i es h2
          cases e
          obtain ⟨b, vs, e1, e2, e3⟩ := R.seq h1 (.ref h)
          cases e1
          exact .lst e2 (dpAll_of (dp_of R n) h2 e3)
        · cases e
      · cases e
end

section
variable {X : Cx} {ca : Nat → Addr} {g : Bool}
abbrev rP2 (K : PySem.W.Frag) (ca : Nat → Addr) (g : Bool) (p : Prim) : R2 := fun x y H Q => rP K ca g p [x, y] H Q

theorem op_bin (op : Operator) : OpR X (binaryOp op) (rP2 X.K ca g (.bin op)) := by
  intro pins s σ H x y v u Q I rx ry ⟨ι, S, ds, o, R, r, ho, hc, hq⟩
  cases r with
  | cons r1 r =>
    cases r with
    | cons r2 r =>
      cases r
      simp only [primR] at ho
      unfold binR at ho
      split at ho
      · cases ho; cases r1; cases r2
        exact op_add pins s σ H _ _ v u Q I rx ry ⟨_, _, rfl, rfl, hq.same R (.int _)⟩
      · split at ho
        · rename_i l m a b h1 h2
          cases ho
          obtain ⟨p1, v1, rfl, _, e1, f1⟩ := R.lst h1 r1
          obtain ⟨p2, v2, rfl, _, e2, f2⟩ := R.lst h2 r2
          exact op_cat pins s σ H _ _ v u Q I rx ry ⟨_, _, _, _, rfl, rfl, e1, e2, by rw [← f1.length, ← f2.length]; exact hc, hq.new R (f1.append f2)⟩
        · cases ho
      · cases ho; cases r1; cases r2
        exact op_add_str pins s σ H _ _ v u Q I rx ry ⟨_, _, rfl, rfl, hc, hq.same R (.str _)⟩
      · cases ho; cases r1; cases r2
        exact op_sub pins s σ H _ _ v u Q I rx ry ⟨_, _, rfl, rfl, hq.same R (.int _)⟩
      · cases ho; cases r1; cases r2
        exact (opI (C := IntMulOk) (g := fun i j => i * j) fun i j t u Q s E hc q => mul_int q hc) pins s σ H _ _ v u Q I rx ry ⟨_, _, rfl, rfl, hc, hq.same R (.int _)⟩
      · split at ho
        · rename_i l k a h1
          cases ho; cases r2
          obtain ⟨p1, v1, rfl, _, e1, f1⟩ := R.lst h1 r1
          exact op_rep pins s σ H _ _ v u Q I rx ry ⟨_, _, _, rfl, rfl, e1, hc.1, hc.2.1, by rw [← f1.length]; exact hc.2.2, hq.new R (f1.flat _)⟩
        · cases ho
      · cases ho; cases r1; cases r2
        exact (opI (C := fun i j => j ≠ 0 ∧ DivOk i j) (g := fun i j => i.fdiv j) fun i j t u Q s E hc q => floordiv_int hc.1 q (.inl hc.2)) pins s σ H _ _ v u Q I rx ry ⟨_, _, rfl, rfl, hc, hq.same R (.int _)⟩
      · cases ho; cases r1; cases r2
        exact op_modN pins s σ H _ _ v u Q I rx ry ⟨_, _, rfl, rfl, hc, hq.same R (.int _)⟩
      · cases ho; cases r1; cases r2
        exact (opI (C := fun i j => 0 ≤ j ∧ (Builtin.Int.intBits i : Int) * j ≤ 2 ^ 27) (g := fun i j => i ^ j.toNat) fun i j t u Q s E hc q => pow_int hc.1 hc.2 q) pins s σ H _ _ v u Q I rx ry ⟨_, _, rfl, rfl, hc, hq.same R (.int _)⟩
      · cases ho; cases r1; cases r2
        exact op_shlW pins s σ H _ _ v u Q I rx ry ⟨_, _, rfl, rfl, hc, hq.same R (.int _)⟩
      · cases ho
end
end CC
/-! max of four, any of ints. -/
namespace CC
open PyProof.Rows PySem PySem.Spec L2
section
variable {prog : Program} {w : World} {A : Around} {E : Value → Shared → Prop} {s : Shared}
theorem args_max4 (a b c d : Value) : argsOk "max" ⟨[a, b, c, d], []⟩ := by unfold argsOk; kernel_rfl
theorem max_four {a b c d : Value} {Q : Value → Shared → Prop}
    (h : wpAny (model prog w) A.in1 (pyIter (.ref s.heap.objs.size)) (fun it s₂ => ∃ I fp wr n P St bt, it = .ref I ∧ Walks prog w A.in1 I fp wr n P St ∧ St 0 s₂.heap ∧ (∀ b ∈ fp, b < s₂.heap.objs.size) ∧ 0 < n ∧ CmpOf prog w A.in1 .Gt P bt ∧
      ∀ v h' tk, P (argBest bt (n - 1)) v → (∀ b o, b ∉ wr → s₂.heap.get? b = some o → h'.get? b = some o) → Q v { s₂ with heap := h', toks := tk }) E
      { s with heap := s.heap.push { cls := .type "tuple", data := .seq #[a, b, c, d] } }) :
    wpAny (model prog w) A (call (.builtin "max") [a, b, c, d]) Q E s := by
  have hl : (toString "max" ++ toString ".loop" : String) = "max.loop" := by decide
  refine call_function_tree F.kind_max F.plain_max F.entry_max (args_max4 a b c d) ?_
  show wpAny _ A.in1 (Builtin.Builtins.bindParams "max" ["key", "default"] 0 ⟨[], []⟩ >>= _) _ _ s
  refine wpAny_bind (wpAny_of_eq (show Builtin.Builtins.bindParams "max" ["key", "default"] 0 ⟨[], []⟩ = pure [none, none] from rfl) ?_)
  show wpAny _ A.in1 (newTuple [a, b, c, d] >>= _) _ _ s
  refine wpAny_bind (wpAny_newObj_type (wpAny_bind (wpAny_mono h (fun it s₂ h₂ => ?_) fun _ _ e => e)))
  obtain ⟨I, fp, wr, n, P, St, bt, rfl, W, hst, hfp, hn, hcmp, hQ⟩ := h₂
  refine wpAny_bind (wpAny_newObj_type ?_)
  have hS : s₂.heap.objs.size ∉ fp := fun hm => Nat.lt_irrefl _ (hfp _ hm)
  rw [hl]
  exact wpAny_pure ⟨plainId_quiet F.plain_max_loop _, codeAny_max_loop_first W bt hcmp s₂.heap.objs.size hS hn (W.frame _ _ _ hst fun b _ o e => Heap.get?_push_of_some _ e) (Heap.get?_push_size _ rfl) fun v h' tk hP hk =>
    hQ v h' tk hP fun b o hb e => hk b o hb (Nat.ne_of_lt (Heap.lt_size e)) (Heap.get?_push_of_some _ e)⟩
theorem max_ints4 {a b c d : Int} {t u x y : Tok} {Q : Value → Shared → Prop} (hh : A.handled = none)
    (h : ∀ h' tk M t', (∀ d o, s.heap.get? d = some o → h'.get? d = some o) → (M = a ∨ M = b ∨ M = c ∨ M = d) → a ≤ M → b ≤ M → c ≤ M → d ≤ M → Q (.int M t') { s with heap := h', toks := tk }) :
    wpAny (model prog w) A (call (.builtin "max") [.int a t, .int b u, .int c x, .int d y]) Q E s := by
  have hT : (s.heap.push { cls := .type "tuple", data := .seq #[.int a t, .int b u, .int c x, .int d y] }).IsTuple s.heap.objs.size (intItems #[(a, t), (b, u), (c, x), (d, y)]) := ⟨_, Heap.get?_push_size _ rfl, rfl, 0, by simp [intItems]⟩
  refine max_four (wpAny_pyIter_tuple hT ?_)
  have hsz : (s.heap.push { cls := .type "tuple", data := .seq #[.int a t, .int b u, .int c x, .int d y] }).objs.size = s.heap.objs.size + 1 := Heap.size_push ..
  refine ⟨_, [_, s.heap.objs.size], [_], _, _, _, _, rfl, Walks.tuple (A := A.in1) hh _ s.heap.objs.size (by rw [hsz]; exact Nat.ne_of_lt (Nat.lt_succ_self _)) (intItems #[(a, t), (b, u), (c, x), (d, y)]),
    ⟨⟨_, Heap.get?_push_size _ rfl, rfl, rfl⟩, hT.push _⟩, fun d hd => ?_, by simp [intItems], CmpOf.ints_gt (numAt #[(a, t), (b, u), (c, x), (d, y)]) (fun _ _ => intItems_at), fun v h' tk hP hk => ?_⟩
  · show d < ((s.heap.push _).push _).objs.size
    rw [Heap.size_push, hsz]
    simp only [List.mem_cons, List.not_mem_nil, or_false] at hd
    rcases hd with rfl | rfl
    · rw [hsz]
      exact Nat.lt_succ_self _
    · exact Nat.lt_succ_of_lt (Nat.lt_succ_self _)
  · have old : ∀ d o, s.heap.get? d = some o → h'.get? d = some o := fun d o e => by
      refine hk d o (fun hm => ?_) (Heap.get?_push_of_some _ (Heap.get?_push_of_some _ e))
      have e2 := Heap.lt_size e
      simp only [List.mem_cons, List.not_mem_nil, or_false] at hm
      rw [hm, hsz] at e2
      exact Nat.lt_irrefl _ (Nat.lt_of_succ_lt e2)
    obtain ⟨t', rfl⟩ := intItems_at hP
    obtain ⟨h1, h2⟩ := argBest_gt (numAt #[(a, t), (b, u), (c, x), (d, y)]) ((intItems #[(a, t), (b, u), (c, x), (d, y)]).size - 1)
    have hs : (intItems #[(a, t), (b, u), (c, x), (d, y)]).size - 1 = 3 := by simp [intItems]
    rw [hs] at h1 h2 ⊢
    generalize argBest (fun i j => decide (numAt #[(a, t), (b, u), (c, x), (d, y)] i > numAt #[(a, t), (b, u), (c, x), (d, y)] j)) 3 = m at h1 h2 ⊢
    refine h h' tk _ t' old ?_ (h2 0 (by omega)) (h2 1 (by omega)) (h2 2 (by omega)) (h2 3 (by omega))
    match m, h1 with
    | 0, _ => exact .inl rfl
    | 1, _ => exact .inr (.inl rfl)
    | 2, _ => exact .inr (.inr (.inl rfl))
    | 3, _ => exact .inr (.inr (.inr rfl))
    | n + 4, h => omega
theorem ints_at : ∀ {its : List Value} {ns : List Int} {i : Nat} {v : Value}, IntsAre its ns → its[i]? = some v → ∃ n t, ns[i]? = some n ∧ v = .int n t
  | _, _, 0, _, .cons n t r, h => ⟨n, t, rfl, by simpa using h.symm⟩
  | _, _, i + 1, v, .cons n t r, h => by
    obtain ⟨m, u, e1, e2⟩ := ints_at (i := i) (v := v) r (by simpa using h)
    exact ⟨m, u, by simpa using e1, e2⟩
theorem truth_nums {ns : List Int} {its : List Value} (e : IntsAre its ns) :
    TruthOf prog w A (fun i v => its.toArray[i]? = some v) (fun i => ns.getD i 0 != 0) := fun i v s Q E hv hq => by
  have hv' : its[i]? = some v := by simpa using hv
  obtain ⟨n, t, e1, rfl⟩ := ints_at e hv'
  have hg : ns.getD i 0 = n := by rw [List.getD_eq_getElem?_getD, e1]; rfl
  have hq : Q (ns.getD i 0 != 0) s := hq
  rw [hg] at hq
  exact PySem.P.truthy_int hq
end
theorem any_nums : ∀ ns : List Int, (List.range ns.length).any (fun i => ns.getD i 0 != 0) = ns.any (· != 0)
  | [] => rfl
  | b :: bs => by
    rw [List.length_cons, List.range_succ_eq_map, List.any_cons, List.any_map, List.any_cons, ← any_nums bs]
    rfl
section
variable {X : Cx}
theorem call_max4 (hc : X.calm = true) : CallR X (.builtin "max") (fun xs H Q => ∃ i j k l, xs = [.int i, .int j, .int k, .int l] ∧ ∀ m, (m = i ∨ m = j ∨ m = k ∨ m = l) → i ≤ m → j ≤ m → k ≤ m → l ≤ m → Q (.int m) H) := by
  intro pins s σ H xs us Q I r h
  obtain ⟨i, j, k, l, rfl, q⟩ := h
  cases r with
  | cons r1 r =>
    cases r with
    | cons r2 r =>
      cases r with
      | cons r3 r =>
        cases r with
        | cons r4 r =>
          cases r
          obtain ⟨t1, rfl⟩ := r1
          obtain ⟨t2, rfl⟩ := r2
          obtain ⟨t3, rfl⟩ := r3
          obtain ⟨t4, rfl⟩ := r4
          exact max_ints4 (I.ok.hd hc) fun h' tk M t' old e a b c d => ⟨.int M, H, I.kept old, ⟨_, rfl⟩, q M e a b c d⟩
theorem call_anyI (hc : X.calm = true) : CallR X (.builtin "any") (fun vs H Q => ∃ (a : Addr) (ns : List Int), vs = [V.ref a] ∧ SqL X.K H a (ns.map V.int) ∧ Q (.bl (ns.any (· != 0))) H) := by
  intro pins s σ H vs us Q I r h
  obtain ⟨a, ns, rfl, hs, q⟩ := h
  obtain ⟨its, rv, hl, _⟩ := I.list hs
  rw [Vals.ref1 r]
  have hb := rv.ints
  refine call_any_walk (iter_any hl.isList fun s₂ e2 st hne => ?_)
  subst e2
  refine ⟨_, _, _, _, _, _, _, rfl, Walks.list (A := X.A.in1) (I.ok.hd hc) _ a hne its.toArray, st, truth_nums hb, fun h' tk hk => ?_⟩
  refine ⟨.bl _, H, I.kept fun b o eo => hk b o (fun hm => ?_) (Heap.get?_push_of_some _ eo), ?_, q⟩
  · rcases List.mem_cons.mp hm with e1 | hm
    · exact absurd (e1 ▸ Heap.lt_size eo) (Nat.lt_irrefl _)
    · cases hm
  · show Value.bool _ = Value.bool _
    rw [← any_nums, List.size_toArray, hb.length]
end
end CC
/-! Comparisons, items, calls of built-ins, methods. -/
namespace CC
open L2 PySem PySem.Spec PyProof.Rows

section
variable {X : Cx} {ca : Nat → Addr} {g : Bool}
theorem RelD.isNon {K : PySem.W.Frag} {ι : List Addr} {H : Hp} {d : D} {v : V} (r : RelD K ι H d v) : decide (v = .non) = isNon d := by
  cases r <;> rfl
theorem op_inT (hu : X.A.units + 65 < cLine) : OpR X (compareOp .In) (fun x y H Q => ∃ d ds, Dp X.K H x d ∧ Dp X.K H y (.tuple ds) ∧ SeqAt.shaped d = true ∧ SeqAt.shaped (.tuple ds) = true ∧ Q (.bl (ds.any fun z => PyData.eqv z d)) H) := by
  intro pins s σ H x y v u Q I rx ry ⟨d, ds, hd, he, sd, se, q⟩
  obtain ⟨as, r1⟩ := Dp.reads I d x v hd rx
  obtain ⟨bs, r2⟩ := Dp.reads I (.tuple ds) y u he ry
  refine SeqAt.in_tuple_reads r2 r1 (SeqAt.canLay_of_shaped se) (SeqAt.canLay_of_shaped sd) ?_ ⟨.bl _, H, I, rfl, q⟩
  have h1 := SeqAt.depth_of_shaped sd
  have h2 : min (PyData.depthAll ds) d.depth ≤ d.depth := Nat.min_le_right _ _
  omega
theorem op_notInT (hu : X.A.units + 65 < cLine) : OpR X (compareOp .NotIn) (fun x y H Q => ∃ d ds, Dp X.K H x d ∧ Dp X.K H y (.tuple ds) ∧ SeqAt.shaped d = true ∧ SeqAt.shaped (.tuple ds) = true ∧ Q (.bl (!ds.any fun z => PyData.eqv z d)) H) := by
  intro pins s σ H x y v u Q I rx ry ⟨d, ds, hd, he, sd, se, q⟩
  obtain ⟨as, r1⟩ := Dp.reads I d x v hd rx
  obtain ⟨bs, r2⟩ := Dp.reads I (.tuple ds) y u he ry
  refine SeqAt.notIn_tuple_reads r2 r1 (SeqAt.canLay_of_shaped se) (SeqAt.canLay_of_shaped sd) ?_ ⟨.bl _, H, I, rfl, q⟩
  have h1 := SeqAt.depth_of_shaped sd
  have h2 : min (PyData.depthAll ds) d.depth ≤ d.depth := Nat.min_le_right _ _
  omega

theorem op_cmpP (hu : X.A.units + 65 < cLine) (op : CmpOp) : OpR X (compareOp op) (rP2 X.K ca g (.cmp op)) := by
  intro pins s σ H x y v u Q I rx ry ⟨ι, S, ds, o, R, r, ho, hc, hq⟩
  cases r with
  | cons r1 r =>
    cases r with
    | cons r2 r =>
      cases r
      simp only [primR] at ho
      unfold cmpR at ho
      have hu' : X.A.units + 64 < cLine := by omega
      cases op <;> dsimp only at ho
      · split at ho
        · cases ho; cases r1; cases r2
          refine op_eq pins s σ H _ _ v u Q I rx ry ⟨rfl, ?_⟩
          have e : ∀ a b : Str, decide (V.str a = V.str b) = decide (a = b) := fun a b => by
            rw [Bool.eq_iff_iff]
            simp
          rw [e]
          exact hq.same R (.bl _)
        · split at ho
          · rename_i a b h1 h2
            cases ho
            exact op_eqD hu' pins s σ H _ _ v u Q I rx ry ⟨a, b, dp_of R _ _ _ _ h1 r1, dp_of R _ _ _ _ h2 r2, hc.1, hc.2, hq.same R (.bl _)⟩
          · cases ho
      · split at ho
        · cases ho; cases r1; cases r2
          refine op_ne pins s σ H _ _ v u Q I rx ry ⟨rfl, ?_⟩
          have e : ∀ a b : Str, decide (V.str a = V.str b) = decide (a = b) := fun a b => by
            rw [Bool.eq_iff_iff]
            simp
          rw [e]
          exact hq.same R (.bl _)
        · split at ho
          · rename_i a b h1 h2
            cases ho
            exact op_neD hu' pins s σ H _ _ v u Q I rx ry ⟨a, b, dp_of R _ _ _ _ h1 r1, dp_of R _ _ _ _ h2 r2, hc.1, hc.2, hq.same R (.bl _)⟩
          · cases ho
      · split at ho
        · cases ho; cases r1; cases r2
          exact op_lt pins s σ H _ _ v u Q I rx ry ⟨_, _, rfl, rfl, hq.same R (.bl _)⟩
        · cases ho
      · split at ho
        · cases ho; cases r1; cases r2
          exact op_le pins s σ H _ _ v u Q I rx ry ⟨_, _, rfl, rfl, hq.same R (.bl _)⟩
        · cases ho
      · split at ho
        · cases ho; cases r1; cases r2
          exact op_gt pins s σ H _ _ v u Q I rx ry ⟨_, _, rfl, rfl, hq.same R (.bl _)⟩
        · cases ho
      · split at ho
        · cases ho; cases r1; cases r2
          exact op_ge pins s σ H _ _ v u Q I rx ry ⟨_, _, rfl, rfl, hq.same R (.bl _)⟩
        · cases ho
      · split at ho
        · cases ho; cases r2
          exact op_isN pins s σ H _ _ v u Q I rx ry ⟨rfl, by rw [r1.isNon]; exact hq.same R (.bl _)⟩
        · cases ho; cases r1; cases r2
          exact op_isBl pins s σ H _ _ v u Q I rx ry ⟨_, _, rfl, rfl, hq.same R (.bl _)⟩
        · cases ho
      · split at ho
        · cases ho; cases r2
          exact op_notN pins s σ H _ _ v u Q I rx ry ⟨rfl, by rw [r1.isNon]; exact hq.same R (.bl _)⟩
        · cases ho; cases r1; cases r2
          exact op_notBl pins s σ H _ _ v u Q I rx ry ⟨_, _, rfl, rfl, hq.same R (.bl _)⟩
        · cases ho
      · split at ho
        · rename_i a b h1 h2
          cases ho
          exact op_inD hu pins s σ H _ _ v u Q I rx ry ⟨a, b, dp_of R _ _ _ _ h1 r1, dp_of R _ _ _ _ h2 r2, hc.1, hc.2, hq.same R (.bl _)⟩
        · rename_i a b h1 h2
          cases ho
          exact op_inT hu pins s σ H _ _ v u Q I rx ry ⟨a, b, dp_of R _ _ _ _ h1 r1, dp_of R _ _ _ _ h2 r2, hc.1, hc.2, hq.same R (.bl _)⟩
        · cases ho
      · split at ho
        · rename_i a b h1 h2
          cases ho
          exact op_notInD hu pins s σ H _ _ v u Q I rx ry ⟨a, b, dp_of R _ _ _ _ h1 r1, dp_of R _ _ _ _ h2 r2, hc.1, hc.2, hq.same R (.bl _)⟩
        · rename_i a b h1 h2
          cases ho
          exact op_notInT hu pins s σ H _ _ v u Q I rx ry ⟨a, b, dp_of R _ _ _ _ h1 r1, dp_of R _ _ _ _ h2 r2, hc.1, hc.2, hq.same R (.bl _)⟩
        · cases ho

theorem un_negP : UnR X (unaryOp .USub) (fun x H Q => rP X.K ca g .neg [x] H Q) := by
  intro pins s σ H x v Q I rx ⟨ι, S, ds, o, R, r, ho, hc, hq⟩
  cases r with
  | cons r1 r =>
    cases r
    cases r1 <;> simp only [primR] at ho <;> cases ho
    exact un_neg pins s σ H _ v Q I rx ⟨_, rfl, hq.same R (.int _)⟩

/-- the items of a list or a tuple -/
theorem seq_of {K : PySem.W.Frag} {ι : List Addr} {H : Hp} {S : Store} {d : D} {v : V} {xs : List D} (R : Rep K ca ι S H) (h : seqD S d = some xs) (r : RelD K ι H d v) : ∃ a vs, v = .ref a ∧ (SqL K H a vs ∨ SqT K H a vs) ∧ RelDs K ι H xs vs := by
  cases r with
  | tup h1 h2 => cases h; exact ⟨_, _, rfl, .inr h1, h2⟩
  | ref h1 =>
    obtain ⟨a, vs, e1, e2, e3⟩ := R.seq h (.ref h1)
    exact ⟨a, vs, e1, .inl e2, e3⟩
  | non => cases h
  | bl _ => cases h
  | int _ => cases h
  | str _ => cases h
theorem RelDs.atI {K : PySem.W.Frag} {ι : List Addr} {H : Hp} {ds : List D} {vs : List V} {i : Int} {d : D} (r : RelDs K ι H ds vs) (h : L2.atI ds i = some d) : ∃ v, L2.atI vs i = some v ∧ RelD K ι H d v := by
  unfold L2.atI at h ⊢
  rw [← r.length]
  cases e : ixN ds.length i with
  | none => rw [e] at h; cases h
  | some j => rw [e] at h; exact r.get h
theorem ix_P : IxR X (rP2 X.K ca g .idx) := by
  intro ve se pins s σ H x y v u Q I rx ry ⟨ι, S, ds, o, R, r, ho, hc, hq⟩ hsub
  cases r with
  | cons r1 r =>
    cases r with
    | cons r2 r =>
      cases r
      cases r2 with
      | int i =>
        simp only [primR] at ho
        split at ho
        · rename_i xs h1
          split at ho
          · rename_i d h2
            cases ho
            obtain ⟨a, vs, rfl, h3, h4⟩ := seq_of R h1 r1
            obtain ⟨w, h5, h6⟩ := h4.atI h2
            rcases h3 with h3 | h3
            · exact ix_list ve se pins s σ H _ _ v u Q I rx ry ⟨_, _, _, _, rfl, rfl, h3, h5, hq.same R h6⟩ hsub
            · exact ix_tup ve se pins s σ H _ _ v u Q I rx ry ⟨_, _, _, _, rfl, rfl, h3, h5, hq.same R h6⟩ hsub
          · cases ho
        · cases ho
      | _ => simp only [primR] at ho; cases ho

theorem truth_of {K : PySem.W.Frag} {ι : List Addr} {H : Hp} {S : Store} {d : D} {v : V} {b : Bool} (R : Rep K ca ι S H) (h : truth d S = some b) (r : RelD K ι H d v) : TruV K v H b := by
  cases r with
  | non => cases h; rfl
  | bl _ => cases h; rfl
  | int _ => cases h; rfl
  | str _ => cases h
  | tup h1 h2 =>
    cases h
    refine .inr (.inl ⟨_, h1, ?_⟩)
    cases h2 <;> rfl
  | ref h1 =>
    unfold truth at h
    dsimp only at h
    split at h
    · rename_i ds e
      cases h
      obtain ⟨a, vs, e1, e2, e3⟩ := R.seq e (.ref h1)
      cases e1
      refine .inl ⟨_, e2, ?_⟩
      cases e3 <;> rfl
    · cases h

/-! ### slices -/
theorem RelDs.cut {K : PySem.W.Frag} {ι : List Addr} {H : Hp} {ds : List D} {vs : List V} (r : RelDs K ι H ds vs) (lo hi : Option Int) : RelDs K ι H (cutD ds lo hi) (cutV vs lo hi) := by
  unfold cutD cutV
  rw [r.length]
  exact (r.drop _).take _
/-! ### built-ins -/
theorem intsOf_map : ∀ {ds : List D} {is : List Int}, intsOf ds = some is → ds = is.map D.int
  | [], _, h => by cases h; rfl
  | .int i :: ds, is, h => by
    unfold intsOf at h
    split at h
    · rename_i js e
      cases h
      rw [intsOf_map e]
      rfl
    · cases h
  | .non :: _, _, h => by cases h
  | .bl _ :: _, _, h => by cases h
  | .str _ :: _, _, h => by cases h
  | .tup _ :: _, _, h => by cases h
  | .ref _ :: _, _, h => by cases h
theorem boolsOf_map : ∀ {ds : List D} {is : List Bool}, boolsOf ds = some is → ds = is.map D.bl
  | [], _, h => by cases h; rfl
  | .bl i :: ds, is, h => by
    unfold boolsOf at h
    split at h
    · rename_i js e
      cases h
      rw [boolsOf_map e]
      rfl
    · cases h
  | .non :: _, _, h => by cases h
  | .int _ :: _, _, h => by cases h
  | .str _ :: _, _, h => by cases h
  | .tup _ :: _, _, h => by cases h
  | .ref _ :: _, _, h => by cases h
theorem RelDs.bools {K : PySem.W.Frag} {ι : List Addr} {H : Hp} {ns : List Bool} : ∀ {vs : List V}, RelDs K ι H (ns.map D.bl) vs → vs = ns.map V.bl := by
  induction ns with
  | nil => intro vs h; cases h; rfl
  | cons n r ih =>
    intro vs h
    cases h with
    | cons a b => cases a; rw [ih b]; rfl
theorem foldl_max : ∀ (l : List Int) (i : Int), (l.foldl (fun a b => if b > a then b else a) i = i ∨ l.foldl (fun a b => if b > a then b else a) i ∈ l) ∧ i ≤ l.foldl (fun a b => if b > a then b else a) i ∧ ∀ y ∈ l, y ≤ l.foldl (fun a b => if b > a then b else a) i
  | [], i => ⟨.inl rfl, Int.le_refl _, fun _ h => nomatch h⟩
  | a :: l, i => by
    obtain ⟨h1, h2, h3⟩ := foldl_max l (if a > i then a else i)
    rw [List.foldl_cons]
    refine ⟨?_, ?_, fun y hy => ?_⟩
    · rcases h1 with h1 | h1
      · by_cases q : a > i
        · rw [if_pos q] at h1 ⊢; exact .inr (by rw [h1]; exact List.mem_cons_self)
        · rw [if_neg q] at h1 ⊢; exact .inl h1
      · exact .inr (List.mem_cons_of_mem _ h1)
    · by_cases q : a > i
      · rw [if_pos q] at h2 ⊢; omega
      · rw [if_neg q] at h2 ⊢; exact h2
    · rcases List.mem_cons.mp hy with e | e
      · subst e
        by_cases q : y > i
        · rw [if_pos q] at h2 ⊢; exact h2
        · rw [if_neg q] at h2 ⊢; omega
      · exact h3 y e
theorem maxOf_is {ns : List Int} {m : Int} (hne : 0 < ns.length) (h1 : m ∈ ns) (h2 : ∀ y ∈ ns, y ≤ m) : m = maxOf ns := by
  cases ns with
  | nil => cases h1
  | cons i r =>
    show m = r.foldl (fun a b => if b > a then b else a) i
    obtain ⟨a1, a2, a3⟩ := foldl_max r i
    have b1 : m ≤ r.foldl (fun a b => if b > a then b else a) i := by
      rcases List.mem_cons.mp h1 with e | e
      · rw [e]; exact a2
      · exact a3 m e
    have b2 : r.foldl (fun a b => if b > a then b else a) i ≤ m := by
      rcases a1 with e | e
      · rw [e]; exact h2 i List.mem_cons_self
      · exact h2 _ (List.mem_cons_of_mem _ e)
    omega
/-- the value that the name of a built-in stands for -/
def Blt.val : Blt → Value
  | .len => .builtin "len"
  | .abs => .builtin "abs"
  | .int => .type "int"
  | .max1 => .builtin "max"
  | .max2 => .builtin "max"
  | .min2 => .builtin "min"
  | .list => .type "list"
  | .tuple => .type "tuple"
  | .sum => .builtin "sum"
  | .all => .builtin "all"
  | .max4 => .builtin "max"
  | .any => .builtin "any"
  | .sorted => .builtin "sorted"
theorem max4_is {m i j k l : Int} (h : m = i ∨ m = j ∨ m = k ∨ m = l) (a : i ≤ m) (b : j ≤ m) (c : k ≤ m) (d : l ≤ m) : m = maxOf [i, j, k, l] :=
  maxOf_is (by simp) (by simpa using h) fun y hy => by
    simp only [List.mem_cons, List.not_mem_nil, or_false] at hy
    rcases hy with rfl | rfl | rfl | rfl <;> assumption
theorem insI_perm (i : Int) : ∀ r, (insI i r).Perm (i :: r)
  | [] => .refl _
  | j :: r => by
    unfold insI
    split
    · exact .refl _
    · exact ((insI_perm i r).cons j).trans (.swap i j r)
theorem sortI_perm : ∀ r, (sortI r).Perm r
  | [] => .refl _
  | i :: r => (insI_perm i _).trans ((sortI_perm r).cons i)
theorem insI_pw (i : Int) : ∀ r, r.Pairwise (· ≤ ·) → (insI i r).Pairwise (· ≤ ·)
  | [], _ => .cons (fun _ h => nomatch h) .nil
  | j :: r, h => by
    cases h with
    | cons h1 h2 =>
      unfold insI
      split
      · rename_i q
        refine .cons (fun x hx => ?_) (.cons h1 h2)
        rcases List.mem_cons.mp hx with rfl | hx
        · exact q
        · exact Int.le_trans q (h1 x hx)
      · refine .cons (fun x hx => ?_) (insI_pw i r h2)
        rcases List.mem_cons.mp ((insI_perm i r).mem_iff.mp hx) with rfl | hx
        · omega
        · exact h1 x hx
theorem sortI_pw : ∀ r, (sortI r).Pairwise (· ≤ ·)
  | [] => .nil
  | i :: r => insI_pw i _ (sortI_pw r)
theorem sorted_one : ∀ {a b : List Int}, a.Perm b → a.Pairwise (· ≤ ·) → b.Pairwise (· ≤ ·) → a = b
  | [], b, h, _, _ => by rw [List.nil_perm.mp h]
  | x :: a, [], h, _, _ => absurd h.length_eq (by simp)
  | x :: a, y :: b, h, .cons h1 h2, .cons k1 k2 => by
    have e : x = y := by
      have m1 := h.mem_iff.mp (List.mem_cons_self (a := x) (l := a))
      have m2 := h.mem_iff.mpr (List.mem_cons_self (a := y) (l := b))
      rcases List.mem_cons.mp m1 with e | m1
      · exact e
      · rcases List.mem_cons.mp m2 with e | m2
        · exact e.symm
        · exact Int.le_antisymm (h1 y m2) (k1 x m1)
    subst e
    rw [sorted_one (List.perm_cons x |>.mp h) h2 k2]
theorem call_P (hcm : X.calm = true) (b : Blt) : CallR X b.val (rP X.K ca g (.blt b)) := by
  intro pins s σ H xs us Q I rv ⟨ι, S, ds, o, R, r, ho, hc, hq⟩
  simp only [primR] at ho
  unfold bltR at ho
  split at ho
  · split at ho
    · rename_i x xs1 h1
      cases ho
      cases r with
      | cons r1 r =>
        cases r
        obtain ⟨a, vs, rfl, h3, h4⟩ := seq_of R h1 r1
        exact call_len_seq pins s σ H _ us Q I rv ⟨a, vs, rfl, h3, by rw [← h4.length]; exact hq.same R (.int _)⟩
    · cases ho
  · cases ho
    cases r with
    | cons r1 r =>
      cases r; cases r1
      exact call_abs pins s σ H _ us Q I rv ⟨_, rfl, hq.same R (.int _)⟩
  · cases ho
    cases r with
    | cons r1 r =>
      cases r; cases r1
      exact call_int1 pins s σ H _ us Q I rv (.inl ⟨_, rfl, hq.same R (.int _)⟩)
  · cases ho
    cases r with
    | cons r1 r =>
      cases r; cases r1
      exact call_int1 pins s σ H _ us Q I rv (.inr ⟨_, rfl, hq.same R (.int _)⟩)
  · cases ho
    cases r with
    | cons r1 r =>
      cases r with
      | cons r2 r =>
        cases r; cases r1; cases r2
        exact call_max2 hcm pins s σ H _ us Q I rv ⟨_, _, rfl, hq.same R (.int _)⟩
  · cases ho
    cases r with
    | cons r1 r =>
      cases r with
      | cons r2 r =>
        cases r; cases r1; cases r2
        exact call_min2 hcm pins s σ H _ us Q I rv ⟨_, _, rfl, hq.same R (.int _)⟩
  · split at ho
    · rename_i l xs1 h1
      split at ho
      · rename_i i is h2
        cases ho
        cases r with
        | cons r1 r =>
          cases r
          rw [intsOf_map h2] at h1
          obtain ⟨a, vs, rfl, e2, e3⟩ := R.seq h1 r1
          rw [e3.ints] at e2
          refine cr_max hcm pins s σ H _ us Q I rv ⟨_, _, rfl, e2, by simp, fun m hm hle => ?_⟩
          rw [maxOf_is (by simp) hm hle]
          exact hq.same R (.int _)
      · cases ho
    · cases ho
  · split at ho
    · rename_i l xs1 h1
      split at ho
      · rename_i is h2
        cases ho
        cases r with
        | cons r1 r =>
          cases r
          rw [intsOf_map h2] at h1
          obtain ⟨a, vs, rfl, e2, e3⟩ := R.seq h1 r1
          rw [e3.ints] at e2
          exact cr_sum hcm pins s σ H _ us Q I rv ⟨_, _, rfl, e2, hq.same R (.int _)⟩
      · cases ho
    · cases ho
  · split at ho
    · rename_i l xs1 h1
      split at ho
      · rename_i is h2
        cases ho
        cases r with
        | cons r1 r =>
          cases r
          rw [boolsOf_map h2] at h1
          obtain ⟨a, vs, rfl, e2, e3⟩ := R.seq h1 r1
          rw [e3.bools] at e2
          exact cr_all hcm pins s σ H _ us Q I rv ⟨_, _, rfl, e2, hq.same R (.bl _)⟩
      · cases ho
    · cases ho
  · split at ho
    · rename_i x xs1 h1
      cases ho
      cases r with
      | cons r1 r =>
        cases r
        obtain ⟨a, vs, rfl, h3, h4⟩ := seq_of R h1 r1
        exact call_list_of pins s σ H _ us Q I rv ⟨a, vs, rfl, h3, hq.new R h4⟩
    · cases ho
  · split at ho
    · rename_i x xs1 h1
      cases ho
      cases r with
      | cons r1 r =>
        cases r
        obtain ⟨a, vs, rfl, h3, h4⟩ := seq_of R h1 r1
        refine call_tuple_of pins s σ H _ us Q I rv ⟨a, vs, rfl, ?_⟩
        rcases h3 with h3 | h3
        · exact .inl ⟨h3, hq.newT R h4⟩
        · exact .inr ⟨h3, hq.same R (.tup h3 h4)⟩
    · cases ho
  · cases ho
    cases r with
    | cons r1 r =>
      cases r with
      | cons r2 r =>
        cases r with
        | cons r3 r =>
          cases r with
          | cons r4 r =>
            cases r; cases r1; cases r2; cases r3; cases r4
            refine call_max4 hcm pins s σ H _ us Q I rv ⟨_, _, _, _, rfl, fun m hm a b c d => ?_⟩
            rw [max4_is hm a b c d]
            exact hq.same R (.int _)
  · split at ho
    · rename_i l xs1 h1
      split at ho
      · rename_i is h2
        cases ho
        cases r with
        | cons r1 r =>
          cases r
          rw [intsOf_map h2] at h1
          obtain ⟨a, vs, rfl, e2, e3⟩ := R.seq h1 r1
          rw [e3.ints] at e2
          exact call_anyI hcm pins s σ H _ us Q I rv ⟨_, _, rfl, e2, hq.same R (.bl _)⟩
      · cases ho
    · cases ho
  · split at ho
    · rename_i l xs1 h1
      split at ho
      · rename_i is h2
        cases ho
        cases r with
        | cons r1 r =>
          cases r
          rw [intsOf_map h2] at h1
          obtain ⟨a, vs, rfl, e2, e3⟩ := R.seq h1 r1
          rw [e3.ints] at e2
          refine cr_sorted pins s σ H _ us Q I rv ⟨_, _, rfl, e2, hc, fun ns' p h1 h2 hp => ?_⟩
          rw [sorted_one (h1.trans (sortI_perm is).symm) h2 (sortI_pw is)]
          exact hq.new R (.of_ints _) p hp
      · cases ho
    · cases ho
  · cases ho

/-! ### isinstance -/
def Ty.name : Ty → String
  | .int => "int"
  | .bool => "bool"
  | .tuple => "tuple"
theorem tyx_tup {K : PySem.W.Frag} {H : Hp} {a : Addr} {vs : List V} (h : SqT K H a vs) : TyX K H (.ref a) (.type "tuple") := by
  rcases h with (h | ⟨o, h⟩) | ⟨o, its, n, h, hc, _⟩
  · exact .base (.tup h)
  · exact .fTuple h
  · exact .kTuple h hc
theorem call_isa (t : Ty) : CallR X (.builtin "isinstance") (fun xs H Q => ∃ x, xs = [x, .ty t.name] ∧ rP X.K ca g (.isa t) [x] H Q) := by
  intro pins s σ H xs us Q I rv ⟨x, e, ι, S, ds, o, R, r, ho, hc, hq⟩
  subst e
  have key : ∀ (T : Value) (b : Bool), TyX X.K H x T → PySem.W.kitOne X.K T (.type t.name) = some b → Q (.bl b) H → wpAny (model X.prog X.w) X.A (call (.builtin "isinstance") us) (EP X pins σ Q) X.xe s := fun T b h1 h2 h3 =>
    call_isi pins s σ H _ us Q I rv ⟨x, .ty t.name, T, .type t.name, b, rfl, .ty _, h1, h2, h3⟩
  cases r with
  | cons r1 r =>
    cases r
    simp only [primR] at ho
    split at ho
    · rename_i b hb
      cases ho
      have q := hq.same R (.bl _)
      cases t <;> cases r1 <;> cases hb
      · exact key (.type "NoneType") _ (.base .non) (kit_ty (by decide +kernel)) q
      · exact key (.type "bool") _ (.base (.bl _)) (kit_ty (by decide +kernel)) q
      · exact key (.type "int") _ (.base (.int _)) (kit_ty (by decide +kernel)) q
      · exact key (.type "str") _ (.base (.str _)) (kit_ty (by decide +kernel)) q
      · rename_i h1 h2; exact key (.type "tuple") _ (tyx_tup h1) (kit_ty (by decide +kernel)) q
      · exact key (.type "NoneType") _ (.base .non) (kit_ty (by decide +kernel)) q
      · exact key (.type "bool") _ (.base (.bl _)) (kit_ty (by decide +kernel)) q
      · exact key (.type "int") _ (.base (.int _)) (kit_ty (by decide +kernel)) q
      · exact key (.type "str") _ (.base (.str _)) (kit_ty (by decide +kernel)) q
      · rename_i h1 h2; exact key (.type "tuple") _ (tyx_tup h1) (kit_ty (by decide +kernel)) q
      · exact key (.type "NoneType") _ (.base .non) (kit_ty (by decide +kernel)) q
      · exact key (.type "bool") _ (.base (.bl _)) (kit_ty (by decide +kernel)) q
      · exact key (.type "int") _ (.base (.int _)) (kit_ty (by decide +kernel)) q
      · exact key (.type "str") _ (.base (.str _)) (kit_ty (by decide +kernel)) q
      · rename_i h1 h2; exact key (.type "tuple") _ (tyx_tup h1) (kit_ty (by decide +kernel)) q
    · cases ho

/-! ### repr -/
theorem call_repr (hg : g = true → X.A.guards = some []) (hu : X.A.units + 70 < cLine) : CallR X (.builtin "repr") (rP X.K ca g .repr) := by
  intro pins s σ H xs us Q I rv ⟨ι, S, ds, o, R, r, ho, hc, hq⟩
  cases r with
  | nil => simp only [primR] at ho; cases ho
  | cons r1 r =>
    cases r with
    | cons _ _ => simp only [primR] at ho; cases ho
    | nil =>
      simp only [primR] at ho
      split at ho
      · rename_i hg'
        split at ho
        · rename_i a ha
          cases ho
          obtain ⟨c1, c2, c3⟩ := hc
          have q := hq.same R (.str _)
          have dp := dp_of R _ _ _ _ ha r1
          cases rv with
          | cons rv1 rv =>
            cases rv
            rename_i u
            obtain ⟨as, rd⟩ := Dp.reads I _ _ _ dp rv1
            cases dp with
            | non =>
              cases rv1
              exact PySem.P.repr_of_none ⟨.str _, H, I.tok _, ⟨_, rfl⟩, by rw [PyData.shown_none] at q; exact q⟩
            | bl b =>
              cases rv1
              refine PySem.P.repr_of_bool ⟨.str _, H, I.tok _, ⟨_, rfl⟩, ?_⟩
              rw [PyData.shown_bool] at q
              cases b <;> exact q
            | int i =>
              obtain ⟨t, rfl⟩ := rv1
              have c2' : i.natAbs.log2 < 1920 := of_decide_eq_true c2
              exact PySem.P.repr_of_int c2' ⟨.str _, H, I.tok _, ⟨_, rfl⟩, by rw [PyData.shown_int] at q; exact q⟩
            | str x =>
              obtain ⟨t, rfl⟩ := rv1
              rw [PyData.shown_str] at q c3
              exact PySem.P.repr_of_str ⟨.str _, H, I.tok _, ⟨_, rfl⟩, q⟩ c3
            | lst h1 h2 =>
              cases rv1
              have hd := SeqAt.depth_of_shaped c1
              exact repr_of_reads' rd c2 (PyData.noDict_hsm (PyData.hasDict_of_canLay _ (SeqAt.canLay_of_shaped c1))) (hg hg') (by omega) (fun _ _ e => e) (fun h' u tk hk => ⟨.str _, H, I.kept hk, ⟨_, rfl⟩, q⟩) c3
            | tup h1 h2 =>
              cases rv1
              have hd := SeqAt.depth_of_shaped c1
              exact repr_of_reads' rd c2 (PyData.noDict_hsm (PyData.hasDict_of_canLay _ (SeqAt.canLay_of_shaped c1))) (hg hg') (by omega) (fun _ _ e => e) (fun h' u tk hk => ⟨.str _, H, I.kept hk, ⟨_, rfl⟩, q⟩) c3
        · cases ho
      · cases ho

/-! ### methods of lists -/
theorem mt_app : MtR X "list.append" (fun x xs H Q => rP X.K ca g .app (x :: xs) H Q) := by
  intro pins s σ H x xs v us Q I rx rv ⟨ι, S, ds, o, R, r, ho, hc, hq⟩
  cases r with
  | cons r1 r =>
    cases r with
    | nil => cases r1 <;> (simp only [primR] at ho; cases ho)
    | cons r2 r =>
      cases r with
      | cons _ _ => cases r1 <;> (simp only [primR] at ho; cases ho)
      | nil =>
        cases r1 with
        | ref z =>
          simp only [primR] at ho
          split at ho
          · rename_i xs1 h1
            cases ho
            obtain ⟨a, vs, e1, e2, e3, e4⟩ := R.lst h1 (.ref z)
            cases e1
            exact mt_append pins s σ H _ _ v us Q I rx rv ⟨_, vs, _, rfl, rfl, e3, by rw [← e4.length]; exact hc, hq.wrote R h1 e2 e3 (e4.append (.cons r2 .nil)) .non⟩
          · cases ho
        | _ => simp only [primR] at ho; cases ho
theorem mt_ins : MtR X "list.insert" (fun x xs H Q => rP X.K ca g .ins (x :: xs) H Q) := by
  intro pins s σ H x xs v us Q I rx rv ⟨ι, S, ds, o, R, r, ho, hc, hq⟩
  have key : ∃ l i y, ds = [.ref l, .int i, y] := by
    match ds, ho with
    | [.ref l, .int i, y], _ => exact ⟨l, i, y, rfl⟩
  obtain ⟨l, i, y, rfl⟩ := key
  simp only [primR] at ho
  split at ho
  · rename_i xs1 h1
    cases ho
    cases r with
    | cons r1 r =>
      cases r with
      | cons r2 r =>
        cases r with
        | cons r3 r =>
          cases r
          cases r2
          obtain ⟨a, vs, rfl, e2, e3, e4⟩ := R.lst h1 r1
          exact mt_insert pins s σ H _ _ v us Q I rx rv ⟨_, vs, _, _, rfl, rfl, e3, by rw [← e4.length]; exact hc.1, hc.2.1, hc.2.2, hq.wrote R h1 e2 e3 (((e4.take _).append (.cons r3 .nil)).append (e4.drop _)) .non⟩
  · cases ho
end
end CC
/-! Whether a piece of the program's text is a piece of the little language. -/
namespace CC
open PySem L2

mutual
def D.beq : D → D → Bool
  | .non, .non => true
  | .bl a, .bl b => a == b
  | .int i, .int j => decide (i = j)
  | .str x, .str y => decide (x = y)
  | .tup xs, .tup ys => D.beqs xs ys
  | .ref l, .ref m => l == m
  | _, _ => false
def D.beqs : List D → List D → Bool
  | [], [] => true
  | x :: xs, y :: ys => D.beq x y && D.beqs xs ys
  | _, _ => false
end
mutual
theorem D.beq_eq : ∀ {a b : D}, D.beq a b = true → a = b
  | .non, b, h => by cases b <;> simp [D.beq] at h <;> rfl
  | .bl a, b, h => by cases b <;> simp [D.beq] at h <;> rw [h]
  | .int a, b, h => by cases b <;> simp [D.beq] at h <;> rw [h]
  | .str a, b, h => by cases b <;> simp [D.beq] at h <;> rw [h]
  | .tup a, b, h => by
    cases b <;> simp [D.beq] at h
    rw [D.beqs_eq h]
  | .ref a, b, h => by cases b <;> simp [D.beq] at h <;> rw [h]
theorem D.beqs_eq : ∀ {a b : List D}, D.beqs a b = true → a = b
  | [], b, h => by cases b <;> simp [D.beqs] at h <;> rfl
  | a :: as, b, h => by
    cases b with
    | nil => simp [D.beqs] at h
    | cons y ys =>
      simp only [D.beqs, Bool.and_eq_true] at h
      rw [D.beq_eq h.1, D.beqs_eq h.2]
end
/-- a class: its name, its fields, its properties, the number of its __init__ -/
structure Cl where
  name : Str
  fields : List Str
  props : List (Str × Nat)
  init : Nat
/-- a scope, the names by slot, which names may be stored though they are cells, the functions that may be called, whether repr is known -/
structure Ck where
  N : List Str
  sc : Scope
  cell : Str → Bool
  fns : Nat → Option Fn
  kws : Nat → List (Nat × List Str × List Nat)
  gls : List (Str × D)
  g : Bool
  cls : Nat → Option Cl

def Ck.vis (C : Ck) (i : Nat) (x : Str) : Bool := decide (C.N[i]? = some x) && (match C.sc.names.lookup x with
  | some .local => true
  | some .cell => true
  | some .free => true
  | _ => false) && !(x == ("__debug__" : Str)) && !(x == ("__classdict__" : Str))
def Ck.loc (C : Ck) (i : Nat) (x : Str) : Bool := decide (C.N[i]? = some x) && (match C.sc.names.lookup x with
  | some .local => true
  | some .cell => C.cell x
  | _ => false)
def Ck.locL (C : Ck) (i : Nat) (x : Str) : Bool := decide (C.N[i]? = some x) && decide (C.sc.names.lookup x = some .local)
def Ck.gl (C : Ck) (x : Str) : Bool := decide (C.sc.names.lookup x = some .globalImplicit) && !(x == ("__debug__" : Str))

def Blt.nm : Blt → Str
  | .len => "len"
  | .abs => "abs"
  | .int => "int"
  | .max1 => "max"
  | .max2 => "max"
  | .min2 => "min"
  | .list => "list"
  | .tuple => "tuple"
  | .sum => "sum"
  | .all => "all"
  | .max4 => "max"
  | .any => "any"
  | .sorted => "sorted"
def Blt.ar : Blt → Nat
  | .max2 => 2
  | .min2 => 2
  | _ => 1
def Ty.nm : Ty → Str
  | .int => "int"
  | .bool => "bool"
  | .tuple => "tuple"

/-- no slice, no star, .. : an expression that stands for itself everywhere -/
def plainX : Expr → Bool
  | .Starred _ _ => false
  | .Slice _ _ _ _ => false
  | .Set _ _ _ => false
  | .SetComp _ _ _ _ => false
  | .DictComp _ _ _ _ _ => false
  | .ListComp _ _ _ _ => true
  | _ => true
def noComp : Expr → Bool
  | .ListComp _ _ _ _ => false
  | .SetComp _ _ _ _ => false
  | .DictComp _ _ _ _ _ => false
  | _ => true
/-- an expression whose truth is that of its value -/
def testX : Expr → Bool
  | .UnaryOp _ _ _ => false
  | .BoolOp _ _ _ => false
  | .IfExp _ _ _ _ => false
  | .Compare _ _ _ _ => false
  | _ => true
/-- .. whose attributes are those of its value -/
def baseX : Expr → Bool
  | .Call (.Name _ _) [] [] _ => false
  | _ => true
def isName : Expr → Str → Bool
  | .Name y _, x => decide (y = x)
  | _, _ => false
def isConst : D → Const → Bool
  | .non, .none => true
  | .bl a, .bool b => decide (a = b)
  | .int i, .int j => decide (i = j)
  | .str x, .str y => decide (x = y)
  | _, _ => false

def relSc (scope sc : Scope) : Scope := relS scope sc
def Ck.blk (C : Ck) (scope : Scope) : Ck := { C with sc := relSc scope C.sc, cell := fun x => scope.names.lookup x == some .cell }

mutual
def slots : Tg → List Nat
  | .name i => [i]
  | .tup ts => slotsL ts
  | .sub _ _ => []
def slotsL : Tgs → List Nat
  | .nil => []
  | .cons t r => slots t ++ slotsL r
end

/-- methods of lists -/
def mthName : Prim → Option Str
  | .app => some "append"
  | .ins => some "insert"
  | _ => none

/-- the arguments of what is walked -/
def itArgs (C : Ck) (k : ItK) (tg e : Expr) : Option (List Expr) := match k with
  | .seq => some [e]
  | .range => (match e with
    | .Call (.Name x _) [a] [] _ => if decide (x = "range") && C.gl x then some [a] else none
    | .Call (.Name x _) [a, b] [] _ => if decide (x = "range") && C.gl x then some [a, b] else none
    | _ => none)
  | .enum => (match tg, e with
    | .Tuple _ _ _, .Call (.Name x _) [a] [] _ => if decide (x = "enumerate") && C.gl x then some [a] else none
    | _, _ => none)
  | .zip => (match tg, e with
    | .Tuple _ _ _, .Call (.Name x _) [a, b] [] _ => if decide (x = "zip") && C.gl x then some [a, b] else none
    | _, _ => none)

mutual
/-- t: in the place of a test -/
def chkE (C : Ck) (t : Bool) : Ex → Expr → Bool
  | .var i, e => (match e with
    | .Name x _ => C.vis i x
    | _ => false)
  | .const d, e => (match e with
    | .Constant c _ _ => isConst d c
    | _ => false)
  | .glob x d, e => (match e with
    | .Name y _ => decide (x = y) && C.gl x && (C.gls.any fun p => decide (p.1 = x) && p.2.beq d)
    | _ => false)
  | .prim p es, e => (match p with
    | .bin op => (match e with
      | .BinOp a o b _ => decide (op = o) && chkEs C es [a, b]
      | _ => false)
    | .neg => (match e with
      | .UnaryOp .USub a _ => !t && chkEs C es [a]
      | _ => false)
    | .cmp op => (match e with
      | .Compare a [o] [b] _ => decide (op = o) && chkEs C es [a, b]
      | _ => false)
    | .tup => (match e with
      | .Tuple xs _ _ => chkEs C es xs
      | _ => false)
    | .lst => (match e with
      | .List xs _ => chkEs C es xs
      | _ => false)
    | .idx => (match e with
      | .Subscript a b _ => chkEs C es [a, b]
      | _ => false)
    | .slc lo hi => (match e with
      | .Subscript a (.Slice none none none _) _ => !lo && !hi && chkEs C es [a]
      | .Subscript a (.Slice (some b) none none _) _ => lo && !hi && chkEs C es [a, b]
      | .Subscript a (.Slice none (some b) none _) _ => !lo && hi && chkEs C es [a, b]
      | _ => false)
    | .rev => (match e with
      | .Subscript a (.Slice none none (some (.UnaryOp .USub (.Constant (.int 1) _ _) _)) _) _ => chkEs C es [a]
      | _ => false)
    | .blt b => (match e with
      | .Call (.Name x _) xs [] _ => decide (x = b.nm) && C.gl x && chkEs C es xs && !xs.isEmpty
      | _ => false)
    | .isa ty => (match e with
      | .Call (.Name x _) [a, .Name y _] [] _ => decide (x = "isinstance") && C.gl x && decide (y = ty.nm) && C.gl y && chkEs C es [a]
      | _ => false)
    | .repr => (match e with
      | .Call (.Name x _) [a] [] _ => decide (x = "repr") && C.gl x && chkEs C es [a]
      | _ => false)
    | .bits => (match e with
      | .Call (.Attribute a x p) [] [] q => decide (x = "bit_length") && chkEs C es [a] && baseX a && (p.endLine == q.line)
      | _ => false)
    | .rng => (match e with
      | .Call (.Name x _) [.Call (.Name y _) [a] [] _] [] _ => decide (x = "list") && C.gl x && decide (y = "range") && C.gl y && chkEs C es [a]
      | .Call (.Name x _) [.Call (.Name y _) [a, b] [] _] [] _ => decide (x = "list") && C.gl x && decide (y = "range") && C.gl y && chkEs C es [a, b]
      | _ => false)
    | _ => false)
  | .cut a b c, e => (match e with
    | .Subscript x (.Slice (some y) (some z) none _) _ => chkE C false a x && chkE C false b y && chkE C false c z
    | _ => false)
  | .fld cs o x, e => (match e with
    | .Attribute a y _ => decide (x = y) && chkE C false o a && baseX a && cs.all fun c => match C.cls c with
      | some cl => cl.fields.any fun z => decide (z = x)
      | none => false
    | _ => false)
  | .prop tb o x, e => (match e with
    | .Attribute a y _ => decide (x = y) && chkE C false o a && baseX a && tb.all fun p => (match C.cls p.1 with
      | some cl => cl.props.any fun q => decide (q = (x, p.2))
      | none => false) && (match C.fns p.2 with
      | some fn => !fn.g || C.g
      | none => false)
    | _ => false)
  | .make c f es, e => (match e with
    | .Call (.Name x _) xs [] _ => (match C.cls c with
      | some cl => decide (cl.name = x) && decide (cl.init = f)
      | none => false) && (match C.fns f with
      | some fn => !fn.g || C.g
      | none => false) && C.gl x && chkEs C es xs
    | _ => false)
  | .makek c f es ks kes perm, e => (match e with
    | .Call (.Name x _) xs kws _ => (match C.cls c with
      | some cl => decide (cl.name = x) && decide (cl.init = f)
      | none => false) && (match C.fns f with
      | some fn => !fn.g || C.g
      | none => false) && C.gl x && chkEs C es xs && chkEs C kes (kws.map (·.value)) && decide (kws.map (·.arg) = ks.map some) && (C.kws f).any fun q => decide (q = (xs.length + 1, ks, 0 :: perm.map (· + 1)))
    | _ => false)
  | .notE m, e => (match e with
    | .UnaryOp .Not a _ => chkE C t m a
    | _ => false)
  | .meth p o es, e => (match p with
    | .app => (match e with
      | .Call (.Attribute a x p) [b] [] q => decide (x = "append") && chkE C false o a && chkEs C es [b] && baseX a && (p.endLine == q.line)
      | _ => false)
    | .ins => (match e with
      | .Call (.Attribute a x p) [b, c] [] q => decide (x = "insert") && chkE C false o a && chkEs C es [b, c] && baseX a && (p.endLine == q.line)
      | _ => false)
    | _ => false)
  | .one a, e => (match e with
    | .BoolOp _ [x] _ => chkE C t a x
    | _ => false)
  | .andE a b, e => (match e with
    | .BoolOp .And (x :: y :: r) pos => chkE C t a x && chkE C t b (.BoolOp .And (y :: r) pos)
    | _ => false)
  | .orE a b, e => (match e with
    | .BoolOp .Or (x :: y :: r) pos => chkE C t a x && chkE C t b (.BoolOp .Or (y :: r) pos)
    | _ => false)
  | .ite c a b, e => (match e with
    | .IfExp x y z _ => !t && chkE C true c x && chkE C false a y && chkE C false b z
    | _ => false)
  | .chain op op' a b c, e => (match e with
    | .Compare x [o, o'] [y, z] _ => decide (op = o) && decide (op' = o') && chkE C false a x && chkE C false b y && chkE C false c z && plainX y && plainX z
    | _ => false)
  | .call f es, e => (match e with
    | .Call (.Name x _) xs [] _ => (match C.fns f with
      | some fn => decide (fn.name = x) && (!fn.g || C.g) && fn.cls.isNone
      | none => false) && C.gl x && chkEs C es xs
    | _ => false)
  | .callk f es ks kes perm, e => (match e with
    | .Call (.Name x _) xs kws _ => (match C.fns f with
      | some fn => decide (fn.name = x) && (!fn.g || C.g) && fn.cls.isNone
      | none => false) && C.gl x && chkEs C es xs && chkEs C kes (kws.map (·.value)) && decide (kws.map (·.arg) = ks.map some) && (C.kws f).any fun q => decide (q = (xs.length, ks, perm))
    | _ => false)
  | .comp elt tg k src cond own, e => (match e with
    | .ListComp e [⟨tge, it, ifs, 0⟩] scope _ => blkC C.N C.sc scope own && ((slots tg).all fun i => (own.map (·.2)).contains i) && (match itArgs C k tge it with
      | some es => chkEs C src es
      | none => false) && chkTg (C.blk scope) tg tge && chkE (C.blk scope) false elt e && chkCond (C.blk scope) cond ifs && plainX it
    | _ => false)
def chkEs (C : Ck) : Exs → List Expr → Bool
  | .nil, es => (match es with
    | [] => true
    | _ => false)
  | .cons m r, es => (match es with
    | e :: es => chkE C false m e && plainX e && chkEs C r es
    | _ => false)
def chkCond (C : Ck) : Exs → List Expr → Bool
  | .nil, es => (match es with
    | [] => true
    | _ => false)
  | .cons m r, es => (match r, es with
    | .nil, [e] => chkE C true m e
    | _, _ => false)
def chkTg (C : Ck) : Tg → Expr → Bool
  | .name i, e => (match e with
    | .Name x _ => C.loc i x
    | _ => false)
  | .tup ts, e => (match e with
    | .Tuple es _ _ => chkTgs C ts es
    | _ => false)
  | .sub o i, e => (match e with
    | .Subscript a b _ => chkE C false o a && chkE C false i b && plainX b
    | _ => false)
def chkTgs (C : Ck) : Tgs → List Expr → Bool
  | .nil, es => (match es with
    | [] => true
    | _ => false)
  | .cons m r, es => (match es with
    | e :: es => chkTg C m e && plainX e && chkTgs C r es
    | _ => false)
end

end CC
/-! What the little language wants is what the model wants: expressions. -/
namespace CC
open L2 PySem PySem.Spec PyProof.Rows

/-! ### both sides -/
def RelS (K : PySem.W.Frag) (ι : List Addr) (H : Hp) (σd : Sd) (σ : L2.St) : Prop :=
  σd.length = σ.length ∧ ∀ (i : Nat) (d : D), σd[i]? = some (some d) → ∃ v, σ[i]? = some (some v) ∧ RelD K ι H d v
def EL (K : PySem.W.Frag) (ca : Nat → Addr) (W : WX) (σ : L2.St) (ι : List Addr) (H : Hp) : EPost := fun x S' =>
  ∀ ι' H' dd v, Ext K ι H ι' H' → Rep K ca ι' S' H' → RelD K ι' H' x.2 v → H' dd = some (.xd [("value", v)]) → W (.ref (ca x.1)) (some dd) σ H'
def QLs (K : PySem.W.Frag) (ca : Nat → Addr) (Q : List V → Hp → Prop) (ι : List Addr) (H : Hp) : List D → Store → Prop := fun ds S' =>
  ∀ ι' H' vs, Ext K ι H ι' H' → Rep K ca ι' S' H' → RelDs K ι' H' ds vs → Q vs H'

section
variable {K : PySem.W.Frag} {ca : Nat → Addr} {ι ι' : List Addr} {H H' : Hp} {W : WX} {σd : Sd} {σ : L2.St}
theorem RelS.mono (x : Ext K ι H ι' H') (r : RelS K ι H σd σ) : RelS K ι' H' σd σ := ⟨r.1, fun i d h => by
  obtain ⟨v, e, q⟩ := r.2 i d h
  exact ⟨v, e, q.mono x⟩⟩
theorem EL.of (x : Ext K ι H ι' H') {e : Exc} {S : Store} (h : EL K ca W σ ι H e S) : EL K ca W σ ι' H' e S := fun ι2 H2 dd v y R r z => h ι2 H2 dd v (x.trans y) R r z
theorem RelS.set (r : RelS K ι H σd σ) {d : D} {v : V} (h : RelD K ι H d v) (i : Nat) : RelS K ι H (σd.set i (some d)) (σ.set i (some v)) := by
  refine ⟨by rw [List.length_set, List.length_set]; exact r.1, fun j e hj => ?_⟩
  by_cases q : i = j
  · subst q
    by_cases hl : i < σd.length
    · rw [List.getElem?_set_self hl] at hj
      cases hj
      exact ⟨v, List.getElem?_set_self (by rw [← r.1]; exact hl), h⟩
    · rw [List.getElem?_eq_none (by rw [List.length_set]; omega)] at hj
      cases hj
  · rw [List.getElem?_set_ne q] at hj ⊢
    exact r.2 j e hj
theorem RelS.setNone (r : RelS K ι H σd σ) (i : Nat) : RelS K ι H (σd.set i none) (σ.set i none) := by
  refine ⟨by rw [List.length_set, List.length_set]; exact r.1, fun j e hj => ?_⟩
  by_cases q : i = j
  · subst q
    by_cases hl : i < σd.length
    · rw [List.getElem?_set_self hl] at hj
      cases hj
    · rw [List.getElem?_eq_none (by rw [List.length_set]; omega)] at hj
      cases hj
  · rw [List.getElem?_set_ne q] at hj ⊢
    exact r.2 j e hj
theorem RelS.wipe (r : RelS K ι H σd σ) : ∀ vs : List Nat, RelS K ι H (wipeD σd vs) (wipe σ vs)
  | [] => r
  | v :: vs => (RelS.wipe r vs).setNone v
end

section
variable (K : PySem.W.Frag) (ca : Nat → Addr) (g : Bool) (φ : Phi) (W : WX)
/-- an expression's reading -/
def tE (m : Ex) : TE := fun σ H Q => ∃ ι S σd, Rep K ca ι S H ∧ RelS K ι H σd σ ∧ wpE g φ m σd S (QL K ca Q ι H) (EL K ca W σ ι H)
def tAs (m : Exs) : TA := fun σ H Q => ∃ ι S σd, Rep K ca ι S H ∧ RelS K ι H σd σ ∧ wpAs g φ m σd S (QLs K ca Q ι H) (EL K ca W σ ι H)
/-- a test's -/
def tT (m : Ex) : TT := fun σ H Q => ∃ ι S σd, Rep K ca ι S H ∧ RelS K ι H σd σ ∧ wpE g φ m σd S (fun d S1 => ∃ b, truth d S1 = some b ∧ ∀ ι' H', Ext K ι H ι' H' → Rep K ca ι' S1 H' → Q b H') (EL K ca W σ ι H)
end

section
variable {K : PySem.W.Frag} {ca : Nat → Addr} {g : Bool} {φ : Phi} {W : WX} {σ : L2.St} {σd : Sd} {ι : List Addr} {S : Store} {H : Hp}
theorem tE_mk (hφ : PhiMono φ) {m : Ex} {Q : VK} {Q1 : Post} (R : Rep K ca ι S H) (r : RelS K ι H σd σ) (h : wpE g φ m σd S Q1 (EL K ca W σ ι H))
    (hQ : ∀ d S' ι' H' v, Q1 d S' → Ext K ι H ι' H' → Rep K ca ι' S' H' → RelD K ι' H' d v → Q v H') : tE K ca g φ W m σ H Q :=
  ⟨ι, S, σd, R, r, wpE_mono hφ m (fun d S' q ι' H' v x R' rv => hQ d S' ι' H' v q x R' rv) (fun _ _ q => q) h⟩
theorem tAs_mk (hφ : PhiMono φ) {m : Exs} {Q : List V → Hp → Prop} {Q1 : List D → Store → Prop} (R : Rep K ca ι S H) (r : RelS K ι H σd σ) (h : wpAs g φ m σd S Q1 (EL K ca W σ ι H))
    (hQ : ∀ ds S' ι' H' vs, Q1 ds S' → Ext K ι H ι' H' → Rep K ca ι' S' H' → RelDs K ι' H' ds vs → Q vs H') : tAs K ca g φ W m σ H Q :=
  ⟨ι, S, σd, R, r, wpAs_mono hφ m (fun d S' q ι' H' v x R' rv => hQ d S' ι' H' v q x R' rv) (fun _ _ q => q) h⟩
theorem tT_mk (hφ : PhiMono φ) {m : Ex} {Q : Bool → Hp → Prop} {Q1 : Post} (R : Rep K ca ι S H) (r : RelS K ι H σd σ) (h : wpE g φ m σd S Q1 (EL K ca W σ ι H))
    (hQ : ∀ d S', Q1 d S' → ∃ b, truth d S' = some b ∧ ∀ ι' H', Ext K ι H ι' H' → Rep K ca ι' S' H' → Q b H') : tT K ca g φ W m σ H Q :=
  ⟨ι, S, σd, R, r, wpE_mono hφ m (fun d S' q => hQ d S' q) (fun _ _ q => q) h⟩
theorem tAs_nil {Q : List V → Hp → Prop} (h : tAs K ca g φ W .nil σ H Q) : Q [] H := by
  obtain ⟨ι, S, σd, R, r, h⟩ := h
  simp only [wpAs] at h
  exact h ι H [] Ext.refl R .nil
theorem tAs_cons (hφ : PhiMono φ) {m : Ex} {ms : Exs} {Q : List V → Hp → Prop} (h : tAs K ca g φ W (.cons m ms) σ H Q) : tE K ca g φ W m σ H fun x H1 => tAs K ca g φ W ms σ H1 fun xs H2 => Q (x :: xs) H2 := by
  obtain ⟨ι, S, σd, R, r, h⟩ := h
  simp only [wpAs] at h
  refine tE_mk hφ R r h fun d S' ι' H' v q x R' rv => ?_
  refine tAs_mk hφ R' (r.mono x) (wpAs_mono hφ ms (fun _ _ q => q) (fun _ _ z => z.of x) q) fun ds S2 ι2 H2 vs q x2 R2 rs => ?_
  exact q ι2 H2 (v :: vs) (x.trans x2) R2 (.cons (rv.mono x2) rs)
/-- the reading of an operation's arguments -/
theorem tAs_prim (hφ : PhiMono φ) {p : Prim} {es : Exs} {Q : VK} (h : tE K ca g φ W (.prim p es) σ H Q) : tAs K ca g φ W es σ H fun vs H1 => rP K ca g p vs H1 Q := by
  obtain ⟨ι, S, σd, R, r, h⟩ := h
  simp only [wpE] at h
  refine tAs_mk hφ R r h fun ds S' ι' H' vs q x R' rv => ?_
  unfold primW at q
  split at q
  · rename_i o ho
    exact ⟨ι', S', ds, o, R', rv, ho, q.1, q.2.of x⟩
  · exact q.elim
end

/-! ### the context -/
/-- what is wanted of an exception that leaves a call -/
def EX (K : PySem.W.Frag) (ca : Nat → Addr) (E : XK) (ι : List Addr) (H : Hp) : EPost := fun x S' =>
  ∀ ι' H' dd v, Ext K ι H ι' H' → Rep K ca ι' S' H' → RelD K ι' H' x.2 v → H' dd = some (.xd [("value", v)]) → E (.ref (ca x.1)) (some dd) H'
/-- a function's promise -/
def spF (K : PySem.W.Frag) (ca : Nat → Addr) (φ : Phi) (f : Nat) : Sp := fun vs H Q E =>
  ∃ ι S ds, Rep K ca ι S H ∧ RelDs K ι H ds vs ∧ φ f ds S (QL K ca Q ι H) (EX K ca E ι H)
/-- a def keeps its promise, repr known if g -/
structure FnOkG (P : Program) (w : World) (K : PySem.W.Frag) (mg : Str → Option Value) (base : Heap) (g : Bool) (k : Nat) (f : Addr) (fd : FuncData) (ps : List Str) (sp : Sp) : Prop where
  len : ∀ vs H Q E, sp vs H Q E → vs.length = ps.length
  run : ∀ (A : Around) (outer : List Env) (s : Shared) (H : Hp) (args : Args) (us : List Value) (vs : List V) (Q : VK) (E : XK), Room k A → (g = true → A.guards = some []) → Env0 P w K mg base A outer s H →
    BindsTo s fd args (ps.zip us) → Vals vs us → sp vs H Q E → codeAny (model P w) A (.call (.ref f) args) (CR (L2.CX P w) outer P w H s Q E) s
/-- where a function stands -/
def fadr (ca : Nat → Addr) (f : Nat) : Addr := ca (f + 1000000)
/-- a function of the program: where it stands, how its parameters are bound (by place; some by name), its promise -/
structure FnFact (P : Program) (w : World) (K : PySem.W.Frag) (mg : Str → Option Value) (base : Heap) (ca : Nat → Addr) (φ : Phi) (k : Nat) (kws : List (Nat × List Str × List Nat)) (f : Nat) (fn : Fn) : Prop where
  ex : ∃ (fd : FuncData), (fn.cls = none → mg fn.name = some (.ref (fadr ca f))) ∧ PySem.W.keepIn K (.ref (fadr ca f)) = true ∧ (∀ (s : Shared) (us : List Value), us.length = fn.ps.length → BindsTo s fd ⟨us, []⟩ (fn.ps.zip us)) ∧
    (∀ q ∈ kws, ∀ (s : Shared) (us ws rs : List Value), us.length = q.1 → ws.length = q.2.1.length → pick (us ++ ws) q.2.2 = some rs → rs.length = fn.ps.length → BindsTo s fd ⟨us, q.2.1.zip ws⟩ (fn.ps.zip rs)) ∧
    FnOkG P w K mg base fn.g k (fadr ca f) fd fn.ps (spF K ca φ f)
/-- a class of the program -/
structure ClF (K : PySem.W.Frag) (mg : Str → Option Value) (ca : Nat → Addr) (c : Nat) (cl : Cl) : Prop where
  mg : mg cl.name = some (.ref (ca c))
  ok : Cls K (ca c)
  fld : ∀ x ∈ cl.fields, NoAttr K (ca c) x
  prp : ∀ q ∈ cl.props, ∃ p, PropOf K (ca c) q.1 p (fadr ca q.2)
  made : Mk K (ca c) (fadr ca cl.init)

def bltNames : List Str := ["len", "abs", "int", "max", "min", "list", "tuple", "sum", "all", "isinstance", "bool", "repr", "range", "zip", "enumerate", "any", "sorted"]
/-- what a context has to bear -/
structure Good (C : Ck) (ca : Nat → Addr) (φ : Phi) (k : Nat) (X : Cx) (W : WX) : Prop where
  calm : X.calm = true
  nd : X.N.Nodup
  N : X.N = C.N
  sc : X.env.scope = C.sc
  cell : ∀ x, C.cell x = true → X.fn x = true
  gd : C.g = true → X.A.guards = some []
  own : PassesOwn (model X.prog X.w) X.A X.env X.xe
  room : Room k X.A
  room2 : ∀ B : Around, B.handled = X.A.handled → B.depth ≤ X.A.depth + 1 → B.units ≤ X.A.units + 8 → Room k B
  cls : ∀ c cl, C.cls c = some cl → ClF X.K X.mg ca c cl
  takes : Takes X W
  fns : ∀ f fn, C.fns f = some fn → FnFact X.prog X.w X.K X.mg X.base ca φ k (C.kws f) f fn
  blt : ∀ x ∈ bltNames, X.mg x = none
  gls : ∀ p ∈ C.gls, ∃ v u, X.mg p.1 = some u ∧ RelV v u ∧ ∀ ι H, RelD X.K ι H p.2 v

section
variable {C : Ck} {ca : Nat → Addr} {φ : Phi} {k : Nat} {X : Cx} {W : WX}
theorem Good.un (G : Good C ca φ k X W) : X.A.units + 70 < cLine := by
  have := G.room.un
  omega
theorem vis_ok (G : Good C ca φ k X W) {i : Nat} {x : Str} (h : C.vis i x = true) : X.N[i]? = some x ∧ Vis X.env.scope x ∧ (x == ("__debug__" : Str)) = false ∧ (x == ("__classdict__" : Str)) = false := by
  unfold Ck.vis at h
  simp only [Bool.and_eq_true, decide_eq_true_eq, Bool.not_eq_true'] at h
  obtain ⟨⟨⟨h1, h2⟩, h3⟩, h4⟩ := h
  refine ⟨by rw [G.N]; exact h1, ?_, h3, h4⟩
  unfold Vis
  rw [G.sc]
  split at h2
  · exact .inl (by assumption)
  · exact .inr (.inl (by assumption))
  · exact .inr (.inr (by assumption))
  · cases h2
theorem loc_ok (G : Good C ca φ k X W) {i : Nat} {x : Str} (h : C.loc i x = true) : X.N[i]? = some x ∧ L2.Loc X.env.scope x ∧ (X.fn x = true ∨ X.env.scope.names.lookup x = some .local) := by
  unfold Ck.loc at h
  simp only [Bool.and_eq_true, decide_eq_true_eq] at h
  obtain ⟨h1, h2⟩ := h
  refine ⟨by rw [G.N]; exact h1, ?_⟩
  unfold L2.Loc
  rw [G.sc]
  split at h2
  · exact ⟨.inl (by assumption), .inr (by assumption)⟩
  · exact ⟨.inr (by assumption), .inl (G.cell _ h2)⟩
  · cases h2
theorem gl_ok (G : Good C ca φ k X W) {x : Str} (h : C.gl x = true) : Gl X x ∧ (x == ("__debug__" : Str)) = false := by
  unfold Ck.gl at h
  simp only [Bool.and_eq_true, decide_eq_true_eq, Bool.not_eq_true'] at h
  refine ⟨?_, h.2⟩
  show X.env.scope.names.lookup x = _
  rw [G.sc]
  exact h.1
end

/-! ### syntax -/
theorem star_of {e : Expr} (h : plainX e = true) (es : List Expr) (env : Env) : starEach (e :: es) env = (false, eval e env) :: starEach es env := by
  cases e <;> first | rfl | cases h
theorem ix_of {b : Expr} (h : plainX b = true) : PlainIx b := by
  intro o i
  cases b <;> first | rfl | cases h
theorem mark_of {op : CmpOp} {b : Expr} (h : plainX b = true) : behindInMarks op b = false := by
  cases b <;> first | rfl | cases h
theorem fold_of {e : Expr} (h : plainX e = true) (env : Env) (x : Value) : foldedSetIterable e env x = pure x := by
  cases e <;> first | rfl | cases h
theorem test_of {e : Expr} (h : testX e = true) (env : Env) (whole : Sem Value) : isTrue e env whole = (do let v ← whole; standAt e.pos; holding [v] (truthy v)) := by
  cases e <;> first | rfl | cases h

/-- the arguments, one by one -/
inductive AllE (X : Cx) (ca : Nat → Addr) (g : Bool) (φ : Phi) (W : WX) : Exs → List Expr → Prop
  | nil : AllE X ca g φ W .nil []
  | cons {m : Ex} {e : Expr} {ms : Exs} {es : List Expr} : PE X e (tE X.K ca g φ W m) → plainX e = true → AllE X ca g φ W ms es → AllE X ca g φ W (.cons m ms) (e :: es)
theorem AllE.plain {X : Cx} {ca : Nat → Addr} {g : Bool} {φ : Phi} {W : WX} {pos : Pos} : ∀ {ms : Exs} {es : List Expr}, AllE X ca g φ W ms es → (backTo pos (starEach es X.env)).any (·.1) = false
  | _, _, .nil => rfl
  | _, _, .cons _ hp r => by
    rw [star_of hp]
    exact AllE.plain r
theorem AllE.pa {X : Cx} {ca : Nat → Addr} {g : Bool} {φ : Phi} {W : WX} (hφ : PhiMono φ) : ∀ {ms : Exs} {es : List Expr}, AllE X ca g φ W ms es → PA X es (tAs X.K ca g φ W ms)
  | _, _, .nil => ⟨fun pos pins s σ H Q I h => pa_nil.run pos pins s σ H Q I (tAs_nil h)⟩
  | _, _, .cons h hp r => ⟨fun pos pins s σ H Q I q => (pa_cons h (AllE.pa hφ r) (star_of hp _ _)).run pos pins s σ H Q I (tAs_cons hφ q)⟩

theorem _root_.L2.PE.weak {X : Cx} {e : Expr} {t t' : TE} (h : PE X e t) (i : ∀ σ H Q, t' σ H Q → t σ H Q) : PE X e t' := ⟨fun pins s σ H Q I q => h.run pins s σ H Q I (i σ H Q q)⟩
theorem _root_.L2.PT.weak {X : Cx} {e : Expr} {t t' : TT} (h : PT X e t) (i : ∀ σ H Q, t' σ H Q → t σ H Q) : PT X e t' := ⟨fun pins s σ H Q I q => h.run pins s σ H Q I (i σ H Q q)⟩

section
variable {C : Ck} {ca : Nat → Addr} {φ : Phi} {X : Cx} {W : WX} {g : Bool}
/-- two arguments -/
theorem tAs_two (hφ : PhiMono φ) {K : PySem.W.Frag} {a b : Ex} {σ : L2.St} {H : Hp} {Q : List V → Hp → Prop} (h : tAs K ca g φ W (.cons a (.cons b .nil)) σ H Q) : tE K ca g φ W a σ H fun x H1 => tE K ca g φ W b σ H1 fun y H2 => Q [x, y] H2 := by
  obtain ⟨ι, S, σd, R, r, h⟩ := tAs_cons hφ h
  refine tE_mk hφ R r h fun d S' ι' H' v q x R' rv => ?_
  obtain ⟨ι2, S2, σd2, R2, r2, h2⟩ := tAs_cons hφ (q ι' H' v x R' rv)
  exact tE_mk hφ R2 r2 h2 fun d2 S3 ι3 H3 v2 q2 x3 R3 rv2 => tAs_nil (q2 ι3 H3 v2 x3 R3 rv2)
theorem tAs_one (hφ : PhiMono φ) {K : PySem.W.Frag} {a : Ex} {σ : L2.St} {H : Hp} {Q : List V → Hp → Prop} (h : tAs K ca g φ W (.cons a .nil) σ H Q) : tE K ca g φ W a σ H fun x H1 => Q [x] H1 := by
  obtain ⟨ι, S, σd, R, r, h⟩ := tAs_cons hφ h
  exact tE_mk hφ R r h fun d S' ι' H' v q x R' rv => tAs_nil (q ι' H' v x R' rv)
end

/-! ### calls -/
section
variable {C : Ck} {ca : Nat → Addr} {φ : Phi} {k : Nat} {X : Cx} {W : WX}
theorem run_fnG {f : Addr} {fd : FuncData} {ps : List Str} {sp : Sp} {g : Bool} {pins : List (Addr × Obj)} {σ : L2.St} {H : Hp} {s : Shared} {Q : VK} {args : Args} {us : List Value} {vs : List V}
    (F : FnOkG X.prog X.w X.K X.mg X.base g k f fd ps sp) (hr : Room k X.A) (hg : g = true → X.A.guards = some []) (tk : Takes X W) (I : Inv X pins σ H s) (r : Vals vs us) (hb : BindsTo s fd args (ps.zip us)) (h : sp vs H Q (WE W σ)) :
    codeAny (model X.prog X.w) X.A (.call (.ref f) args) (fun r s' => match r with
      | .ok (.ret u) => EP X pins σ Q u s'
      | .ok _ => False
      | .error e => X.xe e s') s := by
  refine codeAny_mono (F.run X.A X.stack s H args us vs Q (WE W σ) hr hg I.env0 hb r h) fun r s' hq => ?_
  cases r with
  | error e => exact passAt tk σ pins H s e s' I hq
  | ok fl => cases fl <;> first | exact I.after hq | exact hq.elim
theorem call_fnG {f : Addr} {fd : FuncData} {ps : List Str} {sp : Sp} {g : Bool} {pins : List (Addr × Obj)} {σ : L2.St} {H : Hp} {s : Shared} {Q : VK} {us ws : List Value} {kw : List (Str × Value)} {vs : List V}
    (F : FnOkG X.prog X.w X.K X.mg X.base g k f fd ps sp) (hr : Room k X.A) (hg : g = true → X.A.guards = some []) (tk : Takes X W) (I : Inv X pins σ H s) (r : Vals vs ws) (hb : BindsTo s fd ⟨us, kw⟩ (ps.zip ws)) (h : sp vs H Q (WE W σ)) :
    wpAny (model X.prog X.w) X.A (call (.ref f) us kw) (EP X pins σ Q) X.xe s := by
  refine wpAny_call (codeAny_mono (run_fnG F hr hg tk I r hb h) fun r s' hq => ?_)
  cases r with
  | error e => exact hq
  | ok fl => cases fl <;> first | exact hq | exact hq.elim

theorem tE_call (hφ : PhiMono φ) {g : Bool} {f : Nat} {es : Exs} {σ : L2.St} {H : Hp} {Q : VK} (h : tE X.K ca g φ W (.call f es) σ H Q) : tAs X.K ca g φ W es σ H fun vs H1 => spF X.K ca φ f vs H1 Q (WE W σ) := by
  obtain ⟨ι, S, σd, R, r, h⟩ := h
  simp only [wpE] at h
  refine tAs_mk hφ R r h fun ds S' ι' H' vs q x R' rv => ?_
  exact ⟨ι', S', ds, R', rv, hφ _ _ _ _ _ _ _ (fun d S1 q => q.of x) (fun e S1 q => q.of x) q⟩
end
end CC
/-! Expressions, one form after another. -/
namespace CC
open L2 PySem PySem.Spec PyProof.Rows

section
variable {K : PySem.W.Frag} {ca : Nat → Addr} {φ : Phi} {W : WX} {g : Bool} {σ : L2.St} {H : Hp} {Q : VK}
theorem prim1 (hφ : PhiMono φ) {p : Prim} {a : Ex} (h : tE K ca g φ W (.prim p (.cons a .nil)) σ H Q) : tE K ca g φ W a σ H fun x H1 => rP K ca g p [x] H1 Q := tAs_one hφ (tAs_prim hφ h)
theorem prim2 (hφ : PhiMono φ) {p : Prim} {a b : Ex} (h : tE K ca g φ W (.prim p (.cons a (.cons b .nil))) σ H Q) : tE K ca g φ W a σ H fun x H1 => tE K ca g φ W b σ H1 fun y H2 => rP K ca g p [x, y] H2 Q := tAs_two hφ (tAs_prim hφ h)
theorem tAs_three (hφ : PhiMono φ) {a b c : Ex} {R : List V → Hp → Prop} (h : tAs K ca g φ W (.cons a (.cons b (.cons c .nil))) σ H R) : tE K ca g φ W a σ H fun x H1 => tE K ca g φ W b σ H1 fun y H2 => tE K ca g φ W c σ H2 fun z H3 => R [x, y, z] H3 := by
  obtain ⟨ι, S, σd, R1, r, h⟩ := tAs_cons hφ h
  exact tE_mk hφ R1 r h fun d S' ι' H' v q x R' rv => tAs_two hφ (q ι' H' v x R' rv)

/-- a value that is a bool -/
def BoolE (g : Bool) (φ : Phi) (m : Ex) : Prop := ∀ (σ : Sd) (S : Store) (Q : Post) (E : EPost), wpE g φ m σ S Q E → wpE g φ m σ S (fun d S1 => (∃ b, d = .bl b) ∧ Q d S1) E
theorem tT_tE (hφ : PhiMono φ) {m : Ex} {Q : Bool → Hp → Prop} (hb : BoolE g φ m) (h : tT K ca g φ W m σ H Q) : tE K ca g φ W m σ H fun x H' => ∃ k, x = .bl k ∧ Q k H' := by
  obtain ⟨ι, S, σd, R, r, q⟩ := h
  refine tE_mk hφ R r (hb _ _ _ _ q) fun d S' ι' H' v q x R' rv => ?_
  obtain ⟨⟨b, e⟩, c, hc, k⟩ := q
  subst e
  cases rv
  cases hc
  exact ⟨_, rfl, k ι' H' x R'⟩
theorem cmpR_bl {op : CmpOp} {x y : D} {S : Store} {o : Out} (h : cmpR op x y S = some o) : ∃ b, o.d = .bl b := by
  unfold cmpR at h
  split at h <;> split at h <;> first | (cases h; exact ⟨_, rfl⟩) | (cases h; done) | (split at h <;> first | (cases h; exact ⟨_, rfl⟩) | cases h)
theorem primW_bl {op : CmpOp} {ds : List D} {S : Store} {Q : Post} (h : primW g (.cmp op) ds S Q) : primW g (.cmp op) ds S (fun d S1 => (∃ b, d = .bl b) ∧ Q d S1) := by
  unfold primW at h ⊢
  split at h
  · rename_i o ho
    refine ⟨h.1, ?_, h.2⟩
    match ds, ho with
    | [x, y], ho => exact cmpR_bl ho
    | [], ho => cases ho
    | [_], ho => cases ho
    | _ :: _ :: _ :: _, ho => cases ho
  · exact h
theorem boolE_cmp (hφ : PhiMono φ) {op : CmpOp} {es : Exs} : BoolE g φ (.prim (.cmp op) es) := fun σ S Q E h => by
  simp only [wpE] at h ⊢
  exact wpAs_mono hφ es (fun ds S1 q => primW_bl q) (fun _ _ z => z) h
theorem boolE_chain (hφ : PhiMono φ) {op op' : CmpOp} {a b c : Ex} : BoolE g φ (.chain op op' a b c) := fun σ S Q E h => by
  simp only [wpE] at h ⊢
  refine wpE_mono hφ a (fun x S1 q => wpE_mono hφ b (fun y S2 q => primW_mono (fun z S3 q => ?_) q) (fun _ _ z => z) q) (fun _ _ z => z) h
  split at q
  · exact wpE_mono hφ c (fun w S4 q => primW_bl q) (fun _ _ z => z) q
  · exact ⟨⟨_, rfl⟩, q⟩
  · exact q
theorem base_of {o : Expr} (h : baseX o = true) (x : Str) (env : Env) (w : Sem Value) : attributeBase o x env w = w := by
  unfold attributeBase
  split
  · cases h
  · rfl
end

section
variable {C : Ck} {ca : Nat → Addr} {φ : Phi} {k : Nat} {X : Cx} {W : WX} {g t : Bool} {e : Expr}
theorem pt_of_pe (hφ : PhiMono φ) {m : Ex} (h : PE X e (tE X.K ca g φ W m)) (ht : testX e = true) : PT X e (tT X.K ca g φ W m) := by
  refine (pt_truth h (fun w => test_of ht X.env w)).weak fun σ H Q q => ?_
  obtain ⟨ι, S, σd, R, r, q⟩ := q
  exact tE_mk hφ R r q fun d S' ι' H' v q x R' rv => by
    obtain ⟨b, hb, k⟩ := q
    exact ⟨b, truth_of R' hb rv, k ι' H' x R'⟩

theorem c_var (G : Good C ca φ k X W) {i : Nat} (h : chkE C t (.var i) e = true) : PE X e (tE X.K ca C.g φ W (.var i)) ∧ testX e = true := by
  simp only [chkE] at h
  split at h
  · obtain ⟨h1, h2, h3, h4⟩ := vis_ok G h
    refine ⟨(pe_var h1 h2 h3 h4).weak fun σ H Q q => ?_, rfl⟩
    obtain ⟨ι, S, σd, R, r, q⟩ := q
    simp only [wpE] at q
    split at q
    · rename_i d hd
      obtain ⟨v, e, rv⟩ := r.2 i d hd
      exact ⟨v, e, q ι H v Ext.refl R rv⟩
    · exact q.elim
  · cases h
theorem c_const {d : D} (h : chkE C t (.const d) e = true) : PE X e (tE X.K ca C.g φ W (.const d)) ∧ testX e = true := by
  simp only [chkE] at h
  split at h
  · refine ⟨?_, rfl⟩
    unfold isConst at h
    split at h
    · exact pe_non.weak fun σ H Q ⟨ι, S, σd, R, r, q⟩ => by
        simp only [wpE] at q
        exact q ι H .non Ext.refl R .non
    · cases of_decide_eq_true h
      exact pe_bl.weak fun σ H Q ⟨ι, S, σd, R, r, q⟩ => by
        simp only [wpE] at q
        exact q ι H (.bl _) Ext.refl R (.bl _)
    · cases of_decide_eq_true h
      exact pe_int.weak fun σ H Q ⟨ι, S, σd, R, r, q⟩ => by
        simp only [wpE] at q
        exact q ι H (.int _) Ext.refl R (.int _)
    · cases of_decide_eq_true h
      exact pe_str.weak fun σ H Q ⟨ι, S, σd, R, r, q⟩ => by
        simp only [wpE] at q
        exact q ι H (.str _) Ext.refl R (.str _)
    · cases h
  · cases h
theorem c_glob (G : Good C ca φ k X W) {x : Str} {d : D} (h : chkE C t (.glob x d) e = true) : PE X e (tE X.K ca C.g φ W (.glob x d)) ∧ testX e = true := by
  simp only [chkE] at h
  split at h
  · simp only [Bool.and_eq_true, decide_eq_true_eq, List.any_eq_true] at h
    obtain ⟨⟨h1, h2⟩, p, h3, h4, h5⟩ := h
    subst h1
    obtain ⟨v, u, m, r, rd⟩ := G.gls p h3
    obtain ⟨g1, g2⟩ := gl_ok G h2
    rw [h4] at m
    refine ⟨(pe_glob g1 m r g2).weak fun σ H Q q => ?_, rfl⟩
    obtain ⟨ι, S, σd, R, r, q⟩ := q
    simp only [wpE] at q
    exact q ι H v Ext.refl R (by rw [← D.beq_eq h5]; exact rd ι H)
  · cases h
end

/-! ### arguments of so many -/
section
variable {X : Cx} {ca : Nat → Addr} {g : Bool} {φ : Phi} {W : WX} {es : Exs}
theorem AllE.one {a : Expr} (h : AllE X ca g φ W es [a]) : ∃ m, es = .cons m .nil ∧ PE X a (tE X.K ca g φ W m) ∧ plainX a = true := by
  cases h with
  | cons h1 h2 h3 => cases h3; exact ⟨_, rfl, h1, h2⟩
theorem AllE.two {a b : Expr} (h : AllE X ca g φ W es [a, b]) : ∃ m n, es = .cons m (.cons n .nil) ∧ PE X a (tE X.K ca g φ W m) ∧ plainX a = true ∧ PE X b (tE X.K ca g φ W n) ∧ plainX b = true := by
  cases h with
  | cons h1 h2 h3 =>
    obtain ⟨n, rfl, h4, h5⟩ := h3.one
    exact ⟨_, _, rfl, h1, h2, h4, h5⟩
theorem AllE.three {a b c : Expr} (h : AllE X ca g φ W es [a, b, c]) : ∃ m n o, es = .cons m (.cons n (.cons o .nil)) ∧ PE X a (tE X.K ca g φ W m) ∧ PE X b (tE X.K ca g φ W n) ∧ PE X c (tE X.K ca g φ W o) := by
  cases h with
  | cons h1 h2 h3 =>
    obtain ⟨n, o, rfl, h4, h5, h6, h7⟩ := h3.two
    exact ⟨_, _, _, rfl, h1, h4, h6⟩
end

/-! ### what is proved of the parts -/
def isBoolOp : Expr → Bool
  | .BoolOp _ _ _ => true
  | _ => false
structure SndE (m : Ex) : Prop where
  pe : ∀ {C : Ck} {ca : Nat → Addr} {φ : Phi} {k : Nat} {X : Cx} {W : WX} {e : Expr}, PhiMono φ → Good C ca φ k X W → chkE C false m e = true → PE X e (tE X.K ca C.g φ W m)
  pt : ∀ {C : Ck} {ca : Nat → Addr} {φ : Phi} {k : Nat} {X : Cx} {W : WX} {e : Expr}, PhiMono φ → Good C ca φ k X W → chkE C true m e = true → PT X e (tT X.K ca C.g φ W m)
  pw : ∀ {C : Ck} {ca : Nat → Addr} {φ : Phi} {k : Nat} {X : Cx} {W : WX} {e : Expr}, PhiMono φ → Good C ca φ k X W → chkE C true m e = true → isBoolOp e = true → PW X e (tT X.K ca C.g φ W m)
structure SndEs (ms : Exs) : Prop where
  all : ∀ {C : Ck} {ca : Nat → Addr} {φ : Phi} {k : Nat} {X : Cx} {W : WX} {es : List Expr}, PhiMono φ → Good C ca φ k X W → chkEs C ms es = true → AllE X ca C.g φ W ms es
  cond : ∀ {C : Ck} {ca : Nat → Addr} {φ : Phi} {k : Nat} {X : Cx} {W : WX} {es : List Expr}, PhiMono φ → Good C ca φ k X W → chkCond C ms es = true → (ms = .nil ∧ es = []) ∨ ∃ m e, ms = .cons m .nil ∧ es = [e] ∧ PT X e (tT X.K ca C.g φ W m)

/-- from the value's rule -/
theorem SndE.of {m : Ex} (h : ∀ {C : Ck} {ca : Nat → Addr} {φ : Phi} {k : Nat} {X : Cx} {W : WX} {e : Expr} {t : Bool}, PhiMono φ → Good C ca φ k X W → chkE C t m e = true → PE X e (tE X.K ca C.g φ W m) ∧ testX e = true) : SndE m where
  pe := fun hφ G hc => (h hφ G hc).1
  pt := fun hφ G hc => pt_of_pe hφ (h hφ G hc).1 (h hφ G hc).2
  pw := fun hφ G hc hb => by
    have := (h hφ G hc).2
    rename_i e
    cases e <;> first | (cases hb; done) | (cases this; done)
theorem snd_var (i : Nat) : SndE (.var i) := .of fun _ G h => c_var G h
theorem snd_const (d : D) : SndE (.const d) := .of fun _ _ h => c_const h
theorem snd_glob (x : Str) (d : D) : SndE (.glob x d) := .of fun _ G h => c_glob G h
theorem snd_nil : SndEs .nil where
  all := fun {_ _ _ _ _ _ es} _ _ h => by
    simp only [chkEs] at h
    split at h
    · exact .nil
    · cases h
  cond := fun {_ _ _ _ _ _ es} _ _ h => by
    simp only [chkCond] at h
    split at h
    · exact .inl ⟨rfl, rfl⟩
    · cases h
theorem snd_cons {m : Ex} {ms : Exs} (h1 : SndE m) (h2 : SndEs ms) : SndEs (.cons m ms) where
  all := fun hφ G h => by
    simp only [chkEs] at h
    split at h
    · simp only [Bool.and_eq_true] at h
      exact .cons (h1.pe hφ G h.1.1) h.1.2 (h2.all hφ G h.2)
    · cases h
  cond := fun hφ G h => by
    simp only [chkCond] at h
    split at h
    · exact .inr ⟨_, _, rfl, rfl, h1.pt hφ G h⟩
    · cases h

/-! ### operations -/
section
variable {C : Ck} {ca : Nat → Addr} {φ : Phi} {k : Nat} {X : Cx} {W : WX} {es : Exs} {e : Expr}
theorem Good.blt' (G : Good C ca φ k X W) {x : Str} (h : bltNames.contains x = true) : X.mg x = none := G.blt x (by simpa using h)
theorem boot_blt (b : Blt) : bootBuiltins b.nm = some b.val ∧ bltNames.contains b.nm = true := by
  cases b <;> decide +kernel
theorem call_of {b : Blt} {x : Str} {p pos : Pos} {a : Expr} {r : List Expr} (hφ : PhiMono φ) (G : Good C ca φ k X W) (hx : x = b.nm) (hg : C.gl x = true) (h : AllE X ca C.g φ W es (a :: r)) :
    PE X (.Call (.Name x p) (a :: r) [] pos) (tE X.K ca C.g φ W (.prim (.blt b) es)) := by
  subst hx
  obtain ⟨g1, g2⟩ := gl_ok G hg
  obtain ⟨v1, v2⟩ := boot_blt b
  have hp := h.pa hφ
  have hs : starEach (a :: r) X.env = (false, eval a X.env) :: starEach r X.env := by
    cases h with
    | cons z1 z2 z3 => exact star_of z2 _ _
  have hl : (backTo pos (starEach r X.env)).any (·.1) = false := by
    cases h with
    | cons z1 z2 z3 => exact z3.plain
  have hm := G.blt' v2
  have hc := call_P (X := X) (ca := ca) (g := C.g) G.calm b
  cases b with
  | int => exact (pe_callTy hc g1 hm v1 hp (by decide) g2 hs hl).weak fun σ H Q q => tAs_prim hφ q
  | list => exact (pe_callTy hc g1 hm v1 hp (by decide) g2 hs hl).weak fun σ H Q q => tAs_prim hφ q
  | tuple => exact (pe_callTy hc g1 hm v1 hp (by decide) g2 hs hl).weak fun σ H Q q => tAs_prim hφ q
  | len => exact (pe_callB hc g1 hm v1 hp (by decide) g2 hs hl).weak fun σ H Q q => tAs_prim hφ q
  | abs => exact (pe_callB hc g1 hm v1 hp (by decide) g2 hs hl).weak fun σ H Q q => tAs_prim hφ q
  | max1 => exact (pe_callB hc g1 hm v1 hp (by decide) g2 hs hl).weak fun σ H Q q => tAs_prim hφ q
  | max2 => exact (pe_callB hc g1 hm v1 hp (by decide) g2 hs hl).weak fun σ H Q q => tAs_prim hφ q
  | min2 => exact (pe_callB hc g1 hm v1 hp (by decide) g2 hs hl).weak fun σ H Q q => tAs_prim hφ q
  | sum => exact (pe_callB hc g1 hm v1 hp (by decide) g2 hs hl).weak fun σ H Q q => tAs_prim hφ q
  | all => exact (pe_callB hc g1 hm v1 hp (by decide) g2 hs hl).weak fun σ H Q q => tAs_prim hφ q
  | max4 => exact (pe_callB hc g1 hm v1 hp (by decide) g2 hs hl).weak fun σ H Q q => tAs_prim hφ q
  | any => exact (pe_callB hc g1 hm v1 hp (by decide) g2 hs hl).weak fun σ H Q q => tAs_prim hφ q
  | sorted => exact (pe_callB hc g1 hm v1 hp (by decide) g2 hs hl).weak fun σ H Q q => tAs_prim hφ q
end
end CC
/-! Expressions: operations, tests, calls. -/
namespace CC
open L2 PySem PySem.Spec PyProof.Rows

section
variable {C : Ck} {ca : Nat → Addr} {φ : Phi} {k : Nat} {X : Cx} {W : WX} {es : Exs} {e : Expr} {t : Bool}
theorem ltL (xs : List V) : xs.length = xs.length := rfl

theorem c_cmp (hφ : PhiMono φ) (G : Good C ca φ k X W) (S : SndEs es) {op : CmpOp} (h : chkE C t (.prim (.cmp op) es) e = true) :
    PE X e (tE X.K ca C.g φ W (.prim (.cmp op) es)) ∧ PT X e (tT X.K ca C.g φ W (.prim (.cmp op) es)) ∧ isBoolOp e = false := by
  simp only [chkE] at h
  split at h
  · simp only [Bool.and_eq_true, decide_eq_true_eq] at h
    obtain ⟨rfl, h⟩ := h
    obtain ⟨m, n, rfl, ha, pa, hb, pb⟩ := (S.all hφ G h).two
    have hu : X.A.units + 65 < cLine := by
      have := G.un
      omega
    refine ⟨(pe_cmpR (op_cmpP (g := C.g) (ca := ca) hu op) ha hb (mark_of pb)).weak fun σ H Q q => prim2 hφ q, ?_, rfl⟩
    exact (pt_cmpR (op_cmpP (g := C.g) (ca := ca) hu op) ha hb (mark_of pb)).weak fun σ H Q q => prim2 hφ (tT_tE hφ (boolE_cmp hφ) q)
  · cases h
theorem c_neg (hφ : PhiMono φ) (G : Good C ca φ k X W) (S : SndEs es) (h : chkE C t (.prim .neg es) e = true) :
    PE X e (tE X.K ca C.g φ W (.prim .neg es)) ∧ t = false := by
  simp only [chkE] at h
  split at h
  · simp only [Bool.and_eq_true, Bool.not_eq_true'] at h
    obtain ⟨m, rfl, ha, pa⟩ := (S.all hφ G h.2).one
    exact ⟨(pe_un (un_negP (g := C.g) (ca := ca)) ha).weak fun σ H Q q => prim1 hφ q, h.1⟩
  · cases h
/-- a slice -/
theorem slc_ok {d : D} {v : V} {lo hi : Option Int} {o : Out} {H : Hp} {ι : List Addr} {S : Store} {Q : VK} (R : Rep X.K ca ι S H) (r : RelD X.K ι H d v) (ho : slcR d lo hi S = some o) (hq : QL X.K ca Q ι H o.d o.S) : rSlL X.K v lo hi H Q ∨ rSlT X.K v lo hi H Q := by
  unfold slcR at ho
  split at ho
  · split at ho
    · rename_i l xs h1
      cases ho
      obtain ⟨a, vs, e1, e2, e3⟩ := R.seq h1 r
      exact .inl ⟨a, vs, e1, e2, hq.new R (e3.cut lo hi)⟩
    · cases ho
  · split at ho
    · cases ho
    · rename_i hne
      cases ho
      cases r with
      | tup h1 h2 => exact .inr ⟨_, _, rfl, h1, by rw [← h2.length]; exact hne, hq.newT R (h2.cut lo hi)⟩
  · cases ho
theorem c_slc (hφ : PhiMono φ) (G : Good C ca φ k X W) (S : SndEs es) {lo hi : Bool} (h : chkE C t (.prim (.slc lo hi) es) e = true) :
    PE X e (tE X.K ca C.g φ W (.prim (.slc lo hi) es)) ∧ testX e = true := by
  simp only [chkE] at h
  split at h
  · simp only [Bool.and_eq_true, Bool.not_eq_true'] at h
    obtain ⟨⟨rfl, rfl⟩, h⟩ := h
    obtain ⟨m, rfl, ha, pa⟩ := (S.all hφ G h).one
    refine ⟨(pe_slice (sl_list.or sl_tup) ha po_none po_none).weak fun σ H Q q => ?_, rfl⟩
    obtain ⟨ι, S, σd, R, r, q⟩ := prim1 hφ q
    refine tE_mk hφ R r q fun d S' ι' H' v q x R' rv => ?_
    obtain ⟨ι2, S2, ds, o, R2, r2, ho, hc, hq⟩ := q ι' H' v x R' rv
    cases r2 with
    | cons r2 r3 =>
      cases r3
      simp only [primR] at ho
      exact slc_ok R2 r2 ho hq
  · simp only [Bool.and_eq_true, Bool.not_eq_true'] at h
    obtain ⟨⟨rfl, rfl⟩, h⟩ := h
    obtain ⟨m, n, rfl, ha, pa, hb, pb⟩ := (S.all hφ G h).two
    refine ⟨(pe_slice (sl_list.or sl_tup) ha (po_some hb) po_none).weak fun σ H Q q => ?_, rfl⟩
    obtain ⟨ι, S, σd, R, r, q⟩ := prim2 hφ q
    refine tE_mk hφ R r q fun d S' ι' H' v q x R' rv => ?_
    obtain ⟨ι, S, σd, R, r, q⟩ := q ι' H' v x R' rv
    refine tE_mk hφ R r q fun d S' ι' H' v q x R' rv => ?_
    obtain ⟨ι2, S2, ds, o, R2, r2, ho, hc, hq⟩ := q ι' H' v x R' rv
    cases r2 with
    | cons r2 r3 =>
      cases r3 with
      | cons r3 r4 =>
        cases r4
        cases r3 with
        | int i =>
          simp only [primR] at ho
          exact ⟨i, rfl, slc_ok R2 r2 ho hq⟩
        | _ => simp only [primR] at ho; cases ho
  · simp only [Bool.and_eq_true, Bool.not_eq_true'] at h
    obtain ⟨⟨rfl, rfl⟩, h⟩ := h
    obtain ⟨m, n, rfl, ha, pa, hb, pb⟩ := (S.all hφ G h).two
    refine ⟨(pe_slice (sl_list.or sl_tup) ha po_none (po_some hb)).weak fun σ H Q q => ?_, rfl⟩
    obtain ⟨ι, S, σd, R, r, q⟩ := prim2 hφ q
    refine tE_mk hφ R r q fun d S' ι' H' v q x R' rv => ?_
    obtain ⟨ι, S, σd, R, r, q⟩ := q ι' H' v x R' rv
    refine tE_mk hφ R r q fun d S' ι' H' v q x R' rv => ?_
    obtain ⟨ι2, S2, ds, o, R2, r2, ho, hc, hq⟩ := q ι' H' v x R' rv
    cases r2 with
    | cons r2 r3 =>
      cases r3 with
      | cons r3 r4 =>
        cases r4
        cases r3 with
        | int i =>
          simp only [primR] at ho
          exact ⟨i, rfl, slc_ok R2 r2 ho hq⟩
        | _ => simp only [primR] at ho; cases ho
  · cases h
theorem c_cut (hφ : PhiMono φ) (G : Good C ca φ k X W) {a b c : Ex} (Sa : SndE a) (Sb : SndE b) (Sc : SndE c) (h : chkE C t (.cut a b c) e = true) :
    PE X e (tE X.K ca C.g φ W (.cut a b c)) ∧ testX e = true := by
  simp only [chkE] at h
  split at h
  · simp only [Bool.and_eq_true] at h
    refine ⟨(pe_slice (sl_list.or sl_tup) (Sa.pe hφ G h.1.1) (po_some (Sb.pe hφ G h.1.2)) (po_some (Sc.pe hφ G h.2))).weak fun σ H Q q => ?_, rfl⟩
    obtain ⟨ι0, S0, σd, R0, r0, q⟩ := q
    simp only [wpE] at q
    refine tE_mk hφ R0 r0 q fun d1 S1 ι1 H1 v1 q x1 R1 rv1 => ?_
    refine tE_mk hφ R1 (r0.mono x1) (wpE_mono hφ b (fun _ _ q => q) (fun _ _ z => z.of x1) q) fun d2 S2 ι2 H2 v2 q x2 R2 rv2 => ?_
    cases rv2 with
    | int i =>
      refine ⟨i, rfl, tE_mk hφ R2 ((r0.mono x1).mono x2) (wpE_mono hφ c (fun _ _ q => q) (fun _ _ z => (z.of x1).of x2) q.2) fun d3 S3 ι3 H3 v3 q x3 R3 rv3 => ?_⟩
      unfold primW at q
      split at q
      · rename_i o ho
        cases rv3 with
        | int j =>
          simp only [primR] at ho
          exact ⟨j, rfl, slc_ok R3 ((rv1.mono x2).mono x3) ho (((q.2.of x1).of x2).of x3)⟩
        | _ => simp only [primR] at ho; cases ho
      · exact q.elim
    | _ => exact Bool.noConfusion q.1
  · cases h
end
end CC
/-! Expressions: the other operations, methods, and, or, not, calls. -/
namespace CC
open L2 PySem PySem.Spec PyProof.Rows

section
variable {C : Ck} {ca : Nat → Addr} {φ : Phi} {k : Nat} {X : Cx} {W : WX} {es : Exs} {e : Expr} {t : Bool}
theorem rng_rel0 {K : PySem.W.Frag} {ι : List Addr} {H : Hp} : ∀ (n : Nat) (a : Int), RelDs K ι H (rangeL a n) ((List.range n).map fun i => V.int (a + (i : Nat)))
  | 0, a => .nil
  | n + 1, a => by
    rw [List.range_succ_eq_map, List.map_cons, List.map_map]
    refine .cons (by rw [show a + ((0 : Nat) : Int) = a by omega]; exact .int a) ?_
    have z := rng_rel0 (K := K) (ι := ι) (H := H) n (a + 1)
    rw [show ((fun i : Nat => V.int (a + (i : Nat))) ∘ Nat.succ) = fun i : Nat => V.int (a + 1 + (i : Nat)) from funext fun i => by
      show V.int (a + ((i + 1 : Nat) : Int)) = V.int (a + 1 + (i : Nat))
      congr 1
      omega]
    exact z
theorem rng_rel (K : PySem.W.Frag) (ι : List Addr) (H : Hp) (a b : Int) : RelDs K ι H (rangeL a (b - a).toNat) (rgV a b) := rng_rel0 _ a
theorem ne_of_isEmpty {α : Type} {xs : List α} (h : (!xs.isEmpty) = true) : ∃ a r, xs = a :: r := by
  cases xs with
  | nil => cases h
  | cons a r => exact ⟨a, r, rfl⟩
/-- any operation but the comparisons and the minus -/
theorem c_prim (hφ : PhiMono φ) (G : Good C ca φ k X W) (S : SndEs es) {p : Prim} (h : chkE C t (.prim p es) e = true) (h1 : ∀ op, p ≠ .cmp op) (h2 : p ≠ .neg) :
    PE X e (tE X.K ca C.g φ W (.prim p es)) ∧ testX e = true := by
  have h0 := h
  simp only [chkE] at h
  cases p with
  | cmp op => exact absurd rfl (h1 op)
  | neg => exact absurd rfl h2
  | slc lo hi => exact c_slc hφ G S h0
  | bin op =>
    dsimp only at h
    split at h
    · simp only [Bool.and_eq_true, decide_eq_true_eq] at h
      obtain ⟨rfl, h⟩ := h
      obtain ⟨m, n, rfl, ha, pa, hb, pb⟩ := (S.all hφ G h).two
      exact ⟨(pe_op (op_bin (g := C.g) (ca := ca) op) ha hb).weak fun σ H Q q => prim2 hφ q, rfl⟩
    · cases h
  | tup =>
    dsimp only at h
    split at h
    · refine ⟨(pe_tup ((S.all hφ G h).pa hφ)).weak fun σ H Q q => ?_, rfl⟩
      obtain ⟨ι, S, σd, R, r, q⟩ := tAs_prim hφ q
      refine tAs_mk hφ R r q fun ds S' ι' H' vs q x R' rv => ?_
      obtain ⟨ι2, S2, ds, o, R2, r2, ho, hc, hq⟩ := q ι' H' vs x R' rv
      simp only [primR] at ho
      cases ho
      exact ⟨by rw [← r2.length]; exact hc, hq.newT R2 r2⟩
    · cases h
  | lst =>
    dsimp only at h
    split at h
    · refine ⟨(pe_lst ((S.all hφ G h).pa hφ)).weak fun σ H Q q => ?_, rfl⟩
      obtain ⟨ι, S, σd, R, r, q⟩ := tAs_prim hφ q
      refine tAs_mk hφ R r q fun ds S' ι' H' vs q x R' rv => ?_
      obtain ⟨ι2, S2, ds, o, R2, r2, ho, hc, hq⟩ := q ι' H' vs x R' rv
      simp only [primR] at ho
      cases ho
      exact ⟨by rw [← r2.length]; exact hc, hq.new R2 r2⟩
    · cases h
  | idx =>
    dsimp only at h
    split at h
    · obtain ⟨m, n, rfl, ha, pa, hb, pb⟩ := (S.all hφ G h).two
      exact ⟨(pe_ix (ix_P (g := C.g) (ca := ca)) ha hb (ix_of pb)).weak fun σ H Q q => prim2 hφ q, rfl⟩
    · cases h
  | rev =>
    dsimp only at h
    split at h
    · obtain ⟨m, rfl, ha, pa⟩ := (S.all hφ G h).one
      refine ⟨(pe_revL ha).weak fun σ H Q q => ?_, rfl⟩
      obtain ⟨ι, S, σd, R, r, q⟩ := prim1 hφ q
      refine tE_mk hφ R r q fun d S' ι' H' v q x R' rv => ?_
      obtain ⟨ι2, S2, ds, o, R2, r2, ho, hc, hq⟩ := q ι' H' v x R' rv
      cases r2 with
      | cons r2 r3 =>
        cases r3
        cases r2 with
        | ref z =>
          simp only [primR] at ho
          split at ho
          · rename_i l xs h1
            cases ho
            obtain ⟨a, vs, e1, e2, e3⟩ := R2.seq h1 (.ref z)
            exact ⟨a, vs, e1, e2, hq.new R2 e3.reverse⟩
          · cases ho
        | _ => simp only [primR] at ho; cases ho
    · cases h
  | blt b =>
    dsimp only at h
    split at h
    · simp only [Bool.and_eq_true, decide_eq_true_eq] at h
      obtain ⟨⟨⟨hx, hg⟩, h⟩, hn⟩ := h
      obtain ⟨a, r, rfl⟩ := ne_of_isEmpty hn
      exact ⟨call_of hφ G hx hg (S.all hφ G h), rfl⟩
    · cases h
  | isa ty =>
    dsimp only at h
    split at h
    · rename_i x p1 a y p2 p3
      simp only [Bool.and_eq_true, decide_eq_true_eq] at h
      obtain ⟨⟨⟨⟨hx, hg⟩, hy⟩, hgy⟩, h⟩ := h
      subst hx hy
      obtain ⟨m, rfl, ha, pa⟩ := (S.all hφ G h).one
      obtain ⟨g1, g2⟩ := gl_ok G hg
      obtain ⟨g3, g4⟩ := gl_ok G hgy
      have hm : X.mg ty.nm = none := G.blt' (by cases ty <;> decide +kernel)
      have hv : bootBuiltins ty.nm = some (.type ty.name) := by cases ty <;> decide +kernel
      have hb : PE X (.Name ty.nm p2) (tC (.ty ty.name)) := pe_bltn g3 hm hv rfl (by cases ty <;> decide) g4
      refine ⟨(pe_callB (call_isa (g := C.g) (ca := ca) ty) g1 (G.blt' (by decide +kernel)) (by decide +kernel) (pa_cons ha (pa_cons hb pa_nil rfl) (star_of pa _ _)) (by decide) g2 (star_of pa _ _) rfl).weak fun σ H Q q => ?_, rfl⟩
      obtain ⟨ι, S, σd, R, r, q⟩ := prim1 hφ q
      refine tE_mk hφ R r q fun d S' ι' H' v q x R' rv => ?_
      exact ⟨v, rfl, q ι' H' v x R' rv⟩
    · cases h
  | repr =>
    dsimp only at h
    split at h
    · simp only [Bool.and_eq_true, decide_eq_true_eq] at h
      obtain ⟨⟨hx, hg⟩, h⟩ := h
      subst hx
      obtain ⟨m, rfl, ha, pa⟩ := (S.all hφ G h).one
      obtain ⟨g1, g2⟩ := gl_ok G hg
      exact ⟨(pe_callB (call_repr (g := C.g) (ca := ca) G.gd G.un) g1 (G.blt' (by decide +kernel)) (by decide +kernel) (pa_cons ha pa_nil (star_of pa _ _)) (by decide) g2 (star_of pa _ _) rfl).weak fun σ H Q q => prim1 hφ q, rfl⟩
    · cases h
  | bits =>
    dsimp only at h
    split at h
    · simp only [Bool.and_eq_true, decide_eq_true_eq] at h
      obtain ⟨⟨⟨hx, h⟩, hb⟩, hl⟩ := h
      subst hx
      obtain ⟨m, rfl, ha, pa⟩ := (S.all hφ G h).one
      refine ⟨(pe_bits ha (base_of hb _ _ _) hl).weak fun σ H Q q => ?_, rfl⟩
      obtain ⟨ι, S, σd, R, r, q⟩ := prim1 hφ q
      refine tE_mk hφ R r q fun d S' ι' H' v q x R' rv => ?_
      obtain ⟨ι2, S2, ds, o, R2, rs, ho, hc, hq⟩ := q ι' H' v x R' rv
      cases rs with
      | cons r1 rs =>
        cases rs
        cases r1 with
        | int i =>
          simp only [primR] at ho
          cases ho
          exact ⟨i, rfl, hq.same R2 (.int _)⟩
        | _ => simp only [primR] at ho; cases ho
    · cases h
  | rng =>
    dsimp only at h
    split at h
    · simp only [Bool.and_eq_true, decide_eq_true_eq] at h
      obtain ⟨⟨⟨⟨hx, hg⟩, hy⟩, hgy⟩, h⟩ := h
      subst hx hy
      obtain ⟨m, rfl, ha, pa⟩ := (S.all hφ G h).one
      refine ⟨(pe_listRg G.calm (gl_ok G hg).1 (G.blt' (by decide +kernel)) (prg_1 (gl_ok G hgy).1 (G.blt' (by decide +kernel)) ha (star_of pa _ _))).weak fun σ H Q q => ?_, rfl⟩
      obtain ⟨ι, S, σd, R, r, q⟩ := prim1 hφ q
      refine tE_mk hφ R r q fun d S' ι' H' v q x R' rv => ?_
      obtain ⟨ι2, S2, ds, o, R2, rs, ho, hc, hq⟩ := q ι' H' v x R' rv
      cases rs with
      | cons r1 rs =>
        cases rs
        cases r1 with
        | int i =>
          simp only [primR] at ho
          cases ho
          refine ⟨i, rfl, hc, ?_⟩
          have z := rng_rel X.K ι2 H' 0 i
          rw [Int.sub_zero] at z
          exact hq.new R2 z
        | _ => simp only [primR] at ho; cases ho
    · simp only [Bool.and_eq_true, decide_eq_true_eq] at h
      obtain ⟨⟨⟨⟨hx, hg⟩, hy⟩, hgy⟩, h⟩ := h
      subst hx hy
      obtain ⟨m, n, rfl, ha, pa, hb, pb⟩ := (S.all hφ G h).two
      refine ⟨(pe_listRg G.calm (gl_ok G hg).1 (G.blt' (by decide +kernel)) (prg_2 (gl_ok G hgy).1 (G.blt' (by decide +kernel)) ha hb (star_of pa _ _) (star_of pb _ _) (by rw [star_of pb]; rfl))).weak fun σ H Q q => ?_, rfl⟩
      obtain ⟨ι, S, σd, R, r, q⟩ := prim2 hφ q
      refine tE_mk hφ R r q fun d S' ι' H' v q x R' rv => ?_
      obtain ⟨ι2, S2, σ2, R2, r2, q⟩ := q ι' H' v x R' rv
      refine tE_mk hφ R2 r2 q fun d3 S3 ι3 H3 v3 q x3 R3 rv3 => ?_
      obtain ⟨ι4, S4, ds, o, R4, rs, ho, hc, hq⟩ := q ι3 H3 v3 x3 R3 rv3
      cases rs with
      | cons r1 rs =>
        cases rs with
        | cons r2 rs =>
          cases rs
          cases r1 with
          | int i =>
            cases r2 with
            | int j =>
              simp only [primR] at ho
              cases ho
              exact ⟨i, j, rfl, rfl, hc, hq.new R4 (rng_rel X.K ι4 H3 i j)⟩
            | _ => simp only [primR] at ho; cases ho
          | _ => simp only [primR] at ho; cases ho
    · cases h
  | app => cases h
  | ins => cases h
end

theorem snd_prim {p : Prim} {es : Exs} (S : SndEs es) : SndE (.prim p es) := by
  by_cases h1 : ∃ op, p = .cmp op
  · obtain ⟨op, rfl⟩ := h1
    exact ⟨fun hφ G h => (c_cmp hφ G S h).1, fun hφ G h => (c_cmp hφ G S h).2.1, fun hφ G h hb => by
      rw [(c_cmp hφ G S h).2.2] at hb
      cases hb⟩
  · by_cases h2 : p = .neg
    · subst h2
      exact ⟨fun hφ G h => (c_neg hφ G S h).1, fun hφ G h => Bool.noConfusion (c_neg hφ G S h).2, fun hφ G h _ => Bool.noConfusion (c_neg hφ G S h).2⟩
    · exact .of fun hφ G h => c_prim hφ G S h (fun op e => h1 ⟨op, e⟩) h2
theorem snd_cut {a b c : Ex} (Sa : SndE a) (Sb : SndE b) (Sc : SndE c) : SndE (.cut a b c) := .of fun hφ G h => c_cut hφ G Sa Sb Sc h

/-! ### methods -/
section
variable {C : Ck} {ca : Nat → Addr} {φ : Phi} {k : Nat} {X : Cx} {W : WX} {es : Exs} {e : Expr} {t : Bool}
theorem isL_ty {K : PySem.W.Frag} {ι : List Addr} {H : Hp} {S : Store} {d : D} {v : V} (R : Rep K ca ι S H) (h : isL d S = true) (r : RelD K ι H d v) : tyV K "list" v H := by
  unfold isL at h
  split at h
  · split at h
    · rename_i l ds e
      obtain ⟨a, vs, rfl, e2, e3, e4⟩ := R.lst e r
      exact .inl ⟨rfl, vs, SqL.of e3⟩
    · cases h
  · cases h
theorem meth_tE {K : PySem.W.Frag} {g : Bool} (hφ : PhiMono φ) {p : Prim} {o : Ex} {σ : L2.St} {H : Hp} {Q : VK} (h : tE K ca g φ W (.meth p o es) σ H Q) :
    tE K ca g φ W o σ H fun x H1 => tyV K "list" x H1 ∧ tAs K ca g φ W es σ H1 fun xs H2 => rP K ca g p (x :: xs) H2 Q := by
  obtain ⟨ι, S, σd, R, r, q⟩ := h
  simp only [wpE] at q
  refine tE_mk hφ R r q fun d S1 ι1 H1 v q x1 R1 rv => ⟨isL_ty R1 q.1 rv, ?_⟩
  refine tAs_mk hφ R1 (r.mono x1) (wpAs_mono hφ es (fun _ _ q => q) (fun _ _ z => z.of x1) q.2) fun ds S2 ι2 H2 vs q x2 R2 rs => ?_
  unfold primW at q
  split at q
  · rename_i o ho
    exact ⟨ι2, S2, _, o, R2, .cons (rv.mono x2) rs, ho, q.1, q.2.of (x1.trans x2)⟩
  · exact q.elim
theorem c_meth (hφ : PhiMono φ) (G : Good C ca φ k X W) {o : Ex} (So : SndE o) (S : SndEs es) {p : Prim} (h : chkE C t (.meth p o es) e = true) : PE X e (tE X.K ca C.g φ W (.meth p o es)) ∧ testX e = true := by
  simp only [chkE] at h
  split at h
  · split at h
    · simp only [Bool.and_eq_true, decide_eq_true_eq] at h
      obtain ⟨⟨⟨⟨hx, ho⟩, h⟩, hb⟩, hl⟩ := h
      subst hx
      obtain ⟨m, rfl, ha, pa⟩ := (S.all hφ G h).one
      exact ⟨(pe_bm PySem.F.plainAttrs_list PySem.F.slot_list_append PySem.F.type_list_append (mt_app (g := C.g) (ca := ca)) (So.pe hφ G ho) (pa_cons ha pa_nil (star_of pa _ _)) (base_of hb _ _ _) (by rw [star_of pa]; rfl) hl (star_of pa _ _) rfl).weak fun σ H Q q => by
        obtain ⟨ι, S, σd, R, r, q⟩ := meth_tE hφ q
        refine tE_mk hφ R r q fun d S1 ι1 H1 v q x1 R1 rv => ?_
        obtain ⟨q1, q2⟩ := q ι1 H1 v x1 R1 rv
        exact ⟨q1, tAs_one hφ q2⟩, rfl⟩
    · cases h
  · split at h
    · simp only [Bool.and_eq_true, decide_eq_true_eq] at h
      obtain ⟨⟨⟨⟨hx, ho⟩, h⟩, hb⟩, hl⟩ := h
      subst hx
      obtain ⟨m, n, rfl, ha, pa, hb', pb⟩ := (S.all hφ G h).two
      exact ⟨(pe_bm PySem.F.plainAttrs_list PySem.F.slot_list_insert PySem.F.type_list_insert (mt_ins (g := C.g) (ca := ca)) (So.pe hφ G ho) (pa_cons ha (pa_cons hb' pa_nil (star_of pb _ _)) (star_of pa _ _)) (base_of hb _ _ _) (by rw [star_of pa, star_of pb]; rfl) hl (star_of pa _ _) (by rw [star_of pb]; rfl)).weak fun σ H Q q => by
        obtain ⟨ι, S, σd, R, r, q⟩ := meth_tE hφ q
        refine tE_mk hφ R r q fun d S1 ι1 H1 v q x1 R1 rv => ?_
        obtain ⟨q1, q2⟩ := q ι1 H1 v x1 R1 rv
        exact ⟨q1, tAs_two hφ q2⟩, rfl⟩
    · cases h
  · cases h
end
theorem snd_meth {p : Prim} {o : Ex} {es : Exs} (So : SndE o) (S : SndEs es) : SndE (.meth p o es) := .of fun hφ G h => c_meth hφ G So S h

/-! ### tests -/
section
variable {C : Ck} {ca : Nat → Addr} {φ : Phi} {k : Nat} {X : Cx} {W : WX} {es : Exs} {e : Expr} {t : Bool}
theorem snd_not {m : Ex} (S : SndE m) : SndE (.notE m) where
  pe := fun {C ca φ k X W e} hφ G h => by
    simp only [chkE] at h
    split at h
    · refine (pe_notT (S.pe hφ G h)).weak fun σ H Q q => ?_
      obtain ⟨ι, S, σd, R, r, q⟩ := q
      simp only [wpE] at q
      refine tE_mk hφ R r q fun d S1 ι1 H1 v q x1 R1 rv => ?_
      split at q
      · rename_i b hb
        exact ⟨b, truth_of R1 hb rv, q ι1 H1 _ x1 R1 (.bl _)⟩
      · exact q.elim
    · cases h
  pt := fun {C ca φ k X W e} hφ G h => by
    simp only [chkE] at h
    split at h
    · refine (pt_not (S.pt hφ G h)).weak fun σ H Q q => ?_
      obtain ⟨ι, S, σd, R, r, q⟩ := q
      simp only [wpE] at q
      refine tT_mk hφ R r q fun d S1 q => ?_
      split at q
      · rename_i b hb
        obtain ⟨c, hc, q⟩ := q
        cases hc
        exact ⟨b, hb, q⟩
      · exact q.elim
    · cases h
  pw := fun {C ca φ k X W e} hφ G h hb => by
    simp only [chkE] at h
    split at h
    · cases hb
    · cases h
theorem snd_one {m : Ex} (S : SndE m) : SndE (.one m) := by
  have w : ∀ {C : Ck} {ca : Nat → Addr} {φ : Phi} {k : Nat} {X : Cx} {W : WX} {e : Expr}, PhiMono φ → Good C ca φ k X W → chkE C true (.one m) e = true → PW X e (tT X.K ca C.g φ W (.one m)) := fun {C ca φ k X W e} hφ G h => by
    simp only [chkE] at h
    split at h
    · rename_i o x pos
      have z := S.pt hφ G h
      have i : ∀ σ H Q, tT X.K ca C.g φ W (.one m) σ H Q → tT X.K ca C.g φ W m σ H Q := fun σ H Q ⟨ι, S, σd, R, r, q⟩ => ⟨ι, S, σd, R, r, by simp only [wpE] at q; exact q⟩
      cases o with
      | And => exact ⟨fun wh pins s σ H Q I q => (pw_and1 z).run wh pins s σ H Q I (i σ H Q q)⟩
      | Or => exact ⟨fun wh pins s σ H Q I q => (pw_or1 z).run wh pins s σ H Q I (i σ H Q q)⟩
    · cases h
  refine ⟨fun {C ca φ k X W e} hφ G h => ?_, fun hφ G h => (w hφ G h).pt, fun hφ G h _ => w hφ G h⟩
  simp only [chkE] at h
  split at h
  · exact (pe_one (S.pe hφ G h)).weak fun σ H Q ⟨ι, S, σd, R, r, q⟩ => ⟨ι, S, σd, R, r, by simp only [wpE] at q; exact q⟩
  · cases h
theorem truth_step {K : PySem.W.Frag} {g : Bool} (hφ : PhiMono φ) {m : Ex} {σ : L2.St} {H : Hp} {σd : Sd} {ι : List Addr} {S : Store} {E : EPost} {Q : Bool → Hp → Prop} (R : Rep K ca ι S H) (r : RelS K ι H σd σ) {T : Bool → Store → Prop}
    (h : wpE g φ m σd S (fun d S1 => match truth d S1 with
      | some b => T b S1
      | none => False) (EL K ca W σ ι H)) (hT : ∀ b S1 ι1 H1, T b S1 → Ext K ι H ι1 H1 → Rep K ca ι1 S1 H1 → Q b H1) : tT K ca g φ W m σ H Q :=
  tT_mk hφ R r h fun d S1 q => by
    split at q
    · rename_i b hb
      exact ⟨b, hb, fun ι1 H1 x1 R1 => hT b S1 ι1 H1 q x1 R1⟩
    · exact q.elim
theorem snd_and {a b : Ex} (Sa : SndE a) (Sb : SndE b) : SndE (.andE a b) := by
  have w : ∀ {C : Ck} {ca : Nat → Addr} {φ : Phi} {k : Nat} {X : Cx} {W : WX} {e : Expr}, PhiMono φ → Good C ca φ k X W → chkE C true (.andE a b) e = true → PW X e (tT X.K ca C.g φ W (.andE a b)) := fun {C ca φ k X W e} hφ G h => by
    simp only [chkE] at h
    split at h
    · simp only [Bool.and_eq_true] at h
      refine ⟨fun wh pins s σ H Q I q => (pw_and (Sa.pt hφ G h.1) (Sb.pw hφ G h.2 rfl)).run wh pins s σ H Q I ?_⟩
      obtain ⟨ι, S, σd, R, r, q⟩ := q
      simp only [wpE] at q
      refine tT_mk hφ R r q fun d S1 q => ?_
      split at q
      · rename_i hb
        exact ⟨true, hb, fun ι1 H1 x1 R1 => by
          rw [if_pos rfl]
          exact ⟨ι1, S1, σd, R1, r.mono x1, wpE_mono hφ b (fun d2 S2 ⟨c, hc, q⟩ => ⟨c, hc, fun ι2 H2 x2 R2 => q ι2 H2 (x1.trans x2) R2⟩) (fun _ _ z => z.of x1) q⟩⟩
      · rename_i hb
        obtain ⟨c, hc, q⟩ := q
        rw [hb] at hc
        cases hc
        exact ⟨false, hb, fun ι1 H1 x1 R1 => by
          rw [if_neg Bool.false_ne_true]
          exact q ι1 H1 x1 R1⟩
      · exact q.elim
    · cases h
  refine ⟨fun {C ca φ k X W e} hφ G h => ?_, fun hφ G h => (w hφ G h).pt, fun hφ G h _ => w hφ G h⟩
  simp only [chkE] at h
  split at h
  · simp only [Bool.and_eq_true] at h
    refine (pe_andT (Sa.pe hφ G h.1) (Sb.pe hφ G h.2)).weak fun σ H Q q => ?_
    obtain ⟨ι, S, σd, R, r, q⟩ := q
    simp only [wpE] at q
    refine tE_mk hφ R r q fun d S1 ι1 H1 v q x1 R1 rv => ?_
    split at q
    · rename_i hb
      refine ⟨true, truth_of R1 hb rv, ?_⟩
      rw [if_pos rfl]
      exact ⟨ι1, S1, σd, R1, r.mono x1, wpE_mono hφ b (fun d2 S2 q => q.of x1) (fun _ _ z => z.of x1) q⟩
    · rename_i hb
      refine ⟨false, truth_of R1 hb rv, ?_⟩
      rw [if_neg Bool.false_ne_true]
      exact q ι1 H1 v x1 R1 rv
    · exact q.elim
  · cases h
theorem snd_or {a b : Ex} (Sa : SndE a) (Sb : SndE b) : SndE (.orE a b) := by
  have w : ∀ {C : Ck} {ca : Nat → Addr} {φ : Phi} {k : Nat} {X : Cx} {W : WX} {e : Expr}, PhiMono φ → Good C ca φ k X W → chkE C true (.orE a b) e = true → PW X e (tT X.K ca C.g φ W (.orE a b)) := fun {C ca φ k X W e} hφ G h => by
    simp only [chkE] at h
    split at h
    · simp only [Bool.and_eq_true] at h
      refine ⟨fun wh pins s σ H Q I q => (pw_or (Sa.pt hφ G h.1) (Sb.pw hφ G h.2 rfl)).run wh pins s σ H Q I ?_⟩
      obtain ⟨ι, S, σd, R, r, q⟩ := q
      simp only [wpE] at q
      refine tT_mk hφ R r q fun d S1 q => ?_
      split at q
      · rename_i hb
        obtain ⟨c, hc, q⟩ := q
        rw [hb] at hc
        cases hc
        exact ⟨true, hb, fun ι1 H1 x1 R1 => by
          rw [if_pos rfl]
          exact q ι1 H1 x1 R1⟩
      · rename_i hb
        exact ⟨false, hb, fun ι1 H1 x1 R1 => by
          rw [if_neg Bool.false_ne_true]
          exact ⟨ι1, S1, σd, R1, r.mono x1, wpE_mono hφ b (fun d2 S2 ⟨c, hc, q⟩ => ⟨c, hc, fun ι2 H2 x2 R2 => q ι2 H2 (x1.trans x2) R2⟩) (fun _ _ z => z.of x1) q⟩⟩
      · exact q.elim
    · cases h
  refine ⟨fun {C ca φ k X W e} hφ G h => ?_, fun hφ G h => (w hφ G h).pt, fun hφ G h _ => w hφ G h⟩
  simp only [chkE] at h
  split at h
  · simp only [Bool.and_eq_true] at h
    refine (pe_orT (Sa.pe hφ G h.1) (Sb.pe hφ G h.2)).weak fun σ H Q q => ?_
    obtain ⟨ι, S, σd, R, r, q⟩ := q
    simp only [wpE] at q
    refine tE_mk hφ R r q fun d S1 ι1 H1 v q x1 R1 rv => ?_
    split at q
    · rename_i hb
      refine ⟨true, truth_of R1 hb rv, ?_⟩
      rw [if_pos rfl]
      exact q ι1 H1 v x1 R1 rv
    · rename_i hb
      refine ⟨false, truth_of R1 hb rv, ?_⟩
      rw [if_neg Bool.false_ne_true]
      exact ⟨ι1, S1, σd, R1, r.mono x1, wpE_mono hφ b (fun d2 S2 q => q.of x1) (fun _ _ z => z.of x1) q⟩
    · exact q.elim
  · cases h
theorem snd_ite {c a b : Ex} (Sc : SndE c) (Sa : SndE a) (Sb : SndE b) : SndE (.ite c a b) where
  pe := fun {C ca φ k X W e} hφ G h => by
    simp only [chkE] at h
    split at h
    · simp only [Bool.and_eq_true] at h
      refine (pe_ifExp (Sc.pt hφ G h.1.1.2) (Sa.pe hφ G h.1.2) (Sb.pe hφ G h.2)).weak fun σ H Q q => ?_
      obtain ⟨ι, S, σd, R, r, q⟩ := q
      simp only [wpE] at q
      refine tT_mk hφ R r q fun d S1 q => ?_
      split at q
      · rename_i hb
        exact ⟨true, hb, fun ι1 H1 x1 R1 => by
          rw [if_pos rfl]
          exact ⟨ι1, S1, σd, R1, r.mono x1, wpE_mono hφ a (fun d2 S2 q => q.of x1) (fun _ _ z => z.of x1) q⟩⟩
      · rename_i hb
        exact ⟨false, hb, fun ι1 H1 x1 R1 => by
          rw [if_neg Bool.false_ne_true]
          exact ⟨ι1, S1, σd, R1, r.mono x1, wpE_mono hφ b (fun d2 S2 q => q.of x1) (fun _ _ z => z.of x1) q⟩⟩
      · exact q.elim
    · cases h
  pt := fun {C ca φ k X W e} hφ G h => by
    simp only [chkE] at h
    split at h
    · simp only [Bool.not_true, Bool.false_and] at h
      cases h
    · cases h
  pw := fun {C ca φ k X W e} hφ G h hb => by
    simp only [chkE] at h
    split at h
    · cases hb
    · cases h
end
end CC
/-! Expressions: chains, calls; what is walked. -/
namespace CC
open L2 PySem PySem.Spec PyProof.Rows

theorem chain_tE {K : PySem.W.Frag} {ca : Nat → Addr} {φ : Phi} {W : WX} {g : Bool} {σ : L2.St} {H : Hp} {Q : VK} (hφ : PhiMono φ) {op op' : CmpOp} {a b c : Ex} (h : tE K ca g φ W (.chain op op' a b c) σ H Q) :
    tChain (rP2 K ca g (.cmp op)) (rP2 K ca g (.cmp op')) (tE K ca g φ W a) (tE K ca g φ W b) (tE K ca g φ W c) σ H Q := by
  obtain ⟨ι, S, σd, R, r, q⟩ := h
  simp only [wpE] at q
  refine tE_mk hφ R r q fun d1 S1 ι1 H1 v1 q x1 R1 rv1 => ?_
  refine tE_mk hφ R1 (r.mono x1) (wpE_mono hφ b (fun _ _ q => q) (fun _ _ z => z.of x1) q) fun d2 S2 ι2 H2 v2 q x2 R2 rv2 => ?_
  unfold primW at q
  split at q
  · rename_i o ho
    refine ⟨ι2, S2, _, o, R2, .cons (rv1.mono x2) (.cons rv2 .nil), ho, q.1, fun ι3 H3 v3 x3 R3 rv3 => ?_⟩
    have q2 := q.2
    generalize o.d = od at q2 rv3
    split at q2
    · cases rv3
      refine ⟨true, rfl, ?_⟩
      rw [if_pos rfl]
      refine tE_mk hφ R3 (((r.mono x1).mono x2).mono x3) (wpE_mono hφ c (fun _ _ q => q) (fun _ _ z => ((z.of x1).of x2).of x3) q2) fun d4 S4 ι4 H4 v4 q4 x4 R4 rv4 => ?_
      unfold primW at q4
      split at q4
      · rename_i o2 ho2
        exact ⟨ι4, S4, _, o2, R4, .cons ((rv2.mono x3).mono x4) (.cons rv4 .nil), ho2, q4.1, q4.2.of (((x1.trans x2).trans x3).trans x4)⟩
      · exact q4.elim
    · cases rv3
      refine ⟨false, rfl, ?_⟩
      rw [if_neg Bool.false_ne_true]
      exact q2 ι3 H3 _ ((x1.trans x2).trans x3) R3 (.bl _)
    · exact q2.elim
  · exact q.elim

theorem snd_chain {op op' : CmpOp} {a b c : Ex} (Sa : SndE a) (Sb : SndE b) (Sc : SndE c) : SndE (.chain op op' a b c) := by
  have key : ∀ {C : Ck} {ca : Nat → Addr} {φ : Phi} {k : Nat} {X : Cx} {W : WX} {e : Expr} {t : Bool}, PhiMono φ → Good C ca φ k X W → chkE C t (.chain op op' a b c) e = true →
      PE X e (tE X.K ca C.g φ W (.chain op op' a b c)) ∧ PT X e (tT X.K ca C.g φ W (.chain op op' a b c)) ∧ isBoolOp e = false := fun {C ca φ k X W e t} hφ G h => by
    simp only [chkE] at h
    split at h
    · simp only [Bool.and_eq_true, decide_eq_true_eq] at h
      obtain ⟨⟨⟨⟨⟨⟨rfl, rfl⟩, h1⟩, h2⟩, h3⟩, p1⟩, p2⟩ := h
      have hu : X.A.units + 65 < cLine := by
        have := G.un
        omega
      refine ⟨(pe_chain (op_cmpP (g := C.g) (ca := ca) hu op) (op_cmpP (g := C.g) (ca := ca) hu op') (Sa.pe hφ G h1) (Sb.pe hφ G h2) (Sc.pe hφ G h3) (mark_of p2)).weak fun σ H Q q => chain_tE hφ q, ?_, rfl⟩
      exact (pt_chain (op_cmpP (g := C.g) (ca := ca) hu op) (op_cmpP (g := C.g) (ca := ca) hu op') (Sa.pe hφ G h1) (Sb.pe hφ G h2) (Sc.pe hφ G h3) (mark_of p2)).weak fun σ H Q q => chain_tE hφ (tT_tE hφ (boolE_chain hφ) q)
    · cases h
  exact ⟨fun hφ G h => (key hφ G h).1, fun hφ G h => (key hφ G h).2.1, fun hφ G h hb => by
    rw [(key hφ G h).2.2] at hb
    cases hb⟩

/-! ### calls -/
theorem snd_call {f : Nat} {es : Exs} (S : SndEs es) : SndE (.call f es) := .of fun {C ca φ k X W e t} hφ G h => by
  simp only [chkE] at h
  split at h
  · rename_i x p xs pos
    simp only [Bool.and_eq_true] at h
    obtain ⟨⟨h1, h2⟩, h3⟩ := h
    split at h1
    · rename_i fn hf
      simp only [Bool.and_eq_true, decide_eq_true_eq, Bool.or_eq_true, Bool.not_eq_true', Option.isNone_iff_eq_none] at h1
      obtain ⟨⟨h4, h5⟩, hcn⟩ := h1
      subst h4
      obtain ⟨g1, g2⟩ := gl_ok G h2
      obtain ⟨fd, hm, hk, hb, _, F⟩ := (G.fns f fn hf).ex
      have hm := hm hcn
      have hg : fn.g = true → X.A.guards = some [] := fun z => by
        rcases h5 with h5 | h5
        · rw [z] at h5; cases h5
        · exact G.gd h5
      have A := S.all hφ G h3
      refine ⟨⟨fun pins s σ H Q I q => ?_⟩, rfl⟩
      have q := tE_call (X := X) hφ q
      refine wpAny_Call_Name_kw (ld_glob I g1 hm ?_ g2)
      cases xs with
      | nil =>
        cases A
        have q := tAs_nil q
        exact PySem.W.callWith_K0 I.kIn hk (call_fnG F G.room hg G.takes I .nil (hb s [] (F.len _ _ _ _ q)) q)
      | cons y ys =>
        refine PySem.W.callWith_K (h₀ := X.base) I.ok.mod.kin hk (thn ((A.pa hφ).run pos pins s σ H _ I q) fun us s1 hq => ?_) ?_ ?_
        · obtain ⟨vs, H1, I1, r, q1⟩ := hq
          exact ⟨I1.kIn, call_fnG F G.room hg G.takes I1 r (hb s1 us (by rw [← r.length]; exact F.len _ _ _ _ q1)) q1⟩
        · cases A with
          | cons z1 z2 z3 => exact star_of z2 _ _
        · cases A with
          | cons z1 z2 z3 => exact z3.plain
    · cases h1
  · cases h

/-! ### calls with keywords -/
def exsLen : Exs → Nat
  | .nil => 0
  | .cons _ r => exsLen r + 1
/-- as many values as arguments -/
theorem lenW {φ : Phi} {g : Bool} (hφ : PhiMono φ) : ∀ {es : Exs} {σ : Sd} {S : Store} {Q : List D → Store → Prop} {E : EPost}, wpAs g φ es σ S Q E → wpAs g φ es σ S (fun ds S1 => ds.length = exsLen es ∧ Q ds S1) E
  | .nil, σ, S, Q, E, h => by
    simp only [wpAs] at h ⊢
    exact ⟨rfl, h⟩
  | .cons a r, σ, S, Q, E, h => by
    simp only [wpAs] at h ⊢
    exact wpE_mono hφ a (fun d S1 q => wpAs_mono hφ r (fun ds S2 q => ⟨congrArg (· + 1) q.1, q.2⟩) (fun _ _ z => z) (lenW hφ q)) (fun _ _ z => z) h
theorem AllE.len {X : Cx} {ca : Nat → Addr} {g : Bool} {φ : Phi} {W : WX} : ∀ {ms : Exs} {es : List Expr}, AllE X ca g φ W ms es → es.length = exsLen ms
  | _, _, .nil => rfl
  | _, _, .cons _ _ r => congrArg (· + 1) r.len
theorem AllE.pk {X : Cx} {ca : Nat → Addr} {g : Bool} {φ : Phi} {W : WX} (hφ : PhiMono φ) : ∀ {kws : List Keyword} {ms : Exs}, AllE X ca g φ W ms (kws.map (·.value)) → PK X kws (tAs X.K ca g φ W ms)
  | [], _, .nil => ⟨fun pos pins s σ H Q I h => pk_nil.run pos pins s σ H Q I (tAs_nil h)⟩
  | ⟨nm, e, p⟩ :: kws, _, .cons h hp r => ⟨fun pos pins s σ H Q I q => (pk_cons h (AllE.pk hφ r)).run pos pins s σ H Q I (tAs_cons hφ q)⟩
theorem kw_names {pos : Pos} {env : Env} : ∀ {kws : List Keyword} {ks : List Str}, kws.map (·.arg) = ks.map some →
    (backToKw pos (keywordEach kws env)).all (·.1.isSome) = true ∧ (backToKw pos (keywordEach kws env)).filterMap (·.1) = ks ∧ (backToKw pos (keywordEach kws env)).any (·.1.isNone) = false
  | [], [], _ => ⟨rfl, rfl, rfl⟩
  | [], _ :: _, h => by cases h
  | _ :: _, [], h => by cases h
  | ⟨nm, e, p⟩ :: kws, x :: ks, h => by
    simp only [List.map_cons, List.cons.injEq] at h
    obtain ⟨h1, h2⟩ := h
    obtain ⟨a, b, c⟩ := kw_names (pos := pos) (env := env) h2
    subst h1
    show ((some x, _) :: backToKw pos (keywordEach kws env)).all (·.1.isSome) = true ∧ ((some x, _) :: backToKw pos (keywordEach kws env)).filterMap (·.1) = x :: ks ∧ ((some x, _) :: backToKw pos (keywordEach kws env)).any (·.1.isNone) = false
    refine ⟨?_, ?_, ?_⟩
    · rw [List.all_cons, a]; rfl
    · rw [List.filterMap_cons, b]
    · rw [List.any_cons, c]; rfl
theorem pick_rel {K : PySem.W.Frag} {ι : List Addr} {H : Hp} {ds : List D} {vs : List V} (r : RelDs K ι H ds vs) : ∀ {is : List Nat} {rs : List D}, pick ds is = some rs → ∃ ws, pick vs is = some ws ∧ RelDs K ι H rs ws
  | [], rs, h => by
    cases h
    exact ⟨[], rfl, .nil⟩
  | i :: is, rs, h => by
    unfold pick at h
    split at h
    · rename_i x r2 h1 h2
      cases h
      obtain ⟨v, e, rv⟩ := r.get h1
      obtain ⟨ws, e2, r3⟩ := pick_rel r h2
      exact ⟨v :: ws, by unfold pick; rw [e, e2], .cons rv r3⟩
    · cases h
theorem pick_vals {vs : List V} {us : List Value} (r : Vals vs us) : ∀ {is : List Nat} {rs : List V}, pick vs is = some rs → ∃ ws, pick us is = some ws ∧ Vals rs ws
  | [], rs, h => by
    cases h
    exact ⟨[], rfl, .nil⟩
  | i :: is, rs, h => by
    unfold pick at h
    split at h
    · rename_i x r2 h1 h2
      cases h
      obtain ⟨v, e, rv⟩ := r.get h1
      obtain ⟨ws, e2, r3⟩ := pick_vals r h2
      exact ⟨v :: ws, by unfold pick; rw [e, e2], .cons rv r3⟩
    · cases h
theorem callk_tE {X : Cx} {ca : Nat → Addr} {φ : Phi} {W : WX} {g : Bool} {σ : L2.St} {H : Hp} {Q : VK} (hφ : PhiMono φ) {f : Nat} {es kes : Exs} {ks : List Str} {perm : List Nat} (h : tE X.K ca g φ W (.callk f es ks kes perm) σ H Q) :
    tAs X.K ca g φ W es σ H fun vs H1 => vs.length = exsLen es ∧ tAs X.K ca g φ W kes σ H1 fun zs H2 => zs.length = exsLen kes ∧ ∃ rs, pick (vs ++ zs) perm = some rs ∧ spF X.K ca φ f rs H2 Q (WE W σ) := by
  obtain ⟨ι, S, σd, R, r, h⟩ := h
  simp only [wpE] at h
  refine tAs_mk hφ R r (lenW hφ h) fun ds S1 ι1 H1 vs q x1 R1 rv => ?_
  refine ⟨by rw [← rv.length]; exact q.1, tAs_mk hφ R1 (r.mono x1) (lenW hφ (wpAs_mono hφ kes (fun _ _ q => q) (fun _ _ z => z.of x1) q.2)) fun ks S2 ι2 H2 zs q x2 R2 rz => ⟨by rw [← rz.length]; exact q.1, ?_⟩⟩
  have q := q.2
  split at q
  · rename_i rs hp
    obtain ⟨ws, e, r3⟩ := pick_rel ((rv.mono x2).append rz) hp
    exact ⟨ws, e, ι2, S2, rs, R2, r3, hφ _ _ _ _ _ _ _ (fun d S3 q => q.of (x1.trans x2)) (fun e S3 q => q.of (x1.trans x2)) q⟩
  · exact q.elim
theorem snd_callk {f : Nat} {es : Exs} {ks : List Str} {kes : Exs} {perm : List Nat} (S : SndEs es) (Sk : SndEs kes) : SndE (.callk f es ks kes perm) := .of fun {C ca φ k X W e t} hφ G h => by
  simp only [chkE] at h
  split at h
  · rename_i x p xs kws pos
    simp only [Bool.and_eq_true, List.any_eq_true, decide_eq_true_eq] at h
    obtain ⟨⟨⟨⟨⟨h1, h2⟩, h3⟩, h4⟩, h5⟩, q0, h6, h7⟩ := h
    subst h7
    split at h1
    · rename_i fn hf
      simp only [Bool.and_eq_true, decide_eq_true_eq, Bool.or_eq_true, Bool.not_eq_true', Option.isNone_iff_eq_none] at h1
      obtain ⟨⟨h8, h9⟩, hcn⟩ := h1
      subst h8
      obtain ⟨g1, g2⟩ := gl_ok G h2
      obtain ⟨fd, hm, hk, _, hb, F⟩ := (G.fns f fn hf).ex
      have hm := hm hcn
      have hg : fn.g = true → X.A.guards = some [] := fun z => by
        rcases h9 with h9 | h9
        · rw [z] at h9; cases h9
        · exact G.gd h9
      have A := S.all hφ G h3
      have B := Sk.all hφ G h4
      obtain ⟨n1, n2, n3⟩ := kw_names (pos := pos) (env := X.env) h5
      have lk : ks.length = exsLen kes := by
        have := congrArg List.length h5
        simp only [List.length_map] at this
        rw [← this, ← B.len, List.length_map]
      refine ⟨⟨fun pins s σ H Q I q => ?_⟩, rfl⟩
      have q := callk_tE (X := X) hφ q
      refine wpAny_Call_Name_kw (ld_glob I g1 hm ?_ g2)
      have fin : ∀ {pins : List (Addr × Obj)} {s2 : Shared} {H2 : Hp} {us ws : List Value} {vs zs : List V}, Inv X pins σ H2 s2 → Vals vs us → Vals zs ws → vs.length = xs.length → zs.length = exsLen kes → (∃ rs, pick (vs ++ zs) perm = some rs ∧ spF X.K ca φ f rs H2 Q (WE W σ)) →
          wpAny (model X.prog X.w) X.A (call (.ref (fadr ca f)) us (ks.zip ws)) (EP X pins σ Q) X.xe s2 := fun {pins s2 H2 us ws vs zs} I2 r rz l1 l2 q => by
        obtain ⟨rs, hp, q⟩ := q
        obtain ⟨us2, hp2, r2⟩ := pick_vals (r.append rz) hp
        exact call_fnG F G.room hg G.takes I2 r2 (hb _ h6 s2 us ws us2 (by rw [← r.length]; exact l1) (by rw [← rz.length, l2]; exact lk.symm) hp2 (by rw [← r2.length]; exact F.len _ _ _ _ q)) q
      cases xs with
      | nil =>
        cases A
        obtain ⟨_, q⟩ := tAs_nil q
        refine PySem.W.callWith_KW0 (h₀ := X.base) I.ok.mod.kin hk n1 (thn ((B.pk hφ).run pos pins s σ H _ I q) fun ws s2 hq => ?_) (by rw [n3]; rfl)
        obtain ⟨zs, H2, I2, rz, l2, q2⟩ := hq
        refine ⟨I2.kIn, ?_⟩
        rw [n2]
        exact fin I2 .nil rz rfl l2 q2
      | cons y ys =>
        have hst : starEach (y :: ys) X.env = (false, eval y X.env) :: starEach ys X.env := by
          cases A with
          | cons z1 z2 z3 => exact star_of z2 _ _
        refine PySem.W.callWith_KW (h₀ := X.base) I.ok.mod.kin hk n1 (thn ((A.pa hφ).run pos pins s σ H _ I q) fun us s1 hq => ?_) (by rw [A.plain, n3]; rfl) hst
        obtain ⟨vs, H1, I1, r, l1, q1⟩ := hq
        refine thn ((B.pk hφ).run pos pins s1 σ H1 _ I1 q1) fun ws s2 hq => ?_
        obtain ⟨zs, H2, I2, rz, l2, q2⟩ := hq
        refine ⟨I2.kIn, ?_⟩
        rw [n2]
        exact fin I2 r rz (by rw [l1, A.len]) l2 q2
    · cases h1
  · cases h

/-! ### what is walked -/
section
variable {K : PySem.W.Frag} {ca : Nat → Addr} {φ : Phi} {W : WX} {g : Bool}
/-- the iterator yields those items as long as what it reads stays -/
def ItOk (K : PySem.W.Frag) (ca : Nat → Addr) (ι : List Addr) (H : Hp) (w : Src) (J : It) : Prop :=
  ∀ ι' H' S', Ext K ι H ι' H' → Rep K ca ι' S' H' → w.ok S' →
    (∀ i x, w.xs[i]? = some x → J.go i H' ∧ ∀ v H2, J.yld i H' v H2 → Ext K ι' H' ι' H2 ∧ Rep K ca ι' S' H2 ∧ RelD K ι' H2 x v) ∧ ∀ i, w.xs.length ≤ i → J.stop i H'
def tI (K : PySem.W.Frag) (ca : Nat → Addr) (g : Bool) (φ : Phi) (W : WX) (k : ItK) (es : Exs) : TI := fun σ H R =>
  ∃ ι S σd, Rep K ca ι S H ∧ RelS K ι H σd σ ∧ wpAs g φ es σd S (fun ds S1 => ∃ c w, iterR k ds S1 = some (c, w) ∧ c ∧ ∀ ι' H' J, Ext K ι H ι' H' → Rep K ca ι' S1 H' → ItOk K ca ι' H' w J → R J H') (EL K ca W σ ι H)
theorem _root_.L2.PI.weak {X : Cx} {tg e : Expr} {t t' : TI} (h : PI X tg e t) (i : ∀ σ H Q, t' σ H Q → t σ H Q) : PI X tg e t' := ⟨fun pins s σ H Q I q => h.run pins s σ H Q I (i σ H Q q)⟩
theorem seqL_inj {ι : List Addr} {H : Hp} {S : Store} {l : Nat} {a : Addr} {ds : List D} (R : Rep K ca ι S H) (h : seqAt S l = some ds) (hl : ι[l]? = some a) : ∃ vs, SqL K H a vs ∧ RelDs K ι H ds vs := by
  obtain ⟨b, vs, e, h1, h2⟩ := R.seq h (.ref hl)
  cases e
  exact ⟨vs, h1, h2⟩
theorem RelDs.none {ι : List Addr} {H : Hp} {ds : List D} {vs : List V} (r : RelDs K ι H ds vs) {i : Nat} (h : ds.length ≤ i) : vs.length ≤ i := by rw [← r.length]; exact h
theorem it_list {ι : List Addr} {H : Hp} {l : Nat} {a : Addr} {ds : List D} (hl : ι[l]? = some a) : ItOk K ca ι H ⟨ds, [(l, ds)]⟩ (Itl K a) := fun ι' H' S' x R ok => by
  obtain ⟨vs, h1, h2⟩ := seqL_inj R (ok _ List.mem_cons_self) (x.pre _ _ hl)
  refine ⟨fun i d hd => ?_, fun i hi => ⟨vs, h1, h2.none hi⟩⟩
  obtain ⟨v, e, rv⟩ := h2.get hd
  refine ⟨⟨vs, v, h1, e⟩, fun u H2 y => ?_⟩
  obtain ⟨rfl, y⟩ := y
  have := y vs h1
  rw [e] at this
  cases this
  exact ⟨Ext.refl, R, rv⟩
theorem it_tup {ι : List Addr} {H : Hp} {a : Addr} {ds : List D} {vs : List V} (h : SqT K H a vs) (r : RelDs K ι H ds vs) : ItOk K ca ι H ⟨ds, []⟩ (Itt K a) := fun ι' H' S' x R ok => by
  have h1 := x.tup _ _ h
  have h2 := r.mono x
  refine ⟨fun i d hd => ?_, fun i hi => ⟨vs, h1, h2.none hi⟩⟩
  obtain ⟨v, e, rv⟩ := h2.get hd
  refine ⟨⟨vs, v, h1, e⟩, fun u H2 y => ?_⟩
  obtain ⟨rfl, y⟩ := y
  have := y vs h1
  rw [e] at this
  cases this
  exact ⟨Ext.refl, R, rv⟩
theorem rangeL_length : ∀ (n : Nat) (lo : Int), (rangeL lo n).length = n
  | 0, _ => rfl
  | n + 1, lo => congrArg (· + 1) (rangeL_length n (lo + 1))
theorem rangeL_get : ∀ (n : Nat) (lo : Int) (i : Nat) (d : D), (rangeL lo n)[i]? = some d → d = .int (lo + i)
  | 0, _, _, _, h => by simp [rangeL] at h
  | n + 1, lo, 0, d, h => by
    simp [rangeL] at h
    rw [← h]; simp
  | n + 1, lo, i + 1, d, h => by
    have := rangeL_get n (lo + 1) i d (by simpa [rangeL] using h)
    rw [this]
    congr 1
    omega
theorem it_range {ι : List Addr} {H : Hp} (lo : Int) (n : Nat) : ItOk K ca ι H ⟨rangeL lo n, []⟩ (Itr lo n) := fun ι' H' S' x R ok => by
  refine ⟨fun i d hd => ?_, fun i hi => by rw [rangeL_length] at hi; exact hi⟩
  have hl := (List.getElem?_eq_some_iff.mp hd).1
  have e := rangeL_get n lo i d hd
  refine ⟨by rw [rangeL_length] at hl; exact hl, fun u H2 y => ?_⟩
  obtain ⟨rfl, y⟩ := y
  subst y
  exact ⟨Ext.refl, R, by rw [e]; exact .int _⟩
theorem pair_new {ι : List Addr} {S : Store} {H : Hp} {x y : D} {v u : V} {T : Addr} (R : Rep K ca ι S H) (hT : H T = none) (r1 : RelD K ι H x v) (r2 : RelD K ι H y u) :
    Ext K ι H ι (upd H T (.tup [v, u])) ∧ Rep K ca ι S (upd H T (.tup [v, u])) ∧ RelD K ι (upd H T (.tup [v, u])) (.tup [x, y]) (.ref T) :=
  ⟨Ext.laid hT, R.laid hT, .tup (.inl (.inl upd_same)) (.cons (r1.mono (Ext.laid hT)) (.cons (r2.mono (Ext.laid hT)) .nil))⟩
theorem zip_get {xs ys : List D} {i : Nat} {d : D} (h : ((xs.zip ys).map fun p => D.tup [p.1, p.2])[i]? = some d) : ∃ x y, xs[i]? = some x ∧ ys[i]? = some y ∧ d = .tup [x, y] := by
  rw [List.getElem?_map] at h
  cases e : (xs.zip ys)[i]? with
  | none => rw [e] at h; cases h
  | some p =>
    rw [e] at h
    cases h
    have := List.getElem?_zip_eq_some.mp e
    exact ⟨p.1, p.2, this.1, this.2, rfl⟩
theorem it_zip {ι : List Addr} {H : Hp} {l m : Nat} {a b : Addr} {xs ys : List D} (hl : ι[l]? = some a) (hm : ι[m]? = some b) : ItOk K ca ι H ⟨(xs.zip ys).map fun p => .tup [p.1, p.2], [(l, xs), (m, ys)]⟩ (Itz K a b) := fun ι' H' S' x R ok => by
  obtain ⟨vs, h1, h2⟩ := seqL_inj R (ok (l, xs) (by simp)) (x.pre _ _ hl)
  obtain ⟨us, k1, k2⟩ := seqL_inj R (ok (m, ys) (by simp)) (x.pre _ _ hm)
  refine ⟨fun i d hd => ?_, fun i hi => ⟨vs, us, h1, k1, ?_⟩⟩
  · obtain ⟨d1, d2, e1, e2, rfl⟩ := zip_get hd
    obtain ⟨v, f1, r1⟩ := h2.get e1
    obtain ⟨u, f2, r2⟩ := k2.get e2
    refine ⟨⟨vs, us, v, u, h1, k1, f1, f2⟩, fun w H2 y => ?_⟩
    obtain ⟨T, v', u', rfl, hT, rfl, y1, y2⟩ := y
    have z1 := y1 vs h1
    have z2 := y2 us k1
    rw [f1] at z1
    rw [f2] at z2
    cases z1
    cases z2
    exact pair_new R hT r1 r2
  · simp only [List.length_map, List.length_zip] at hi
    have l1 : xs.length = vs.length := h2.length
    have l2 : ys.length = us.length := k2.length
    omega
theorem it_zipT {ι : List Addr} {H : Hp} {a b : Addr} {xs ys : List D} {vs us : List V} (h1 : SqT K H a vs) (h2 : RelDs K ι H xs vs) (k1 : SqT K H b us) (k2 : RelDs K ι H ys us) : ItOk K ca ι H ⟨(xs.zip ys).map fun p => .tup [p.1, p.2], []⟩ (RZ.ItzT K a b) := fun ι' H' S' x R ok => by
  have h1 := x.tup _ _ h1
  have h2 := h2.mono x
  have k1 := x.tup _ _ k1
  have k2 := k2.mono x
  refine ⟨fun i d hd => ?_, fun i hi => ⟨vs, us, h1, k1, ?_⟩⟩
  · obtain ⟨d1, d2, e1, e2, rfl⟩ := zip_get hd
    obtain ⟨v, f1, r1⟩ := h2.get e1
    obtain ⟨u, f2, r2⟩ := k2.get e2
    refine ⟨⟨vs, us, v, u, h1, k1, f1, f2⟩, fun w H2 y => ?_⟩
    obtain ⟨T, v', u', rfl, hT, rfl, y1, y2⟩ := y
    have z1 := y1 vs h1
    have z2 := y2 us k1
    rw [f1] at z1
    rw [f2] at z2
    cases z1
    cases z2
    exact pair_new R hT r1 r2
  · simp only [List.length_map, List.length_zip] at hi
    have l1 : xs.length = vs.length := h2.length
    have l2 : ys.length = us.length := k2.length
    omega
theorem enum_get {xs : List D} {i : Nat} {d : D} (h : ((xs.zipIdx).map fun p => D.tup [.int p.2, p.1])[i]? = some d) : ∃ x, xs[i]? = some x ∧ d = .tup [.int i, x] := by
  rw [List.getElem?_map, List.getElem?_zipIdx] at h
  cases e : xs[i]? with
  | none => rw [e] at h; cases h
  | some x =>
    rw [e] at h
    simp at h
    exact ⟨x, rfl, h.symm⟩
theorem it_enum {ι : List Addr} {H : Hp} {l : Nat} {a : Addr} {xs : List D} (hl : ι[l]? = some a) : ItOk K ca ι H ⟨(xs.zipIdx).map fun p => .tup [.int p.2, p.1], [(l, xs)]⟩ (Ite K a) := fun ι' H' S' x R ok => by
  obtain ⟨vs, h1, h2⟩ := seqL_inj R (ok (l, xs) (by simp)) (x.pre _ _ hl)
  refine ⟨fun i d hd => ?_, fun i hi => ⟨vs, h1, ?_⟩⟩
  · obtain ⟨d1, e1, rfl⟩ := enum_get hd
    obtain ⟨v, f1, r1⟩ := h2.get e1
    refine ⟨⟨vs, v, h1, f1⟩, fun w H2 y => ?_⟩
    obtain ⟨T, v', rfl, hT, rfl, y1⟩ := y
    have z1 := y1 vs h1
    rw [f1] at z1
    cases z1
    exact pair_new R hT (.int _) r1
  · simp only [List.length_map, List.length_zipIdx] at hi
    exact h2.none hi
theorem holdOf_eq {S : Store} {l : Nat} {ds : List D} (h : seqAt S l = some ds) : holdOf S (.ref l) = [(l, ds)] := by
  unfold holdOf
  dsimp only
  rw [h]
end

section
variable {C : Ck} {ca : Nat → Addr} {φ : Phi} {k : Nat} {X : Cx} {W : WX} {es : Exs} {e tg : Expr} {g : Bool}
theorem pi_seq (hφ : PhiMono φ) {m : Ex} (he : PE X e (tE X.K ca g φ W m)) : PI X tg e (tI X.K ca g φ W .seq (.cons m .nil)) := by
  refine ⟨fun pins s σ H R I h => ?_⟩
  obtain ⟨ι, S, σd, Rp, r, h⟩ := h
  simp only [wpAs] at h
  have h2 : tE X.K ca g φ W m σ H (fun x H1 => ∃ a, x = .ref a ∧ ((∃ xs, SqL X.K H1 a xs ∧ R (Itl X.K a) H1) ∨ (∃ xs, SqT X.K H1 a xs ∧ R (Itt X.K a) H1))) := tE_mk hφ Rp r h fun d S' ι' H' v q x R' rv => by
    obtain ⟨c, w, h1, hc, hR⟩ := q
    unfold iterR at h1
    dsimp only at h1
    split at h1
    · rename_i xs hs
      cases h1
      cases rv with
      | tup t1 t2 =>
        cases hs
        exact ⟨_, rfl, .inr ⟨_, t1, hR ι' H' _ x R' (it_tup t1 t2)⟩⟩
      | ref hl =>
        obtain ⟨a, vs, e1, e2, e3⟩ := R'.seq hs (.ref hl)
        cases e1
        exact ⟨_, rfl, .inl ⟨vs, e2, hR ι' H' _ x R' (by rw [holdOf_eq hs]; exact it_list hl)⟩⟩
      | non => cases hs
      | bl _ => cases hs
      | int _ => cases hs
      | str _ => cases hs
    · cases h1
  refine thn (he.run pins s σ H _ I h2) fun u s1 hq => ?_
  obtain ⟨x, H1, I1, r1, a, rfl, q1⟩ := hq
  cases r1
  have keep : ∀ {cl : Value} {dt : Data}, Inv X pins σ H1 { s1 with heap := s1.heap.push { cls := cl, data := dt } } := I1.kept (t' := s1.toks) fun b o z => Heap.get?_push_of_some _ z
  have mine : ∀ b ∈ [s1.heap.objs.size], FpOk X pins H1 b := fun b hb => by
    rw [List.mem_singleton.mp hb]
    exact I1.fpOk (Nat.le_refl _) (I1.hok.fresh (Nat.le_refl _))
  rcases q1 with ⟨xs, hq, hR⟩ | ⟨xs, hq, hR⟩
  · obtain ⟨its, _, pl, _⟩ := I1.list hq
    exact wpAny_pyIter_list pl.isList ⟨_, _, _, _, H1, rfl, keep, turn_list a _, ⟨_, Heap.get?_push_size _ rfl, rfl, rfl⟩, mine, hR⟩
  · obtain ⟨its, _, pl, _⟩ := I1.tuple hq
    exact wpAny_pyIter_tuple (show s1.heap.IsTuple a its.toArray from pl) ⟨_, _, _, _, H1, rfl, keep, turn_tuple a _, ⟨_, Heap.get?_push_size _ rfl, rfl, rfl⟩, mine, hR⟩

theorem snd_it (hφ : PhiMono φ) (G : Good C ca φ k X W) {kk : ItK} {xs : List Expr} (hi : itArgs C kk tg e = some xs) (A : AllE X ca C.g φ W es xs) : PI X tg e (tI X.K ca C.g φ W kk es) := by
  have ref_of : ∀ {K : PySem.W.Frag} {ι : List Addr} {H : Hp} {l : Nat} {v : V}, RelD K ι H (.ref l) v → ∃ a, v = .ref a ∧ ι[l]? = some a := fun r => by
    cases r with
    | ref h => exact ⟨_, rfl, h⟩
  unfold itArgs at hi
  cases kk with
  | seq =>
    cases hi
    obtain ⟨m, rfl, ha, pa⟩ := A.one
    exact pi_seq hφ ha
  | range =>
    dsimp only at hi
    split at hi
    · split at hi
      · rename_i hc
        cases hi
        simp only [Bool.and_eq_true, decide_eq_true_eq] at hc
        obtain ⟨rfl, hg⟩ := hc
        obtain ⟨m, rfl, ha, pa⟩ := A.one
        refine (pi_range1 (gl_ok G hg).1 (G.blt' (by decide +kernel)) (A.pa hφ) (star_of pa _ _)).weak fun σ H R q => ?_
        obtain ⟨ι, S, σd, Rp, r, q⟩ := q
        refine tAs_mk hφ Rp r (lenW hφ q) fun ds S' ι' H' vs q x R' rv => ?_
        obtain ⟨q0, c, w, h1, hc, hR⟩ := q
        unfold iterR at h1
        dsimp only at h1
        split at h1
        · cases h1
          cases rv with
          | cons r1 r2 =>
            cases r2
            cases r1
            exact ⟨_, rfl, hc.1, hc.2, hR ι' H' _ x R' (it_range _ _)⟩
        · have z := q0
          cases z
        · cases h1
      · cases hi
    · split at hi
      · rename_i hc
        cases hi
        simp only [Bool.and_eq_true, decide_eq_true_eq] at hc
        obtain ⟨rfl, hg⟩ := hc
        obtain ⟨m, n, rfl, ha, pa, hb, pb⟩ := A.two
        refine (pi_range2 (gl_ok G hg).1 (G.blt' (by decide +kernel)) (A.pa hφ) (by rw [star_of pa, star_of pb]; rfl) (star_of pb _ _)).weak fun σ H R q => ?_
        obtain ⟨ι, S, σd, Rp, r, q⟩ := q
        refine tAs_mk hφ Rp r (lenW hφ q) fun ds S' ι' H' vs q x R' rv => ?_
        obtain ⟨q0, c, w, h1, hc, hR⟩ := q
        unfold iterR at h1
        dsimp only at h1
        split at h1
        · have z := q0
          cases z
        · cases h1
          cases rv with
          | cons r1 r2 =>
            cases r2 with
            | cons r2 r3 =>
              cases r3
              cases r1
              cases r2
              exact ⟨_, _, rfl, hc, hR ι' H' _ x R' (it_range _ _)⟩
        · cases h1
      · cases hi
    · cases hi
  | enum =>
    dsimp only at hi
    split at hi
    · split at hi
      · rename_i hc
        cases hi
        simp only [Bool.and_eq_true, decide_eq_true_eq] at hc
        obtain ⟨rfl, hg⟩ := hc
        obtain ⟨m, rfl, ha, pa⟩ := A.one
        refine (pi_enum (gl_ok G hg).1 (G.blt' (by decide +kernel)) (A.pa hφ) (star_of pa _ _)).weak fun σ H R q => ?_
        obtain ⟨ι, S, σd, Rp, r, q⟩ := q
        refine tAs_mk hφ Rp r q fun ds S' ι' H' vs q x R' rv => ?_
        obtain ⟨c, w, h1, hc, hR⟩ := q
        unfold iterR at h1
        dsimp only at h1
        split at h1
        · split at h1
          · rename_i l xs hs
            cases h1
            cases rv with
            | cons r1 r2 =>
              cases r2
              cases r1 with
              | ref hl =>
                obtain ⟨us, e2, e3⟩ := seqL_inj R' hs hl
                exact ⟨_, us, rfl, e2, hR ι' H' _ x R' (it_enum hl)⟩
          · cases h1
        · cases h1
      · cases hi
    · cases hi
  | zip =>
    dsimp only at hi
    split at hi
    · split at hi
      · rename_i hc
        cases hi
        simp only [Bool.and_eq_true, decide_eq_true_eq] at hc
        obtain ⟨rfl, hg⟩ := hc
        obtain ⟨m, n, rfl, ha, pa, hb, pb⟩ := A.two
        refine (RZ.pi_zipA (gl_ok G hg).1 (G.blt' (by decide +kernel)) (A.pa hφ) (star_of pa _ _) (by rw [star_of pb]; rfl)).weak fun σ H R q => ?_
        obtain ⟨ι, S, σd, Rp, r, q⟩ := q
        refine tAs_mk hφ Rp r q fun ds S' ι' H' vs q x R' rv => ?_
        obtain ⟨c, w, h1, hc, hR⟩ := q
        unfold iterR at h1
        dsimp only at h1
        split at h1
        · split at h1
          · rename_i l m xs ys hs1 hs2
            cases h1
            cases rv with
            | cons r1 r2 =>
              cases r2 with
              | cons r2 r3 =>
                cases r3
                cases r1 with
                | ref hl =>
                  cases r2 with
                  | ref hm =>
                    obtain ⟨us, e2, e3⟩ := seqL_inj R' hs1 hl
                    obtain ⟨ws, f2, f3⟩ := seqL_inj R' hs2 hm
                    exact ⟨_, _, us, ws, rfl, .inl ⟨e2, f2, hR ι' H' _ x R' (it_zip hl hm)⟩⟩
          · cases h1
        · cases h1
          cases rv with
          | cons r1 r2 =>
            cases r2 with
            | cons r2 r3 =>
              cases r3
              cases r1 with
              | tup t1 t2 =>
                cases r2 with
                | tup s1 s2 => exact ⟨_, _, _, _, rfl, .inr ⟨t1, s1, hR ι' H' _ x R' (it_zipT t1 t2 s1 s2)⟩⟩
        · cases h1
      · cases hi
    · cases hi
end
end CC
/-! Instances: fields, properties, making. -/
namespace CC
open L2 PySem PySem.Spec PyProof.Rows
section
variable {C : Ck} {ca : Nat → Addr} {φ : Phi} {k : Nat} {X : Cx} {W : WX}
theorem snd_fld {cs : List Nat} {o : Ex} {x : Str} (So : SndE o) : SndE (.fld cs o x) := .of fun {C ca φ k X W e t} hφ G h => by
  simp only [chkE] at h
  split at h
  · simp only [Bool.and_eq_true, decide_eq_true_eq, List.all_eq_true] at h
    obtain ⟨⟨⟨rfl, h1⟩, h2⟩, h3⟩ := h
    refine ⟨(pe_fld (So.pe hφ G h1) (base_of h2 _ _ _)).weak fun σ H Q q => ?_, rfl⟩
    obtain ⟨ι, S, σd, R, r, q⟩ := q
    simp only [wpE] at q
    refine tE_mk hφ R r q fun d S1 ι1 H1 v q1 x1 R1 rv => ?_
    clear q
    split at q1
    · rename_i c fs hi
      obtain ⟨hc, q2⟩ := q1
      split at q2
      · rename_i d2 hl
        obtain ⟨l, a, dx, gs, rfl, e1, rfl, e2, e3, e4, e5⟩ := R1.ins hi rv
        obtain ⟨v2, e6, rv2⟩ := e5.look hl
        have hx := h3 c (by simpa using hc)
        split at hx
        · rename_i cl hcl
          simp only [List.any_eq_true, decide_eq_true_eq] at hx
          obtain ⟨z, hz, rfl⟩ := hx
          have F := G.cls c cl hcl
          exact ⟨a, ca c, dx, gs, v2, rfl, e3, F.ok, F.fld _ hz, e6, q2 ι1 H1 v2 x1 R1 rv2⟩
        · cases hx
      · exact q2.elim
    · exact q1.elim
  · cases h
theorem look_mem {c f : Nat} : ∀ {tb : List (Nat × Nat)}, tb.lookup c = some f → (c, f) ∈ tb
  | [], h => by cases h
  | p :: r, h => by
    rw [List.lookup_cons] at h
    cases e : c == p.1 with
    | true =>
      rw [e] at h
      cases h
      rw [eq_of_beq e]
      exact List.mem_cons_self
    | false =>
      rw [e] at h
      exact List.mem_cons_of_mem _ (look_mem h)
/-- a property's getter runs -/
theorem prop_run {pins : List (Addr × Obj)} {σ : L2.St} {H : Hp} {s : Shared} {Q : VK} {b g : Bool} {E' : Value → Shared → Prop} {c p a dx gf : Addr} {x : Str} {fd : FuncData} {ps : List Str} {sp : Sp} {gs : List (Str × V)} (I : Inv X pins σ H s) (ea : H a = some (.ins c dx gs)) (ok : Cls X.K c) (hp : PropOf X.K c x p gf)
    (F : FnOkG X.prog X.w X.K X.mg X.base g k gf fd ps sp) (hr : Room k X.A.in1) (hg : g = true → X.A.guards = some []) (hb : ∀ (s : Shared) (us : List Value), us.length = ps.length → BindsTo s fd ⟨us, []⟩ (ps.zip us)) (h : sp [.ref a] H Q fun _ _ _ => False) :
    wpAny (model X.prog X.w) X.A (getAttr (.ref a) x b) (EP X pins σ Q) E' s := by
  obtain ⟨mA, O, _⟩ := ins_get I.hok ea
  obtain ⟨od, J, _⟩ := O.look
  obtain ⟨rest, hrec⟩ := hp.rec_
  have It := I.tok (s.toks + 1)
  have hl : [Value.ref a].length = ps.length := F.len _ _ _ _ h
  obtain ⟨cd, hcd, _⟩ := PySem.W.any_some ok.hd
  refine PySem.W.get_bind I.kIn J (PySem.W.plainGet_of (ok.get x)).1 (PySem.W.findObj_data (by rw [hcd]; rfl) hp.at_ hp.get hp.tak) (PySem.W.plainGet_of (ok.get x)).2 (wpAny_call (PySem.W.prop_get (s := { s with toks := s.toks + 1 }) I.kIn hrec ?_))
  refine codeAny_mono (F.run X.A.in1 X.stack { s with toks := s.toks + 1 } H ⟨[.ref a], []⟩ [.ref a] [.ref a] Q _ hr hg It.env0.in1 (hb _ [.ref a] hl) (.cons rfl .nil) h) fun r s2 hq => ?_
  cases r with
  | error er =>
    obtain ⟨_, _, _, _, _, _, _, _, _, _, _, _, z⟩ := hq
    exact z.elim
  | ok fl =>
    cases fl with
    | ret u =>
      obtain ⟨v, H2, J2, rv, q2⟩ := It.after hq
      show wpAny _ _ (handedOut u) _ _ _
      rw [PySem.W.handedOut_of (handed_of rv)]
      exact wpAny_pure ⟨v, H2, J2, rv, q2⟩
    | next => exact (show False from hq).elim
    | brk => exact (show False from hq).elim
    | cont => exact (show False from hq).elim
theorem snd_prop {tb : List (Nat × Nat)} {o : Ex} {x : Str} (So : SndE o) : SndE (.prop tb o x) := .of fun {C ca φ k X W e t} hφ G h => by
  simp only [chkE] at h
  split at h
  · simp only [Bool.and_eq_true, decide_eq_true_eq, List.all_eq_true] at h
    obtain ⟨⟨⟨rfl, h1⟩, h2⟩, h3⟩ := h
    refine ⟨⟨fun pins s σ H Q I q => ?_⟩, rfl⟩
    obtain ⟨ι, S, σd, R, r, q⟩ := q
    simp only [wpE] at q
    have q1 : tE X.K ca C.g φ W o σ H (fun v H1 => ∃ a dx gs c f, v = .ref a ∧ H1 a = some (.ins (ca c) dx gs) ∧ tb.lookup c = some f ∧ spF X.K ca φ f [.ref a] H1 Q fun _ _ _ => False) := tE_mk hφ R r q fun d S1 ι1 H1 v q x1 R1 rv => by
      split at q
      · rename_i c fs hi
        split at q
        · rename_i f hl
          obtain ⟨l, a, dx, gs, rfl, e1, rfl, e2, e3, e4, e5⟩ := R1.ins hi rv
          exact ⟨a, dx, gs, c, f, rfl, e3, hl, ι1, S1, _, R1, .cons (.ref e2) .nil, hφ _ _ _ _ _ _ _ (fun d S2 q => q.of x1) (fun _ _ z => z.elim) q⟩
        · exact q.elim
      · exact q.elim
    refine attr_of (base_of h2 _ _ _) (thn ((So.pe hφ G h1).run pins s σ H _ I q1) fun u s1 hq => ?_)
    obtain ⟨v, H1, I1, rv, a, dx, gs, c, f, rfl, e3, hl, q⟩ := hq
    cases rv
    have hmem : (c, f) ∈ tb := look_mem hl
    obtain ⟨h4, h5⟩ := h3 _ hmem
    split at h4
    · rename_i cl hcl
      simp only [List.any_eq_true, decide_eq_true_eq] at h4
      obtain ⟨p, hp, e4⟩ := h4
      subst e4
      split at h5
      · rename_i fn hf
        simp only [Bool.or_eq_true, Bool.not_eq_true'] at h5
        obtain ⟨fd, _, _, hb, _, F⟩ := (G.fns f fn hf).ex
        have Fc := G.cls c cl hcl
        obtain ⟨pa, P⟩ := Fc.prp _ hp
        refine prop_run I1 e3 Fc.ok P F (G.room2 _ rfl (Nat.le_succ _) (Nat.le_trans (Nat.le_refl _) (Nat.add_le_add_left (by decide : 1 ≤ 8) _))) (fun z => ?_) hb q
        rcases h5 with h5 | h5
        · rw [z] at h5; cases h5
        · exact G.gd h5
      · cases h5
    · cases h4
  · cases h
theorem make_guards {A : Around} {D : Addr} {us : List Value} {kw : List (Str × Value)} (h : A.guards = some []) : (A.under (.builtin "type.__call__" ⟨.ref D :: us, kw⟩)).guards = some [] := by
  simp [Around.under, Code.guards, Code.isGuard, pushGuards, h, guardIds]
theorem make_run {pins : List (Addr × Obj)} {σ : L2.St} {H : Hp} {s : Shared} {Q : VK} {us ws : List Value} {kw : List (Str × Value)} {vs : List V} {g : Bool} {c gf : Addr} {fd : FuncData} {ps : List Str} {sp : Sp} (M : Mk X.K c gf) (F : FnOkG X.prog X.w X.K X.mg X.base g k gf fd ps sp)
    (hr : Room k (X.A.under (.builtin "type.__call__" ⟨.ref c :: us, kw⟩))) (hg : g = true → X.A.guards = some []) (tk : Takes X W) (I : Inv X pins σ H s) (r : Vals vs ws) (hb : ∀ (s : Shared) (x : Value), BindsTo s fd ⟨x :: us, kw⟩ (ps.zip (x :: ws)))
    (h : ∀ x dx, H x = none → H dx = none → dx ≠ x → sp (.ref x :: vs) (upd (upd H dx (.own x)) x (.ins c dx [])) (fun v H2 => v = .non ∧ Q (.ref x) H2) (WE W σ)) :
    wpAny (model X.prog X.w) X.A (call (.ref c) us kw) (EP X pins σ Q) X.xe s := by
  have hq := h (s.heap.objs.size + 1) s.heap.objs.size (I.hok.fresh (Nat.le_succ _)) (I.hok.fresh (Nat.le_refl _)) (Nat.ne_of_lt (Nat.lt_succ_self _))
  have Im := Inv.made (C := c) I
  refine wpAny_call (make_map (f := gf) I.kIn M.makes M.init (beq_iff_eq.mp M.fn) (codeAny_mono (F.run _ X.stack _ _ _ (Value.ref (s.heap.objs.size + 1) :: ws) (V.ref (s.heap.objs.size + 1) :: vs) _ _ hr (fun z => make_guards (hg z)) (Im.env0.make c us kw) (hb _ _) (.cons rfl r) hq) fun r s2 hz => ?_))
  cases r with
  | error e => exact passAt tk σ pins _ _ e s2 Im hz
  | ok fl =>
    cases fl with
    | ret u =>
      obtain ⟨v, H2, J2, rv, ev, q3⟩ := Im.after hz
      subst ev
      exact ⟨rv, V.ref (s.heap.objs.size + 1), H2, J2, rfl, q3⟩
    | next => exact (show False from hz).elim
    | brk => exact (show False from hz).elim
    | cont => exact (show False from hz).elim
theorem made_sp {K : PySem.W.Frag} (hφ : PhiMono φ) {c f : Nat} {ds : List D} {vs : List V} {S1 : Store} {ι1 ι : List Addr} {H1 H : Hp} {Q : VK} {σ : L2.St} (x1 : Ext K ι H ι1 H1) (R1 : Rep K ca ι1 S1 H1) (rv : RelDs K ι1 H1 ds vs)
    (q : φ f (.ref S1.length :: ds) (S1 ++ [.ins c []]) (fun d S2 => d = .non ∧ QL K ca Q ι H (.ref S1.length) S2) (EL K ca W σ ι H)) :
    ∀ x dx, H1 x = none → H1 dx = none → dx ≠ x → spF K ca φ f (.ref x :: vs) (upd (upd H1 dx (.own x)) x (.ins (ca c) dx [])) (fun v H2 => v = .non ∧ Q (.ref x) H2) (WE W σ) := fun x dx hx hd ne => by
  have x2 : Ext K ι1 H1 (ι1 ++ [x]) (upd (upd H1 dx (.own x)) x (.ins (ca c) dx [])) := Ext.pushIns hx hd
  have hL : (ι1 ++ [x])[S1.length]? = some x := by rw [← R1.len]; simp
  refine ⟨ι1 ++ [x], S1 ++ [.ins c []], _, R1.pushIns hx hd ne, .cons (.ref hL) (rv.mono x2), hφ _ _ _ _ _ _ _ (fun d S2 q => ?_) (fun e S2 q => q.of (x1.trans x2)) q⟩
  intro ι' H' v x3 R3 rv3
  obtain ⟨rfl, q⟩ := q
  cases rv3
  exact ⟨rfl, q ι' H' _ ((x1.trans x2).trans x3) R3 (.ref (x3.pre _ _ hL))⟩
theorem pick_succ {α : Type} (x : α) (xs : List α) : ∀ (is : List Nat), pick (x :: xs) (is.map (· + 1)) = pick xs is
  | [] => rfl
  | i :: is => by
    rw [List.map_cons]
    unfold pick
    rw [pick_succ x xs is]
    simp
theorem snd_make {c f : Nat} {es : Exs} (S : SndEs es) : SndE (.make c f es) := .of fun {C ca φ k X W e t} hφ G h => by
  simp only [chkE] at h
  split at h
  · rename_i x p xs pos
    simp only [Bool.and_eq_true] at h
    obtain ⟨⟨⟨h1, h2⟩, h3⟩, h4⟩ := h
    split at h1
    · rename_i cl hcl
      simp only [Bool.and_eq_true, decide_eq_true_eq] at h1
      obtain ⟨rfl, rfl⟩ := h1
      split at h2
      · rename_i fn hf
        simp only [Bool.or_eq_true, Bool.not_eq_true'] at h2
        obtain ⟨g1, g2⟩ := gl_ok G h3
        obtain ⟨fd, _, _, hb, _, F⟩ := (G.fns _ fn hf).ex
        have Fc := G.cls c cl hcl
        have hg : fn.g = true → X.A.guards = some [] := fun z => by
          rcases h2 with h2 | h2
          · rw [z] at h2; cases h2
          · exact G.gd h2
        have A := S.all hφ G h4
        refine ⟨⟨fun pins s σ H Q I q => ?_⟩, rfl⟩
        have q : tAs X.K ca C.g φ W es σ H fun vs H1 => ∀ x dx, H1 x = none → H1 dx = none → dx ≠ x → spF X.K ca φ cl.init (.ref x :: vs) (upd (upd H1 dx (.own x)) x (.ins (ca c) dx [])) (fun v H2 => v = .non ∧ Q (.ref x) H2) (WE W σ) := by
          obtain ⟨ι, S, σd, R, r, q⟩ := q
          simp only [wpE] at q
          exact tAs_mk hφ R r q fun ds S1 ι1 H1 vs q x1 R1 rv => made_sp hφ x1 R1 rv q
        have hr : ∀ us, Room k (X.A.under (.builtin "type.__call__" ⟨.ref (ca c) :: us, []⟩)) := fun us => G.room2 _ rfl (by rw [make_depth]; exact Nat.le_refl _) (by rw [make_units]; omega)
        refine wpAny_Call_Name_kw (ld_glob I g1 Fc.mg ?_ g2)
        have fin : ∀ {pins : List (Addr × Obj)} {s1 : Shared} {H1 : Hp} {us : List Value} {vs : List V}, Inv X pins σ H1 s1 → Vals vs us → (∀ x dx, H1 x = none → H1 dx = none → dx ≠ x → spF X.K ca φ cl.init (.ref x :: vs) (upd (upd H1 dx (.own x)) x (.ins (ca c) dx [])) (fun v H2 => v = .non ∧ Q (.ref x) H2) (WE W σ)) →
            wpAny (model X.prog X.w) X.A (call (.ref (ca c)) us) (EP X pins σ Q) X.xe s1 := fun {pins s1 H1 us vs} I1 r q => by
          have hq := q (s1.heap.objs.size + 1) s1.heap.objs.size (I1.hok.fresh (Nat.le_succ _)) (I1.hok.fresh (Nat.le_refl _)) (Nat.ne_of_lt (Nat.lt_succ_self _))
          have hl := F.len _ _ _ _ hq
          exact make_run Fc.made F (hr us) hg G.takes I1 r (fun s x => hb s (x :: us) (by rw [← hl, List.length_cons, List.length_cons, r.length])) q
        cases xs with
        | nil =>
          cases A
          exact PySem.W.callWith_K0 I.kIn Fc.made.kp (fin I .nil (tAs_nil q))
        | cons y ys =>
          refine PySem.W.callWith_K (h₀ := X.base) I.ok.mod.kin Fc.made.kp (thn ((A.pa hφ).run pos pins s σ H _ I q) fun us s1 hq => ?_) ?_ ?_
          · obtain ⟨vs, H1, I1, r, q1⟩ := hq
            exact ⟨I1.kIn, fin I1 r q1⟩
          · cases A with
            | cons z1 z2 z3 => exact star_of z2 _ _
          · cases A with
            | cons z1 z2 z3 => exact z3.plain
      · cases h2
    · cases h1
  · cases h
theorem snd_makek {c f : Nat} {es : Exs} {ks : List Str} {kes : Exs} {perm : List Nat} (S : SndEs es) (Sk : SndEs kes) : SndE (.makek c f es ks kes perm) := .of fun {C ca φ k X W e t} hφ G h => by
  simp only [chkE] at h
  split at h
  · rename_i x p xs kws pos
    simp only [Bool.and_eq_true, List.any_eq_true, decide_eq_true_eq] at h
    obtain ⟨⟨⟨⟨⟨⟨h1, h2⟩, h3⟩, h4⟩, h5⟩, h6⟩, q0, h7, h8⟩ := h
    subst h8
    split at h1
    · rename_i cl hcl
      simp only [Bool.and_eq_true, decide_eq_true_eq] at h1
      obtain ⟨rfl, rfl⟩ := h1
      split at h2
      · rename_i fn hf
        simp only [Bool.or_eq_true, Bool.not_eq_true'] at h2
        obtain ⟨g1, g2⟩ := gl_ok G h3
        obtain ⟨fd, _, _, _, hb, F⟩ := (G.fns _ fn hf).ex
        have Fc := G.cls c cl hcl
        have hg : fn.g = true → X.A.guards = some [] := fun z => by
          rcases h2 with h2 | h2
          · rw [z] at h2; cases h2
          · exact G.gd h2
        have A := S.all hφ G h4
        have B := Sk.all hφ G h5
        obtain ⟨n1, n2, n3⟩ := kw_names (pos := pos) (env := X.env) h6
        have lk : ks.length = exsLen kes := by
          have := congrArg List.length h6
          simp only [List.length_map] at this
          rw [← this, ← B.len, List.length_map]
        refine ⟨⟨fun pins s σ H Q I q => ?_⟩, rfl⟩
        have q : tAs X.K ca C.g φ W es σ H fun vs H1 => vs.length = exsLen es ∧ tAs X.K ca C.g φ W kes σ H1 fun zs H2 => zs.length = exsLen kes ∧ ∃ rs, pick (vs ++ zs) perm = some rs ∧
            ∀ x dx, H2 x = none → H2 dx = none → dx ≠ x → spF X.K ca φ cl.init (.ref x :: rs) (upd (upd H2 dx (.own x)) x (.ins (ca c) dx [])) (fun v H3 => v = .non ∧ Q (.ref x) H3) (WE W σ) := by
          obtain ⟨ι, S, σd, R, r, q⟩ := q
          simp only [wpE] at q
          refine tAs_mk hφ R r (lenW hφ q) fun ds S1 ι1 H1 vs q x1 R1 rv => ?_
          refine ⟨by rw [← rv.length]; exact q.1, tAs_mk hφ R1 (r.mono x1) (lenW hφ (wpAs_mono hφ kes (fun _ _ q => q) (fun _ _ z => z.of x1) q.2)) fun ks S2 ι2 H2 zs q x2 R2 rz => ⟨by rw [← rz.length]; exact q.1, ?_⟩⟩
          have q := q.2
          split at q
          · rename_i rs hp
            obtain ⟨ws, e, r3⟩ := pick_rel ((rv.mono x2).append rz) hp
            exact ⟨ws, e, made_sp hφ (x1.trans x2) R2 r3 q⟩
          · exact q.elim
        have hr : ∀ us kw, Room k (X.A.under (.builtin "type.__call__" ⟨.ref (ca c) :: us, kw⟩)) := fun us kw => G.room2 _ rfl (by rw [make_depth]; exact Nat.le_refl _) (by rw [make_units]; omega)
        refine wpAny_Call_Name_kw (ld_glob I g1 Fc.mg ?_ g2)
        have fin : ∀ {pins : List (Addr × Obj)} {s2 : Shared} {H2 : Hp} {us ws : List Value} {vs zs : List V}, Inv X pins σ H2 s2 → Vals vs us → Vals zs ws → vs.length = xs.length → zs.length = exsLen kes → (∃ rs, pick (vs ++ zs) perm = some rs ∧
            ∀ x dx, H2 x = none → H2 dx = none → dx ≠ x → spF X.K ca φ cl.init (.ref x :: rs) (upd (upd H2 dx (.own x)) x (.ins (ca c) dx [])) (fun v H3 => v = .non ∧ Q (.ref x) H3) (WE W σ)) →
            wpAny (model X.prog X.w) X.A (call (.ref (ca c)) us (ks.zip ws)) (EP X pins σ Q) X.xe s2 := fun {pins s2 H2 us ws vs zs} I2 r rz l1 l2 q => by
          obtain ⟨rs, hp, q⟩ := q
          obtain ⟨us2, hp2, r2⟩ := pick_vals (r.append rz) hp
          have hq := q (s2.heap.objs.size + 1) s2.heap.objs.size (I2.hok.fresh (Nat.le_succ _)) (I2.hok.fresh (Nat.le_refl _)) (Nat.ne_of_lt (Nat.lt_succ_self _))
          have hl := F.len _ _ _ _ hq
          refine make_run Fc.made F (hr us _) hg G.takes I2 r2 (fun s x => hb _ h7 s (x :: us) ws (x :: us2) (by rw [List.length_cons, ← r.length, l1]) (by rw [← rz.length, l2]; exact lk.symm) ?_ (by rw [← hl, List.length_cons, List.length_cons, r2.length])) q
          unfold pick
          rw [List.cons_append, pick_succ, hp2]
          rfl
        cases xs with
        | nil =>
          cases A
          obtain ⟨_, q⟩ := tAs_nil q
          refine PySem.W.callWith_KW0 (h₀ := X.base) I.ok.mod.kin Fc.made.kp n1 (thn ((B.pk hφ).run pos pins s σ H _ I q) fun ws s2 hq => ?_) (by rw [n3]; rfl)
          obtain ⟨zs, H2, I2, rz, l2, q2⟩ := hq
          refine ⟨I2.kIn, ?_⟩
          rw [n2]
          exact fin I2 .nil rz rfl l2 q2
        | cons y ys =>
          have hst : starEach (y :: ys) X.env = (false, eval y X.env) :: starEach ys X.env := by
            cases A with
            | cons z1 z2 z3 => exact star_of z2 _ _
          refine PySem.W.callWith_KW (h₀ := X.base) I.ok.mod.kin Fc.made.kp n1 (thn ((A.pa hφ).run pos pins s σ H _ I q) fun us s1 hq => ?_) (by rw [A.plain, n3]; rfl) hst
          obtain ⟨vs, H1, I1, r, l1, q1⟩ := hq
          refine thn ((B.pk hφ).run pos pins s1 σ H1 _ I1 q1) fun ws s2 hq => ?_
          obtain ⟨zs, H2, I2, rz, l2, q2⟩ := hq
          refine ⟨I2.kIn, ?_⟩
          rw [n2]
          exact fin I2 r rz (by rw [l1, A.len]) l2 q2
      · cases h2
    · cases h1
  · cases h
end
end CC
/-! Targets, comprehensions; every expression of the little language is what it says. -/
namespace CC
open L2 PySem PySem.Spec PyProof.Rows

/-! ### slots that are written -/
def Off (vs : List Nat) (σ σ' : L2.St) : Prop := σ'.length = σ.length ∧ ∀ i, i ∉ vs → σ'[i]? = σ[i]?
theorem Off.trans {us vs : List Nat} {σ σ1 σ2 : L2.St} (h : Off us σ σ1) (k : Off vs σ1 σ2) : Off (us ++ vs) σ σ2 :=
  ⟨k.1.trans h.1, fun i hi => (k.2 i fun z => hi (List.mem_append_right _ z)).trans (h.2 i fun z => hi (List.mem_append_left _ z))⟩
theorem wipe_get (σ : L2.St) (i : Nat) : ∀ vs : List Nat, (wipe σ vs)[i]? = if i ∈ vs then (if i < σ.length then some none else none) else σ[i]?
  | [] => by simp [wipe]
  | v :: vs => by
    unfold wipe
    by_cases h : v = i
    · subst h
      rw [if_pos List.mem_cons_self]
      by_cases hl : v < σ.length
      · rw [if_pos hl, List.getElem?_set_self (by rw [wipe_length]; exact hl)]
      · rw [if_neg hl, List.getElem?_eq_none (by rw [List.length_set, wipe_length]; omega)]
    · rw [List.getElem?_set_ne h, wipe_get σ i vs]
      have : i ∈ v :: vs ↔ i ∈ vs := by simp [Ne.symm h]
      simp only [this]
theorem Off.wipe {us vs : List Nat} {σ σ' : L2.St} (h : Off us (wipe σ vs) σ') (hs : ∀ i ∈ us, i ∈ vs) : wipe σ' vs = L2.wipe σ vs := by
  apply List.ext_getElem?
  intro i
  rw [wipe_get, wipe_get, h.1, wipe_length]
  by_cases hi : i ∈ vs
  · rw [if_pos hi, if_pos hi]
  · rw [if_neg hi, if_neg hi, h.2 i fun z => hi (hs i z), wipe_get, if_neg hi]

/-! ### targets -/
section
variable (K : PySem.W.Frag) (ca : Nat → Addr) (g : Bool) (φ : Phi)
def tG (t : Tg) : TG := fun v σ H Q => ∃ ι S σd d E, Rep K ca ι S H ∧ RelS K ι H σd σ ∧ RelD K ι H d v ∧ wpTg g φ t d σd S (fun σd' S' => ∀ σ' ι' H', Ext K ι H ι' H' → Rep K ca ι' S' H' → RelS K ι' H' σd' σ' → Off (slots t) σ σ' → Q σ' H') E
def tGs (ts : Tgs) : TGs := fun vs σ H Q => ∃ ι S σd ds E, Rep K ca ι S H ∧ RelS K ι H σd σ ∧ RelDs K ι H ds vs ∧ wpTgs g φ ts ds σd S (fun σd' S' => ∀ σ' ι' H', Ext K ι H ι' H' → Rep K ca ι' S' H' → RelS K ι' H' σd' σ' → Off (slotsL ts) σ σ' → Q σ' H') E
end
structure SndTg (t : Tg) : Prop where
  pg : ∀ {C : Ck} {ca : Nat → Addr} {φ : Phi} {k : Nat} {X : Cx} {W : WX} {e : Expr}, PhiMono φ → Good C ca φ k X W → chkTg C t e = true → PG X e (tG X.K ca C.g φ t)
structure SndTgs (ts : Tgs) : Prop where
  pgs : ∀ {C : Ck} {ca : Nat → Addr} {φ : Phi} {k : Nat} {X : Cx} {W : WX} {es : List Expr}, PhiMono φ → Good C ca φ k X W → chkTgs C ts es = true → PGs X es (tGs X.K ca C.g φ ts) ∧ (assignEach es X.env).length = tgsLen ts ∧ (assignEach es X.env).findIdx? (·.1) = none
theorem each_of {e : Expr} (h : plainX e = true) (es : List Expr) (env : Env) : assignEach (e :: es) env = (false, assign e env) :: assignEach es env := by
  cases e <;> first | rfl | cases h
theorem _root_.L2.PG.weak {X : Cx} {e : Expr} {t t' : TG} (h : PG X e t) (i : ∀ v σ H Q, t' v σ H Q → t v σ H Q) : PG X e t' := ⟨fun pins s σ H v u Q I r q => h.run pins s σ H v u Q I r (i v σ H Q q)⟩
theorem _root_.L2.PGs.weak {X : Cx} {e : List Expr} {t t' : TGs} (h : PGs X e t) (i : ∀ v σ H Q, t' v σ H Q → t v σ H Q) : PGs X e t' := ⟨fun pins s σ H v u Q I r q => h.run pins s σ H v u Q I r (i v σ H Q q)⟩
theorem snd_name (i : Nat) : SndTg (.name i) where
  pg := fun {C ca φ k X W e} hφ G h => by
    simp only [chkTg] at h
    split at h
    · obtain ⟨h1, h2, h3⟩ := loc_ok G h
      refine (pg_name G.nd h1 h2 h3).weak fun v σ H Q q => ?_
      obtain ⟨ι, S, σd, d, E, R, r, rd, q⟩ := q
      simp only [wpTg] at q
      exact q _ ι H Ext.refl R (r.set rd i) ⟨List.length_set .., fun j hj => by rw [List.getElem?_set_ne (fun z => hj (by simp [slots, z]))]⟩
    · cases h
theorem snd_sub {o i : Ex} (So : SndE o) (Si : SndE i) : SndTg (.sub o i) where
  pg := fun {C ca φ k X W e} hφ G h => by
    simp only [chkTg] at h
    split at h
    · rename_i a b pos
      simp only [Bool.and_eq_true] at h
      refine (pg_sub (So.pe hφ G h.1.1) (Si.pe hφ G h.1.2) set_list fun v => ?_).weak fun v σ H Q q => ?_
      · have z := h.2
        cases b <;> first | rfl | cases z
      · obtain ⟨ι, S, σd, d, E, R, r, rd, q⟩ := q
        simp only [wpTg] at q
        refine tE_mk hφ R r (wpE_mono hφ o (fun _ _ q => q) (fun _ _ z => z.elim) q) fun d1 S1 ι1 H1 v1 q1 x1 R1 rv1 => ?_
        refine tE_mk hφ R1 (r.mono x1) (wpE_mono hφ i (fun _ _ q => q) (fun _ _ z => z.elim) q1) fun d2 S2 ι2 H2 v2 q2 x2 R2 rv2 => ?_
        clear q q1
        split at q2
        · rename_i l j
          split at q2
          · rename_i xs hs
            split at q2
            · rename_i n hn
              cases rv2
              obtain ⟨p, vs, rfl, e2, e3, e4⟩ := R2.lst hs (rv1.mono x2)
              refine ⟨p, vs, j, n, rfl, rfl, e3, by rw [← e4.length]; exact hn, ?_⟩
              exact q2 σ ι2 _ ((x1.trans x2).trans (Ext.wrote e3 trivial)) (R2.setLst hs e2 (e4.set ((rd.mono x1).mono x2) n)) (((r.mono x1).mono x2).mono (Ext.wrote e3 trivial)) ⟨rfl, fun _ _ => rfl⟩
            · exact q2.elim
          · exact q2.elim
        · exact q2.elim
    · cases h
theorem snd_tgnil : SndTgs .nil where
  pgs := fun {C ca φ k X W es} hφ G h => by
    simp only [chkTgs] at h
    split at h
    · refine ⟨pgs_nil.weak fun v σ H Q q => ?_, rfl, rfl⟩
      obtain ⟨ι, S, σd, ds, E, R, r, rd, q⟩ := q
      cases rd with
      | nil =>
        simp only [wpTgs] at q
        exact ⟨rfl, q σ ι H Ext.refl R r ⟨rfl, fun _ _ => rfl⟩⟩
      | cons _ _ => simp only [wpTgs] at q
    · cases h
theorem snd_tgcons {t : Tg} {ts : Tgs} (S1 : SndTg t) (S2 : SndTgs ts) : SndTgs (.cons t ts) where
  pgs := fun {C ca φ k X W es} hφ G h => by
    simp only [chkTgs] at h
    split at h
    · rename_i e es
      simp only [Bool.and_eq_true] at h
      obtain ⟨p1, p2, p3⟩ := S2.pgs hφ G h.2
      refine ⟨(pgs_cons (S1.pg hφ G h.1.1) p1 (by rw [each_of h.1.2]; rfl)).weak fun v σ H Q q => ?_, by rw [each_of h.1.2]; exact congrArg (· + 1) p2, by
        rw [each_of h.1.2, List.findIdx?_cons, p3]
        rfl⟩
      obtain ⟨ι, S, σd, ds, E, R, r, rd, q⟩ := q
      cases rd with
      | nil => simp only [wpTgs] at q
      | cons rd rds =>
        simp only [wpTgs] at q
        refine ⟨_, _, rfl, ι, S, σd, _, E, R, r, rd, wpTg_mono hφ t (fun σ1 S1 q => ?_) (fun _ _ z => z) q⟩
        intro σ' ι' H' x R' r' off
        refine ⟨ι', S1, σ1, _, E, R', r', rds.mono x, wpTgs_mono hφ ts (fun σ2 S2 q => ?_) (fun _ _ z => z) q⟩
        intro σ2' ι2 H2 x2 R2 r2 off2
        exact q σ2' ι2 H2 (x.trans x2) R2 r2 (off.trans off2)
    · cases h
theorem snd_tgtup {ts : Tgs} (S : SndTgs ts) : SndTg (.tup ts) where
  pg := fun {C ca φ k X W e} hφ G h => by
    simp only [chkTg] at h
    split at h
    · obtain ⟨p1, p2, p3⟩ := S.pgs hφ G h
      refine ⟨fun pins s σ H v u Q I rv q => ?_⟩
      obtain ⟨ι, S, σd, d, E, R, r, rd, q⟩ := q
      simp only [wpTg] at q
      split at q
      · rename_i ds hs
        obtain ⟨hl, q⟩ := q
        obtain ⟨a, vs, rfl, h3, h4⟩ := seq_of R hs rd
        have hv : vs.length = tgsLen ts := by rw [← h4.length]; exact hl
        have t : tGs X.K ca C.g φ ts vs σ H Q := ⟨ι, S, σd, ds, E, R, r, h4, q⟩
        rcases h3 with h3 | h3
        · exact (pg_lst G.calm p1 p2 p3).run pins s σ H _ u Q I rv ⟨a, vs, rfl, h3, hv, t⟩
        · exact (pg_tup G.calm p1 p2 p3).run pins s σ H _ u Q I rv ⟨a, vs, rfl, h3, hv, t⟩
      · exact q.elim
    · cases h

/-! ### comprehensions -/
theorem Good.blk {C : Ck} {ca : Nat → Addr} {φ : Phi} {k : Nat} {X : Cx} {W : WX} (G : Good C ca φ k X W) (s : Shared) (H : Hp) (scope : Scope) (D : Addr) (cl : List (Str × Addr)) (fp : List Addr) :
    Good (C.blk scope) ca φ k (X.blk s H scope (compEnvC scope cl D X.env) fp) (fun _ _ _ _ => False) where
  calm := G.calm
  nd := G.nd
  N := G.N
  sc := by
    show relS scope X.env.scope = relS scope C.sc
    rw [G.sc]
  cell := fun x h => h
  gd := G.gd
  own := PySem.PassesOwn.never
  room := G.room
  room2 := G.room2
  cls := G.cls
  takes := takes_none5
  fns := G.fns
  blt := G.blt
  gls := G.gls

/-- a comprehension's parts -/
theorem comp_parts {elt : Ex} {tg : Tg} {kk : ItK} {src cond : Exs} {own : List (Str × Nat)} (Se : SndE elt) (St : SndTg tg) (Ss : SndEs src) (Sc : SndEs cond) {C : Ck} {ca : Nat → Addr} {φ : Phi} {k : Nat} {X : Cx} {W : WX} {e tge it : Expr} {ifs : List Expr} {scope : Scope} {pos : Pos} {t : Bool} (hφ : PhiMono φ) (G : Good C ca φ k X W)
    (h : chkE C t (.comp elt tg kk src cond own) (.ListComp e [⟨tge, it, ifs, 0⟩] scope pos) = true) :
    PI X tge it (tI X.K ca C.g φ W kk src) ∧ BlkOk X.N X.env.scope scope own ∧ (∀ (s : Shared) (H : Hp) (D : Addr) (cl : List (Str × Addr)) (fp : List Addr), PG (X.blk s H scope (compEnvC scope cl D X.env) fp) tge (tG X.K ca C.g φ tg)) ∧
      (∀ (s : Shared) (H : Hp) (D : Addr) (cl : List (Str × Addr)) (fp : List Addr), PE (X.blk s H scope (compEnvC scope cl D X.env) fp) e (tE X.K ca C.g φ (fun _ _ _ _ => False) elt)) ∧ (∀ x, foldedSetIterable it X.env x = pure x) ∧
      ∃ tt : TT, (∀ (s : Shared) (H : Hp) (D : Addr) (cl : List (Str × Addr)) (fp : List Addr), PTs (X.blk s H scope (compEnvC scope cl D X.env) fp) ifs tt) ∧
        ∀ σ H Q, tE X.K ca C.g φ W (.comp elt tg kk src cond own) σ H Q → tLc (tI X.K ca C.g φ W kk src) (tG X.K ca C.g φ tg) tt (tE X.K ca C.g φ (fun _ _ _ _ => False) elt) (own.map (·.2)) σ H Q := by
  simp only [chkE] at h
  · simp only [Bool.and_eq_true] at h
    obtain ⟨⟨⟨⟨⟨⟨hb, hsl⟩, hit⟩, htg⟩, helt⟩, hcond⟩, hpl⟩ := h
    split at hit
    · rename_i xs hi
      have A := Ss.all hφ G hit
      have pi := snd_it hφ G hi A
      have ok : BlkOk X.N X.env.scope scope own := by
        rw [G.N, G.sc]
        exact blkOk_by hb
      have hsl : ∀ i ∈ slots tg, i ∈ own.map (·.2) := fun i hi => by
        have := List.all_eq_true.mp hsl i hi
        simpa using this
      refine ⟨pi, ok, fun s H D cl fp => St.pg (C := C.blk scope) hφ (G.blk s H scope D cl fp) htg, fun s H D cl fp => Se.pe (C := C.blk scope) hφ (G.blk s H scope D cl fp) helt, fun x => fold_of hpl _ x, ?_⟩
      -- the test
      have key : ∀ tt : TT, (∀ (s : Shared) (H : Hp) (D : Addr) (cl : List (Str × Addr)) (fp : List Addr), PTs (X.blk s H scope (compEnvC scope cl D X.env) fp) ifs tt) →
          (∀ σ H Q, (∃ ι S σd, Rep X.K ca ι S H ∧ RelS X.K ι H σd σ ∧ wpAs C.g φ cond σd S (fun bs S4 => match bs with
            | [] => ∀ ι' H', Ext X.K ι H ι' H' → Rep X.K ca ι' S4 H' → Q true H'
            | [b] => ∃ c, truth b S4 = some c ∧ ∀ ι' H', Ext X.K ι H ι' H' → Rep X.K ca ι' S4 H' → Q c H'
            | _ => False) (fun _ _ => False)) → tt σ H Q) → ∃ tt : TT, (∀ (s : Shared) (H : Hp) (D : Addr) (cl : List (Str × Addr)) (fp : List Addr), PTs (X.blk s H scope (compEnvC scope cl D X.env) fp) ifs tt) ∧
        ∀ σ H Q, tE X.K ca C.g φ W (.comp elt tg kk src cond own) σ H Q → tLc (tI X.K ca C.g φ W kk src) (tG X.K ca C.g φ tg) tt (tE X.K ca C.g φ (fun _ _ _ _ => False) elt) (own.map (·.2)) σ H Q := fun tt htt hT => by
        refine ⟨tt, htt, fun σ H Q q => ?_⟩
        obtain ⟨ι, S, σd, R, r, q⟩ := q
        simp only [wpE] at q
        refine ⟨ι, S, σd, R, r, wpAs_mono hφ src (fun ds S1 q => ?_) (fun _ _ z => z) q⟩
        split at q
        · rename_i c w hw
          refine ⟨c, w, hw, q.1, fun ι' H' J x R' okJ D hD => ?_⟩
          have q := q.2
          have R1 : Rep X.K ca (ι' ++ [D]) (S1 ++ [.lst []]) (upd H' D (.lst [])) := R'.pushLst hD .nil
          have x1 : Ext X.K ι' H' (ι' ++ [D]) (upd H' D (.lst [])) := Ext.push hD
          have hL : (ι' ++ [D])[S1.length]? = some D := by rw [← R'.len]; simp
          generalize hturn : (fun (x : CC.D) S2 (yes : CC.D → Store → Prop) (no : Store → Prop) => wpTg C.g φ tg x (wipeD σd (own.map (·.2))) S2 (fun σ2 S3 => wpAs C.g φ cond σ2 S3 (fun bs S4 => match bs with
            | [] => wpE C.g φ elt σ2 S4 yes (fun _ _ => False)
            | [b] => (match truth b S4 with
              | some true => wpE C.g φ elt σ2 S4 yes (fun _ _ => False)
              | some false => no S4
              | none => False)
            | _ => False) (fun _ _ => False)) (fun _ _ => False)) = turn at q
          have ht : ∀ (x : CC.D) S2 (yes : CC.D → Store → Prop) (no : Store → Prop), turn x S2 yes no → wpTg C.g φ tg x (wipeD σd (own.map (·.2))) S2 (fun σ2 S3 => wpAs C.g φ cond σ2 S3 (fun bs S4 => match bs with
            | [] => wpE C.g φ elt σ2 S4 yes (fun _ _ => False)
            | [b] => (match truth b S4 with
              | some true => wpE C.g φ elt σ2 S4 yes (fun _ _ => False)
              | some false => no S4
              | none => False)
            | _ => False) (fun _ _ => False)) (fun _ _ => False) := fun x S2 yes no z => by
            rw [← hturn] at z
            exact z
          refine ⟨fun i m Hh => ∃ ι2 S2, Ext X.K (ι' ++ [D]) (upd H' D (.lst [])) ι2 Hh ∧ Rep X.K ca ι2 S2 Hh ∧ m = w.xs.length - i ∧ i ≤ w.xs.length ∧ compW w S1.length (QL X.K ca Q ι H) turn (w.xs.drop i) S2,
            ⟨w.xs.length, ι' ++ [D], _, Ext.refl, R1, by simp, Nat.zero_le _, by rw [List.drop_zero]; exact q⟩, fun i m Hh hW => ?_⟩
          obtain ⟨ι2, S2, x2, R2, rfl, hi, q⟩ := hW
          have hL2 : ι2[S1.length]? = some D := x2.pre _ _ hL
          by_cases hlt : i < w.xs.length
          · rw [List.drop_eq_getElem_cons hlt] at q
            obtain ⟨wok, q⟩ := q
            obtain ⟨go, yl⟩ := (okJ ι2 Hh S2 (x1.trans x2) R2 wok).1 i _ (List.getElem?_eq_getElem hlt)
            refine .inr ⟨go, fun Hn => ∃ ι2 S2, Ext X.K (ι' ++ [D]) (upd H' D (.lst [])) ι2 Hn ∧ Rep X.K ca ι2 S2 Hn ∧ compW w S1.length (QL X.K ca Q ι H) turn (w.xs.drop (i + 1)) S2,
              fun Hn ⟨ι3, S3, a1, a2, a3⟩ => ⟨w.xs.length - (i + 1), by omega, ι3, S3, a1, a2, rfl, hlt, a3⟩, fun v H3 hy => ?_⟩
            obtain ⟨x3, R3, rv⟩ := yl v H3 hy
            have q := ht _ _ _ _ q
            refine ⟨ι2, S2, _, _, _, R3, (r.mono (((x.trans x1).trans x2).trans x3)).wipe _, rv, wpTg_mono hφ tg (fun σ2 S3 q => ?_) (fun _ _ z => z) q⟩
            intro σ' ι4 H4 x4 R4 r4 off
            refine ⟨off.wipe hsl, hT _ _ _ ⟨ι4, S3, σ2, R4, r4, wpAs_mono hφ cond (fun bs S4 q => ?_) (fun _ _ z => z) q⟩⟩
            have fin : ∀ ι5 H5, Ext X.K ι4 H4 ι5 H5 → Rep X.K ca ι5 S4 H5 → wpE C.g φ elt σ2 S4 (fun d S6 => ∃ acc, S6[S1.length]? = some (.lst acc) ∧ acc.length < sizeLine ∧ compW w S1.length (QL X.K ca Q ι H) turn (w.xs.drop (i + 1)) (S6.set S1.length (.lst (acc ++ [d])))) (fun _ _ => False) →
                tE X.K ca C.g φ (fun _ _ _ _ => False) elt σ' H5 fun y H6 => ∃ acc, H6 D = some (.lst acc) ∧ acc.length < sizeLine ∧ ∃ ι2 S2, Ext X.K (ι' ++ [D]) (upd H' D (.lst [])) ι2 (upd H6 D (.lst (acc ++ [y]))) ∧ Rep X.K ca ι2 S2 (upd H6 D (.lst (acc ++ [y]))) ∧ compW w S1.length (QL X.K ca Q ι H) turn (w.xs.drop (i + 1)) S2 := fun ι5 H5 x5 R5 q => by
              refine tE_mk hφ R5 (r4.mono x5) (wpE_mono hφ elt (fun _ _ q => q) (fun _ _ z => z.elim) q) fun d S6 ι6 H6 v6 q x6 R6 rv6 => ?_
              obtain ⟨acc, hacc, hlen, q⟩ := q
              have y6 : Ext X.K (ι' ++ [D]) (upd H' D (.lst [])) ι6 H6 := (((x2.trans x3).trans x4).trans x5).trans x6
              obtain ⟨p, us, e1, e2, e3, e4⟩ := R6.lst hacc (.ref (y6.pre _ _ hL))
              cases e1
              exact ⟨us, e3, by rw [← e4.length]; exact hlen, ι6, _, y6.trans (Ext.wrote e3 trivial), R6.setLst hacc e2 (e4.append (.cons rv6 .nil)), q⟩
            split at q
            · exact fun ι5 H5 x5 R5 => by
                rw [if_pos rfl]
                exact fin ι5 H5 x5 R5 q
            · split at q
              · rename_i hb
                exact ⟨true, hb, fun ι5 H5 x5 R5 => by
                  rw [if_pos rfl]
                  exact fin ι5 H5 x5 R5 q⟩
              · rename_i hb
                exact ⟨false, hb, fun ι5 H5 x5 R5 => by
                  rw [if_neg Bool.false_ne_true]
                  exact ⟨ι5, _, ((x2.trans x3).trans x4).trans x5, R5, q⟩⟩
              · exact q.elim
            · exact q.elim
          · have hi : i = w.xs.length := by omega
            rw [List.drop_of_length_le (by omega)] at q
            exact .inl ⟨(okJ ι2 Hh S2 (x1.trans x2) R2 q.1).2 i (by omega), q.2 ι2 Hh _ ((x.trans x1).trans x2) R2 (.ref hL2)⟩
        · exact q.elim
      cases cond with
      | nil =>
        simp only [chkCond] at hcond
        split at hcond
        · refine key tYes (fun _ _ _ _ _ => pts_nil) fun σ H Q q => ?_
          obtain ⟨ι, S, σd, R, r, q⟩ := q
          simp only [wpAs] at q
          exact q ι H Ext.refl R
        · cases hcond
      | cons m rest =>
        have hcond0 := hcond
        simp only [chkCond] at hcond
        split at hcond
        · refine key (tT X.K ca C.g φ (fun _ _ _ _ => False) m) (fun s H D cl fp => ?_) fun σ H Q q => ?_
          · rcases Sc.cond hφ (G.blk s H scope D cl fp) hcond0 with ⟨z, _⟩ | ⟨m', ec', z1, z2, pt⟩
            · cases z
            · cases z1
              cases z2
              exact pts_one pt
          · obtain ⟨ι, S, σd, R, r, q⟩ := q
            simp only [wpAs] at q
            exact ⟨ι, S, σd, R, r, wpE_mono hφ m (fun _ _ q => q) (fun _ _ z => z.elim) q⟩
        · cases hcond
    · cases hit
theorem snd_comp {elt : Ex} {tg : Tg} {kk : ItK} {src cond : Exs} {own : List (Str × Nat)} (Se : SndE elt) (St : SndTg tg) (Ss : SndEs src) (Sc : SndEs cond) : SndE (.comp elt tg kk src cond own) := .of fun {C ca φ k X W e t} hφ G h => by
  have h0 := h
  simp only [chkE] at h
  split at h
  · obtain ⟨p1, p2, p3, p4, p5, tt, p6, p7⟩ := comp_parts Se St Ss Sc hφ G h0
    exact ⟨(pe_lc G.calm G.nd p1 p2 p3 p6 p4 p5).weak p7, rfl⟩
  · cases h

mutual
theorem sndE : ∀ m : Ex, SndE m
  | .var i => snd_var i
  | .const d => snd_const d
  | .glob x d => snd_glob x d
  | .prim p es => snd_prim (sndEs es)
  | .meth p o es => snd_meth (sndE o) (sndEs es)
  | .notE a => snd_not (sndE a)
  | .fld cs o x => snd_fld (sndE o)
  | .prop tb o x => snd_prop (sndE o)
  | .make c f es => snd_make (sndEs es)
  | .makek c f es ks kes perm => snd_makek (sndEs es) (sndEs kes)
  | .cut a b c => snd_cut (sndE a) (sndE b) (sndE c)
  | .andE a b => snd_and (sndE a) (sndE b)
  | .orE a b => snd_or (sndE a) (sndE b)
  | .one a => snd_one (sndE a)
  | .ite c a b => snd_ite (sndE c) (sndE a) (sndE b)
  | .chain op op' a b c => snd_chain (sndE a) (sndE b) (sndE c)
  | .call f es => snd_call (sndEs es)
  | .callk f es ks kes perm => snd_callk (sndEs es) (sndEs kes)
  | .comp elt tg k src cond own => snd_comp (sndE elt) (sndTg tg) (sndEs src) (sndEs cond)
theorem sndEs : ∀ ms : Exs, SndEs ms
  | .nil => snd_nil
  | .cons a r => snd_cons (sndE a) (sndEs r)
theorem sndTg : ∀ t : Tg, SndTg t
  | .name i => snd_name i
  | .tup ts => snd_tgtup (sndTgs ts)
  | .sub o i => snd_sub (sndE o) (sndE i)
theorem sndTgs : ∀ ts : Tgs, SndTgs ts
  | .nil => snd_tgnil
  | .cons a r => snd_tgcons (sndTg a) (sndTgs r)
end
end CC
/-! Statements. -/
namespace CC
open L2 PySem PySem.Spec PyProof.Rows

/-! ### which stores are exchanged -/
def isNm : Expr → Bool
  | .Name _ _ => true
  | _ => false
/-- a target that is no local name -/
def notLoc (sc : Scope) : Expr → Bool
  | .Name id _ => !(decide (sc.names.lookup id = some .local))
  | _ => true
/-- a tuple to a tuple whose stores go as they stand -/
def swNone (sc : Scope) (tg e : Expr) : Bool := match tg, e with
  | .Tuple ts _ _, .Tuple vs _ _ => !(ts.length == 2 || ts.length == 3) || ts.any (notLoc sc) || vs.all (foldedForSure 8)
  | .List _ _, _ => false
  | _, _ => true
theorem names_lt (env : Env) (line : Nat) (ts : List Expr) (h : ts.any (notLoc env.scope) = true) : (ts.filterMap fun
    | .Name id pos => if env.kindOf id == some .local && pos.line == line then some id else none
    | _ => none).length < ts.length := by
  induction ts with
  | nil => cases h
  | cons t r ih =>
    have le : ∀ l : List Expr, (l.filterMap fun
        | .Name id pos => if env.kindOf id == some .local && pos.line == line then some id else none
        | _ => none).length ≤ l.length := fun l => List.length_filterMap_le _ _
    rw [List.any_cons] at h
    cases t with
    | Name id pos =>
      by_cases hk : env.scope.names.lookup id = some .local
      · have h : r.any (notLoc env.scope) = true := by simpa [notLoc, hk] using h
        have := ih h
        rw [List.filterMap_cons]
        split
        · rw [List.length_cons]; omega
        · rw [List.length_cons, List.length_cons]; omega
      · have e : (if env.kindOf id == some .local && pos.line == line then some id else none) = none := by
          have k : env.kindOf id ≠ some .local := hk
          rw [if_neg]
          simp [k]
        rw [List.filterMap_cons]
        dsimp only
        rw [e]
        exact Nat.lt_succ_of_le (le r)
    | _ =>
      rw [List.filterMap_cons]
      exact Nat.lt_succ_of_le (le r)
theorem sw_none {tg e : Expr} (env : Env) (h : swNone env.scope tg e = true) : swappedStores [tg] e env = pure none := by
  unfold swappedStores
  unfold swNone at h
  cases tg with
  | Tuple ts k p =>
    cases e with
    | Tuple vs k2 p2 =>
      dsimp only at h ⊢
      simp only [Bool.or_eq_true, Bool.not_eq_true'] at h
      split
      · rfl
      · rename_i h1
        split
        · rfl
        · split
          · rfl
          · rename_i h3
            split
            · rfl
            · rename_i h4
              exfalso
              rcases h with (h | h) | h
              · apply h1
                rw [h]
                rfl
              · apply h3
                have z := names_lt env ((ts.head?.map (·.pos.line)).getD 0) ts h
                rw [Bool.or_eq_true]
                refine .inl (bne_iff_ne.mpr fun q => ?_)
                exact absurd (q ▸ z) (Nat.lt_irrefl _)
              · exact h4 h
    | _ => rfl
  | List ts p => cases h
  | _ => rfl
theorem blockF {env : Env} (h : env.scope.kind = .function) : env.blockKind = .function := by
  unfold Env.blockKind
  rw [h]
  rfl
theorem beq_loc : (some NameKind.local == some NameKind.local) = true := by decide
theorem dups2 {x y : Str} (h : (y == x) = false) : ([x, y] : List Str).eraseDups = [x, y] := by
  rw [List.eraseDups_cons]
  have : (List.filter (fun b => !b == x) [y]) = [y] := by simp [List.filter, h]
  rw [this]
  rfl
theorem dups3 {x y z : Str} (h : (y == x) = false) (h2 : (z == x) = false) (h3 : (z == y) = false) : ([x, y, z] : List Str).eraseDups = [x, y, z] := by
  rw [List.eraseDups_cons]
  have : (List.filter (fun b => !b == x) [y, z]) = [y, z] := by simp [List.filter, h, h2]
  rw [this, dups2 h3]
theorem sw_par2 {x y : Str} {px py pt pt2 : Pos} {kt k2 : Nat} {a b : Expr} {env : Env} (hk : env.scope.kind = .function) (hx : env.scope.names.lookup x = some .local) (hy : env.scope.names.lookup y = some .local) (hxy : (y == x) = false) (hl : (py.line == px.line) = true)
    (hp : [a, b].all plainX = true) (h1 : [a, b].all (foldedForSure 8) = false) (h2 : [a, b].all (constantsAlone 8) = false) : swappedStores [.Tuple [.Name x px, .Name y py] kt pt] (.Tuple [a, b] k2 pt2) env = pure (some [x, y]) := by
  have kx : env.kindOf x = some .local := hx
  have ky : env.kindOf y = some .local := hy
  have e2 : (px.line == px.line) = true := by simp
  unfold swappedStores
  dsimp only
  split
  · rename_i z
    rw [blockF hk] at z
    cases z
  · split
    · rename_i z
      obtain ⟨v, hv, hs⟩ := List.any_eq_true.mp z
      have hq := List.all_eq_true.mp hp v hv
      exfalso
      cases v <;> first | (cases hs; done) | (cases hq; done)
    · simp only [List.head?, Option.map, Option.getD, Expr.pos, List.filterMap, kx, ky, hl, e2, beq_loc, Bool.and_self, if_true, h1, h2, dups2 hxy]
      rfl
theorem sw_par3 {x y z : Str} {px py pz pt pt2 : Pos} {kt k2 : Nat} {a b c : Expr} {env : Env} (hk : env.scope.kind = .function) (hx : env.scope.names.lookup x = some .local) (hy : env.scope.names.lookup y = some .local) (hz : env.scope.names.lookup z = some .local) (hxy : (y == x) = false) (hxz : (z == x) = false) (hyz : (z == y) = false) (hl : (py.line == px.line) = true) (hl2 : (pz.line == px.line) = true)
    (hp : [a, b, c].all plainX = true) (h1 : [a, b, c].all (foldedForSure 8) = false) (h2 : [a, b, c].all (constantsAlone 8) = false) : swappedStores [.Tuple [.Name x px, .Name y py, .Name z pz] kt pt] (.Tuple [a, b, c] k2 pt2) env = pure (some [x, y, z]) := by
  have kx : env.kindOf x = some .local := hx
  have ky : env.kindOf y = some .local := hy
  have kz : env.kindOf z = some .local := hz
  have e2 : (px.line == px.line) = true := by simp
  unfold swappedStores
  dsimp only
  split
  · rename_i z
    rw [blockF hk] at z
    cases z
  · split
    · rename_i z
      obtain ⟨v, hv, hs⟩ := List.any_eq_true.mp z
      have hq := List.all_eq_true.mp hp v hv
      exfalso
      cases v <;> first | (cases hs; done) | (cases hq; done)
    · simp only [List.head?, Option.map, Option.getD, Expr.pos, List.filterMap, kx, ky, kz, hl, hl2, e2, beq_loc, Bool.and_self, if_true, h1, h2, dups3 hxy hxz hyz]
      rfl
theorem sw_no {tg e : Expr} (line : Nat) (env : Env) (h : noComp e = true ∨ notLoc env.scope tg = true) : swapsWithSole [tg] e line env = pure false := by
  show swapsWith e (some tg) line env = pure false
  unfold swapsWith
  rcases h with h | h
  · cases e <;> first | rfl | cases h
  · cases tg with
    | Name y p =>
      have h : ¬ env.scope.names.lookup y = some .local := by simpa [notLoc] using h
      have k : (env.kindOf y == some .local) = false := by
        have k : env.kindOf y ≠ some .local := h
        simp [k]
      cases e <;> first | rfl | simp only [k, Bool.and_false, Bool.false_and]
    | _ => cases e <;> rfl
theorem sw_attr (e a : Expr) (y : Str) (p : Pos) (line : Nat) (env : Env) : swapsWith e (some (.Attribute a y p)) line env = pure false := by
  unfold swapsWith
  cases e <;> rfl
theorem sw_drop {e : Expr} (h : noComp e = true) (line : Nat) (env : Env) : swapsWith e none line env = pure false := by
  unfold swapsWith
  cases e <;> first | rfl | cases h

/-! ### the check -/
def isCompE : Ex → Bool
  | .comp _ _ _ _ _ _ => true
  | _ => false
mutual
def chkS (C : Ck) : Sm → Stmt → Bool
  | .expr m, s => (match s with
    | .Expr e _ => chkE C false m e && noComp e
    | _ => false)
  | .asg t m, s => (match s with
    | .Assign [tg] e _ => chkTg C t tg && chkE C false m e && plainX tg && (noComp e || notLoc C.sc tg) && swNone C.sc tg e
    | _ => false)
  | .setc i m, s => (match s with
    | .Assign [.Name y py] (.ListComp e gs scope pos) _ => chkE C false m (.ListComp e gs scope pos) && C.locL i y && (match C.sc.kind with
      | .function => true
      | _ => false) && (py.line == pos.line) && !(scope.names.any fun (n, k) => n == y && (k == .local || k == .cell)) && isCompE m
    | _ => false)
  | .par2 i j es, s => (match s with
    | .Assign [.Tuple [.Name x px, .Name y py] _ _] (.Tuple [a, b] _ _) _ => C.locL i x && C.locL j y && (match C.sc.kind with
      | .function => true
      | _ => false) && !(y == x) && !(i == j) && (py.line == px.line) && chkEs C es [a, b] && [a, b].all plainX && !([a, b].all (foldedForSure 8)) && !([a, b].all (constantsAlone 8))
    | _ => false)
  | .par3 i j l es, s => (match s with
    | .Assign [.Tuple [.Name x px, .Name y py, .Name z pz] _ _] (.Tuple [a, b, c] _ _) _ => C.locL i x && C.locL j y && C.locL l z && (match C.sc.kind with
      | .function => true
      | _ => false) && !(y == x) && !(z == x) && !(z == y) && !(i == j) && !(i == l) && !(j == l) && (py.line == px.line) && (pz.line == px.line) && chkEs C es [a, b, c] && [a, b, c].all plainX && !([a, b, c].all (foldedForSure 8)) && !([a, b, c].all (constantsAlone 8))
    | _ => false)
  | .aug i op m, s => (match s with
    | .AugAssign (.Name x _) o e _ => C.loc i x && decide (op = o) && chkE C false m e
    | _ => false)
  | .ret m, s => (match s with
    | .Return (some e) _ => chkE C false m e
    | _ => false)
  | .retN, s => (match s with
    | .Return none _ => true
    | _ => false)
  | .ifs c a b, s => (match s with
    | .If x y z _ => chkE C true c x && chkSs C a y && chkSs C b z
    | _ => false)
  | .whil c b, s => (match s with
    | .While x y [] _ => chkE C true c x && chkSs C b y
    | _ => false)
  | .fors t k src b, s => (match s with
    | .For tg it y [] _ => (match itArgs C k tg it with
      | some es => chkEs C src es
      | none => false) && chkTg C t tg && chkSs C b y && plainX it
    | _ => false)
  | .setf cs o x m, s => (match s with
    | .Assign [.Attribute a y _] e _ => decide (x = y) && chkE C false m e && chkE C false o a && cs.all fun c => match C.cls c with
      | some cl => cl.fields.any fun z => decide (z = x)
      | none => false
    | _ => false)
  | .pass, s => (match s with
    | .Pass _ => true
    | _ => false)
  | .never, _ => true
def chkSs (C : Ck) : Sms → List Stmt → Bool
  | .nil, s => (match s with
    | [] => true
    | _ => false)
  | .cons m r, s => (match s with
    | e :: es => chkS C m e && chkSs C r es
    | _ => false)
end
theorem locL_ok {C : Ck} {ca : Nat → Addr} {φ : Phi} {k : Nat} {X : Cx} {W : WX} (G : Good C ca φ k X W) {i : Nat} {x : Str} (h : C.locL i x = true) : X.N[i]? = some x ∧ X.env.scope.names.lookup x = some .local := by
  unfold Ck.locL at h
  simp only [Bool.and_eq_true, decide_eq_true_eq] at h
  rw [G.N, G.sc]
  exact h
theorem kind_ok {C : Ck} {ca : Nat → Addr} {φ : Phi} {k : Nat} {X : Cx} {W : WX} (G : Good C ca φ k X W) (h : (match C.sc.kind with
      | .function => true
      | _ => false) = true) : X.env.scope.kind = .function := by
  rw [G.sc]
  split at h
  · assumption
  · cases h

/-! ### readings -/
def ED (K : PySem.W.Frag) (ca : Nat → Addr) (W : WX) (D : Ends) (ι : List Addr) (H : Hp) : EndsD where
  nx := fun σd S => ∀ σ ι' H', Ext K ι H ι' H' → Rep K ca ι' S H' → RelS K ι' H' σd σ → D.nx σ H'
  rt := QL K ca D.rt ι H
  bk := fun σd S => ∀ σ ι' H', Ext K ι H ι' H' → Rep K ca ι' S H' → RelS K ι' H' σd σ → D.bk σ H'
  ct := fun σd S => ∀ σ ι' H', Ext K ι H ι' H' → Rep K ca ι' S H' → RelS K ι' H' σd σ → D.ct σ H'
  ex := fun x σd S => ∀ σ ι' H' dd v, Ext K ι H ι' H' → Rep K ca ι' S H' → RelS K ι' H' σd σ → RelD K ι' H' x.2 v → H' dd = some (.xd [("value", v)]) → W (.ref (ca x.1)) (some dd) σ H'
def tS (K : PySem.W.Frag) (ca : Nat → Addr) (g : Bool) (φ : Phi) (W : WX) (m : Sm) : TS := fun D σ H => ∃ ι S σd, Rep K ca ι S H ∧ RelS K ι H σd σ ∧ wpS g φ m (ED K ca W D ι H) σd S
def tSs (K : PySem.W.Frag) (ca : Nat → Addr) (g : Bool) (φ : Phi) (W : WX) (m : Sms) : TS := fun D σ H => ∃ ι S σd, Rep K ca ι S H ∧ RelS K ι H σd σ ∧ wpSs g φ m (ED K ca W D ι H) σd S
theorem ED.of {K : PySem.W.Frag} {ca : Nat → Addr} {W : WX} {D : Ends} {ι ι' : List Addr} {H H' : Hp} (x : Ext K ι H ι' H') : (ED K ca W D ι H).Le (ED K ca W D ι' H') where
  nx := fun _ _ h σ ι2 H2 y => h σ ι2 H2 (x.trans y)
  rt := fun _ _ h => h.of x
  bk := fun _ _ h σ ι2 H2 y => h σ ι2 H2 (x.trans y)
  ct := fun _ _ h σ ι2 H2 y => h σ ι2 H2 (x.trans y)
  ex := fun _ _ _ h σ ι2 H2 dd v y => h σ ι2 H2 dd v (x.trans y)
theorem ED.exl {K : PySem.W.Frag} {ca : Nat → Addr} {W : WX} {D : Ends} {ι : List Addr} {H : Hp} {σd : Sd} {σ : L2.St} (r : RelS K ι H σd σ) : ∀ x S1, (ED K ca W D ι H).ex x σd S1 → EL K ca W σ ι H x S1 :=
  fun x S1 h ι' H' dd v y R rv hd => h σ ι' H' dd v y R (r.mono y) rv hd
theorem _root_.L2.PS.weak {X : Cx} {e : Stmt} {t t' : TS} (h : PS X e t) (i : ∀ D σ H, t' D σ H → t D σ H) : PS X e t' := ⟨fun pins s σ H D I q => h.run pins s σ H D I (i D σ H q)⟩
theorem _root_.L2.PSs.weak {X : Cx} {e : List Stmt} {t t' : TS} (h : PSs X e t) (i : ∀ D σ H, t' D σ H → t D σ H) : PSs X e t' := ⟨fun pins s σ H D I q => h.run pins s σ H D I (i D σ H q)⟩

structure SndS (m : Sm) : Prop where
  ps : ∀ {C : Ck} {ca : Nat → Addr} {φ : Phi} {k : Nat} {X : Cx} {W : WX} {s : Stmt}, PhiMono φ → Good C ca φ k X W → chkS C m s = true → PS X s (tS X.K ca C.g φ W m)
structure SndSs (m : Sms) : Prop where
  pss : ∀ {C : Ck} {ca : Nat → Addr} {φ : Phi} {k : Nat} {X : Cx} {W : WX} {s : List Stmt}, PhiMono φ → Good C ca φ k X W → chkSs C m s = true → PSs X s (tSs X.K ca C.g φ W m)
section
variable {K : PySem.W.Frag} {ca : Nat → Addr} {g : Bool} {φ : Phi} {W : WX} {D : Ends} {ι : List Addr} {H : Hp} {σd : Sd} {σ : L2.St} {S : Store}
/-- a value, then more -/
theorem tE_then (hφ : PhiMono φ) {m : Ex} {Q : VK} {Q1 : Post} (R : Rep K ca ι S H) (r : RelS K ι H σd σ) (h : wpE g φ m σd S Q1 fun x S1 => (ED K ca W D ι H).ex x σd S1)
    (hQ : ∀ d S' ι' H' v, Q1 d S' → Ext K ι H ι' H' → Rep K ca ι' S' H' → RelD K ι' H' d v → Q v H') : tE K ca g φ W m σ H Q :=
  tE_mk hφ R r (wpE_mono hφ m (fun _ _ q => q) (ED.exl r) h) hQ
theorem tAs_then (hφ : PhiMono φ) {m : Exs} {Q : List V → Hp → Prop} {Q1 : List CC.D → Store → Prop} (R : Rep K ca ι S H) (r : RelS K ι H σd σ) (h : wpAs g φ m σd S Q1 fun x S1 => (ED K ca W D ι H).ex x σd S1)
    (hQ : ∀ d S' ι' H' v, Q1 d S' → Ext K ι H ι' H' → Rep K ca ι' S' H' → RelDs K ι' H' d v → Q v H') : tAs K ca g φ W m σ H Q :=
  tAs_mk hφ R r (wpAs_mono hφ m (fun _ _ q => q) (ED.exl r) h) hQ
end

theorem snd_expr (m : Ex) : SndS (.expr m) where
  ps := fun {C ca φ k X W s} hφ G h => by
    simp only [chkS] at h
    split at h
    · simp only [Bool.and_eq_true] at h
      refine (ps_expr ((sndE m).pe hφ G h.1) (sw_drop h.2 _ _)).weak fun D σ H q => ?_
      obtain ⟨ι, S, σd, R, r, q⟩ := q
      simp only [wpS] at q
      exact tE_then hφ R r q fun d S' ι' H' v q x R' rv => q σ ι' H' x R' (r.mono x)
    · cases h
theorem snd_asg (t : Tg) (m : Ex) : SndS (.asg t m) where
  ps := fun {C ca φ k X W s} hφ G h => by
    simp only [chkS] at h
    split at h
    · simp only [Bool.and_eq_true, Bool.or_eq_true, Bool.not_eq_true'] at h
      obtain ⟨⟨⟨⟨h1, h2⟩, h3⟩, h4⟩, h5⟩ := h
      rw [← G.sc] at h4 h5
      refine (ps_asg ((sndE m).pe hφ G h2) ((sndTg t).pg hφ G h1) (sw_no _ _ h4) (sw_none _ h5) (by rw [each_of h3]; rfl)).weak fun D σ H q => ?_
      obtain ⟨ι, S, σd, R, r, q⟩ := q
      simp only [wpS] at q
      refine tE_then hφ R r q fun d S' ι' H' v q x R' rv => ?_
      exact ⟨ι', S', σd, d, _, R', r.mono x, rv, wpTg_mono hφ t (fun σd2 S2 q σ' ι2 H2 x2 R2 r2 _ => q σ' ι2 H2 (x.trans x2) R2 r2) (fun _ _ z => z) q⟩
    · cases h
theorem snd_setc (i : Nat) (m : Ex) : SndS (.setc i m) where
  ps := fun {C ca φ k X W s} hφ G h => by
    simp only [chkS] at h
    split at h
    · rename_i y py e gs scope pos spos
      simp only [Bool.and_eq_true, Bool.not_eq_true'] at h
      obtain ⟨⟨⟨⟨⟨h1, h2⟩, h3⟩, h4⟩, h5⟩, h6⟩ := h
      obtain ⟨l1, l2⟩ := locL_ok G h2
      have sw : swapsWith (.ListComp e gs scope pos) (some (.Name y py)) spos.line X.env = pure true := sw_true (kind_ok G h3) l2 h4 h5
      cases m with
      | comp elt tg kk src cond own =>
        have h0 := h1
        simp only [chkE] at h1
        split at h1
        · rename_i e2 tge it ifs sc2 pos2 heq
          cases heq
          obtain ⟨p1, p2, p3, p4, p5, tt, p6, p7⟩ := comp_parts (sndE elt) (sndTg tg) (sndEs src) (sndEs cond) hφ G h0
          refine (ps_setLc G.calm G.nd l1 l2 sw p1 p2 p3 p6 p4 p5).weak fun D σ H q => ?_
          refine p7 σ H _ ?_
          obtain ⟨ι, S, σd, R, r, q⟩ := q
          simp only [wpS] at q
          exact tE_then hφ R r q fun d S' ι' H' v q x R' rv => q _ ι' H' x R' ((r.mono x).set rv i)
        · cases h1
      | _ => cases h6
    · cases h
theorem snd_par2 (i j : Nat) (es : Exs) : SndS (.par2 i j es) where
  ps := fun {C ca φ k X W s} hφ G h => by
    simp only [chkS] at h
    split at h
    · simp only [Bool.and_eq_true, Bool.not_eq_true'] at h
      obtain ⟨⟨⟨⟨⟨⟨⟨⟨⟨h1, h2⟩, h3⟩, h4⟩, h5⟩, h6⟩, h7⟩, h8⟩, h9⟩, h10⟩ := h
      obtain ⟨l1, l2⟩ := locL_ok G h1
      obtain ⟨m1, m2⟩ := locL_ok G h2
      have hij : i ≠ j := fun e => by
        subst e
        simp at h5
      refine (ps_par G.calm G.nd l1 m1 hij l2 m2 (((sndEs es).all hφ G h7).pa hφ) (sw_par2 (kind_ok G h3) l2 m2 h4 h6 h8 h9 h10) rfl).weak fun D σ H q => ?_
      obtain ⟨ι, S, σd, R, r, q⟩ := q
      simp only [wpS] at q
      refine tAs_then hφ R r q fun ds S' ι' H' vs q x R' rv => ?_
      split at q
      · cases rv with
        | cons r1 rv =>
          cases rv with
          | cons r2 rv =>
            cases rv
            exact ⟨_, _, rfl, q _ ι' H' x R' (((r.mono x).set r1 i).set r2 j)⟩
      · exact q.elim
    · cases h
theorem snd_par3 (i j l : Nat) (es : Exs) : SndS (.par3 i j l es) where
  ps := fun {C ca φ k X W s} hφ G h => by
    simp only [chkS] at h
    split at h
    · simp only [Bool.and_eq_true, Bool.not_eq_true'] at h
      obtain ⟨⟨⟨⟨⟨⟨⟨⟨⟨⟨⟨⟨⟨⟨⟨h1, h2⟩, h3⟩, h4⟩, h5⟩, h6⟩, h7⟩, h8⟩, h9⟩, h10⟩, h11⟩, h12⟩, h13⟩, h14⟩, h15⟩, h16⟩ := h
      obtain ⟨l1, l2⟩ := locL_ok G h1
      obtain ⟨m1, m2⟩ := locL_ok G h2
      obtain ⟨n1, n2⟩ := locL_ok G h3
      have ne : ∀ {a b : Nat}, (a == b) = false → a ≠ b := fun h e => by
        subst e
        simp at h
      refine (ps_par3 G.calm G.nd l1 m1 n1 (ne h8) (ne h9) (ne h10) l2 m2 n2 (((sndEs es).all hφ G h13).pa hφ) (sw_par3 (kind_ok G h4) l2 m2 n2 h5 h6 h7 h11 h12 h14 h15 h16) rfl).weak fun D σ H q => ?_
      obtain ⟨ι, S, σd, R, r, q⟩ := q
      simp only [wpS] at q
      refine tAs_then hφ R r q fun ds S' ι' H' vs q x R' rv => ?_
      split at q
      · cases rv with
        | cons r1 rv =>
          cases rv with
          | cons r2 rv =>
            cases rv with
            | cons r3 rv =>
              cases rv
              exact ⟨_, _, _, rfl, q _ ι' H' x R' ((((r.mono x).set r1 i).set r2 j).set r3 l)⟩
      · exact q.elim
    · cases h
/-- name op= value -/
def rAug (op : Operator) : V → V → Hp → VK → Prop := fun x y H Q => ∃ a b : Int, x = .int a ∧ y = .int b ∧ match op with
  | .Add => Q (.int (a + b)) H
  | .Sub => Q (.int (a - b)) H
  | .Mult => IntMulOk a b ∧ Q (.int (a * b)) H
  | _ => False
theorem ip_aug {X : Cx} (op : Operator) : PIp X op (rAug op) := by
  intro pins s σ H x y v u Q I r1 r2 h
  obtain ⟨a, b, rfl, rfl, q⟩ := h
  cases op with
  | Add => exact ip_add pins s σ H _ _ v u Q I r1 r2 ⟨a, b, rfl, rfl, q⟩
  | Sub => exact ip_sub pins s σ H _ _ v u Q I r1 r2 ⟨a, b, rfl, rfl, q⟩
  | Mult =>
    obtain ⟨t, rfl⟩ := r1
    obtain ⟨t', rfl⟩ := r2
    exact PyProof.Rows.imul_int ⟨.int _, H, I.tok _, ⟨_, rfl⟩, q.2⟩ q.1
  | _ => exact q.elim
theorem snd_aug (i : Nat) (op : Operator) (m : Ex) : SndS (.aug i op m) where
  ps := fun {C ca φ k X W s} hφ G h => by
    simp only [chkS] at h
    split at h
    · simp only [Bool.and_eq_true, decide_eq_true_eq] at h
      obtain ⟨⟨h1, rfl⟩, h2⟩ := h
      obtain ⟨l1, l2, l3⟩ := loc_ok G h1
      refine (ps_aug G.nd l1 l2 ((sndE m).pe hφ G h2) (ip_aug op) l3).weak fun D σ H q => ?_
      obtain ⟨ι, S, σd, R, r, q⟩ := q
      simp only [wpS] at q
      split at q
      · rename_i x hx
        obtain ⟨v, e, rv⟩ := r.2 i x hx
        refine ⟨v, e, tE_then hφ R r q fun d S' ι' H' u q x1 R' ru => ?_⟩
        have rv := rv.mono x1
        split at q <;> first
          | (exact q.elim)
          | (cases rv; cases ru
             first
              | exact ⟨_, _, rfl, rfl, q _ ι' H' x1 R' ((r.mono x1).set (.int _) i)⟩
              | exact ⟨_, _, rfl, rfl, q.1, q.2 _ ι' H' x1 R' ((r.mono x1).set (.int _) i)⟩)
      · exact q.elim
    · cases h
theorem snd_ret (m : Ex) : SndS (.ret m) where
  ps := fun {C ca φ k X W s} hφ G h => by
    simp only [chkS] at h
    split at h
    · refine (ps_ret ((sndE m).pe hφ G h)).weak fun D σ H q => ?_
      obtain ⟨ι, S, σd, R, r, q⟩ := q
      simp only [wpS] at q
      exact ⟨ι, S, σd, R, r, wpE_mono hφ m (fun _ _ q => q) (ED.exl r) q⟩
    · cases h
theorem snd_retN : SndS .retN where
  ps := fun {C ca φ k X W s} hφ G h => by
    simp only [chkS] at h
    split at h
    · refine ps_retN.weak fun D σ H q => ?_
      obtain ⟨ι, S, σd, R, r, q⟩ := q
      simp only [wpS] at q
      exact q ι H _ Ext.refl R .non
    · cases h
theorem snd_pass : SndS .pass where
  ps := fun {C ca φ k X W s} hφ G h => by
    simp only [chkS] at h
    split at h
    · refine ps_pass.weak fun D σ H q => ?_
      obtain ⟨ι, S, σd, R, r, q⟩ := q
      simp only [wpS] at q
      exact q σ ι H Ext.refl R r
    · cases h
theorem snd_setf (cs : List Nat) (o : Ex) (x : Str) (m : Ex) : SndS (.setf cs o x m) where
  ps := fun {C ca φ k X W s} hφ G h => by
    simp only [chkS] at h
    split at h
    · simp only [Bool.and_eq_true, decide_eq_true_eq, List.all_eq_true] at h
      obtain ⟨⟨⟨rfl, h1⟩, h2⟩, h3⟩ := h
      refine (ps_fld ((sndE o).pe hφ G h2) ((sndE m).pe hφ G h1) (sw_attr _ _ _ _ _ _)).weak fun D σ H q => ?_
      obtain ⟨ι, S, σd, R, r, q⟩ := q
      simp only [wpS] at q
      refine tE_then hφ R r q fun d S1 ι1 H1 v q x1 R1 rv => ?_
      refine tE_mk hφ R1 (r.mono x1) (wpE_mono hφ o (fun _ _ q => q) (fun _ _ z => (ED.exl r _ _ z).of x1) q) fun d2 S2 ι2 H2 v2 q x2 R2 rv2 => ?_
      split at q
      · rename_i l
        split at q
        · rename_i c fs hs
          obtain ⟨hc, hlen, q⟩ := q
          have hi : insAt (.ref l) S2 = some (c, fs) := by
            simp only [insAt, hs]
          obtain ⟨l', a, dx, gs, e0, e1, rfl, e2, e3, e4, e5⟩ := R2.ins hi rv2
          cases e0
          have hx := h3 c (by simpa using hc)
          split at hx
          · rename_i cl hcl
            simp only [List.any_eq_true, decide_eq_true_eq] at hx
            obtain ⟨z, hz, rfl⟩ := hx
            have F := G.cls c cl hcl
            exact ⟨a, ca c, dx, gs, rfl, e3, F.ok, F.fld _ hz, by rw [← e5.length]; exact hlen, q σ ι2 _ ((x1.trans x2).trans (Ext.wrote e3 trivial)) (R2.setIns e1 e2 e3 e4 (e5.put (rv.mono x2))) (((r.mono x1).mono x2).mono (Ext.wrote e3 trivial))⟩
          · cases hx
        · exact q.elim
      · exact q.elim
    · cases h
theorem snd_never : SndS .never where
  ps := fun {C ca φ k X W s} hφ G h => ps_never.weak fun D σ H q => by
    obtain ⟨ι, S, σd, R, r, q⟩ := q
    simp only [wpS] at q
theorem snd_ifs (c : Ex) {a b : Sms} (Sa : SndSs a) (Sb : SndSs b) : SndS (.ifs c a b) where
  ps := fun {C ca φ k X W s} hφ G h => by
    simp only [chkS] at h
    split at h
    · simp only [Bool.and_eq_true] at h
      refine (ps_if ((sndE c).pt hφ G h.1.1) (Sa.pss hφ G h.1.2) (Sb.pss hφ G h.2)).weak fun D σ H q => ?_
      obtain ⟨ι, S, σd, R, r, q⟩ := q
      simp only [wpS] at q
      refine ⟨ι, S, σd, R, r, wpE_mono hφ c (fun d S1 q => ?_) (ED.exl r) q⟩
      split at q
      · rename_i hb
        exact ⟨true, hb, fun ι' H' x R' => by
          dsimp only
          rw [if_pos rfl]
          exact ⟨ι', S1, σd, R', r.mono x, wpSs_mono hφ a (ED.of x) q⟩⟩
      · rename_i hb
        exact ⟨false, hb, fun ι' H' x R' => by
          dsimp only
          rw [if_neg Bool.false_ne_true]
          exact ⟨ι', S1, σd, R', r.mono x, wpSs_mono hφ b (ED.of x) q⟩⟩
      · exact q.elim
    · cases h
theorem snd_whil (c : Ex) {b : Sms} (Sb : SndSs b) : SndS (.whil c b) where
  ps := fun {C ca φ k X W s} hφ G h => by
    simp only [chkS] at h
    split at h
    · simp only [Bool.and_eq_true] at h
      refine (ps_while G.own ((sndE c).pt hφ G h.1) (Sb.pss hφ G h.2)).weak fun D σ H q => ?_
      obtain ⟨ι, S, σd, R, r, q⟩ := q
      simp only [wpS] at q
      obtain ⟨n, q⟩ := q
      generalize hturn : (fun σ S (more nx : Sd → Store → Prop) => wpE C.g φ c σ S (fun d S1 => match truth d S1 with
        | some true => wpSs C.g φ b { ED X.K ca W D ι H with nx := more, ct := more, bk := (ED X.K ca W D ι H).nx } σ S1
        | some false => nx σ S1
        | none => False) (fun x S1 => (ED X.K ca W D ι H).ex x σ S1)) = turn at q
      have ht : ∀ σ S (more nx : Sd → Store → Prop), turn σ S more nx → wpE C.g φ c σ S (fun d S1 => match truth d S1 with
        | some true => wpSs C.g φ b { ED X.K ca W D ι H with nx := more, ct := more, bk := (ED X.K ca W D ι H).nx } σ S1
        | some false => nx σ S1
        | none => False) (fun x S1 => (ED X.K ca W D ι H).ex x σ S1) := fun σ S more nx z => by
        rw [← hturn] at z
        exact z
      refine ⟨fun m σ' H' => ∃ ι' S' σd', Ext X.K ι H ι' H' ∧ Rep X.K ca ι' S' H' ∧ RelS X.K ι' H' σd' σ' ∧ whileW (ED X.K ca W D ι H).nx turn m σd' S', ⟨n, ι, S, σd, Ext.refl, R, r, q⟩, fun m σ' H' q => ?_⟩
      obtain ⟨ι1, S1, σ1, x1, R1, r1, q⟩ := q
      cases m with
      | zero => exact q.elim
      | succ m =>
        have q := ht _ _ _ _ q
        refine ⟨ι1, S1, σ1, R1, r1, wpE_mono hφ c (fun d S2 q => ?_) (fun e S2 z ι' H' dd v y R rv hd => z σ' ι' H' dd v (x1.trans y) R (r1.mono y) rv hd) q⟩
        · split at q
          · rename_i hb
            exact ⟨true, hb, fun ι2 H2 x2 R2 => by
              dsimp only
              rw [if_pos rfl]
              refine ⟨fun σ' H' => ∃ ι' S' σd', Ext X.K ι H ι' H' ∧ Rep X.K ca ι' S' H' ∧ RelS X.K ι' H' σd' σ' ∧ whileW (ED X.K ca W D ι H).nx turn m σd' S', fun σ' H' z => ⟨m, Nat.lt_succ_self m, z⟩, ι2, S2, σ1, R2, r1.mono x2, wpSs_mono hφ b ?_ q⟩
              exact ⟨fun σ S z σ3 ι3 H3 x3 R3 r3 => ⟨ι3, S, σ, (x1.trans x2).trans x3, R3, r3, z⟩, fun _ _ z => z.of (x1.trans x2), fun σ S z σ3 ι3 H3 x3 => z σ3 ι3 H3 ((x1.trans x2).trans x3), fun σ S z σ3 ι3 H3 x3 R3 r3 => ⟨ι3, S, σ, (x1.trans x2).trans x3, R3, r3, z⟩, fun _ _ _ z σ ι2' H2' dd v y => z σ ι2' H2' dd v ((x1.trans x2).trans y)⟩⟩
          · rename_i hb
            exact ⟨false, hb, fun ι2 H2 x2 R2 => by
              dsimp only
              rw [if_neg Bool.false_ne_true]
              exact q σ' ι2 H2 (x1.trans x2) R2 (r1.mono x2)⟩
          · exact q.elim
    · cases h
theorem snd_fors (t : Tg) (kk : ItK) (src : Exs) {b : Sms} (Sb : SndSs b) : SndS (.fors t kk src b) where
  ps := fun {C ca φ k X W s} hφ G h => by
    simp only [chkS] at h
    split at h
    · rename_i tg it y pos
      simp only [Bool.and_eq_true] at h
      obtain ⟨⟨⟨h1, h2⟩, h3⟩, h4⟩ := h
      split at h1
      · rename_i es hi
        have A := (sndEs src).all hφ G h1
        refine (ps_for G.own G.calm (snd_it hφ G hi A) ((sndTg t).pg hφ G h2) (Sb.pss hφ G h3) (fun x => fold_of h4 _ x)).weak fun D σ H q => ?_
        obtain ⟨ι, S, σd, R, r, q⟩ := q
        simp only [wpS] at q
        refine ⟨ι, S, σd, R, r, wpAs_mono hφ src (fun ds S1 q => ?_) (ED.exl r) q⟩
        split at q
        · rename_i c w hw
          refine ⟨c, w, hw, q.1, fun ι1 H1 J x1 R1 okJ => ?_⟩
          have q := q.2
          generalize hturn : (fun (x : CC.D) σ S (more : Sd → Store → Prop) => wpTg C.g φ t x σ S (fun σ2 S2 => wpSs C.g φ b { ED X.K ca W D ι H with nx := more, ct := more, bk := (ED X.K ca W D ι H).nx } σ2 S2) (fun x S1 => (ED X.K ca W D ι H).ex x σ S1)) = turn at q
          have ht : ∀ (x : CC.D) σ S (more : Sd → Store → Prop), turn x σ S more → wpTg C.g φ t x σ S (fun σ2 S2 => wpSs C.g φ b { ED X.K ca W D ι H with nx := more, ct := more, bk := (ED X.K ca W D ι H).nx } σ2 S2) (fun x S1 => (ED X.K ca W D ι H).ex x σ S1) := fun x σ S more z => by
            rw [← hturn] at z
            exact z
          refine ⟨fun i m σ' H' => ∃ ι' S' σd', Ext X.K ι1 H1 ι' H' ∧ Rep X.K ca ι' S' H' ∧ RelS X.K ι' H' σd' σ' ∧ m = w.xs.length - i ∧ i ≤ w.xs.length ∧ forW w (ED X.K ca W D ι H).nx turn (w.xs.drop i) σd' S',
            ⟨w.xs.length, ι1, S1, σd, Ext.refl, R1, r.mono x1, by simp, Nat.zero_le _, by rw [List.drop_zero]; exact q⟩, fun i m σ' H' q => ?_⟩
          obtain ⟨ι2, S2, σ2, x2, R2, r2, rfl, hi, q⟩ := q
          by_cases hlt : i < w.xs.length
          · rw [List.drop_eq_getElem_cons hlt] at q
            obtain ⟨wok, q⟩ := q
            obtain ⟨go, yl⟩ := (okJ ι2 H' S2 x2 R2 wok).1 i _ (List.getElem?_eq_getElem hlt)
            refine .inr ⟨go, fun σ' H' => ∃ ι' S' σd', Ext X.K ι1 H1 ι' H' ∧ Rep X.K ca ι' S' H' ∧ RelS X.K ι' H' σd' σ' ∧ forW w (ED X.K ca W D ι H).nx turn (w.xs.drop (i + 1)) σd' S',
              fun σ' H' ⟨ι', S', σd', a1, a2, a3, a4⟩ => ⟨w.xs.length - (i + 1), by omega, ι', S', σd', a1, a2, a3, rfl, hlt, a4⟩, fun v H3 hy => ?_⟩
            obtain ⟨x3, R3, rv⟩ := yl v H3 hy
            refine ⟨ι2, S2, σ2, _, _, R3, r2.mono x3, rv, wpTg_mono hφ t (fun σ4 S4 q => ?_) (fun _ _ z => z) (ht _ _ _ _ q)⟩
            intro σ' ι4 H4 x4 R4 r4 _
            have xx := ((x1.trans x2).trans x3).trans x4
            have yy := (x2.trans x3).trans x4
            refine ⟨ι4, S4, σ4, R4, r4, wpSs_mono hφ b ?_ q⟩
            exact ⟨fun σ S z σ5 ι5 H5 x5 R5 r5 => ⟨ι5, S, σ, yy.trans x5, R5, r5, z⟩, fun _ _ z => z.of xx, fun σ S z σ5 ι5 H5 x5 => z σ5 ι5 H5 (xx.trans x5), fun σ S z σ5 ι5 H5 x5 R5 r5 => ⟨ι5, S, σ, yy.trans x5, R5, r5, z⟩, fun _ _ _ z σ ι2' H2' dd v y => z σ ι2' H2' dd v (xx.trans y)⟩
          · have hi : i = w.xs.length := by omega
            rw [List.drop_of_length_le (by omega)] at q
            exact .inl ⟨(okJ ι2 H' S2 x2 R2 q.1).2 i (by omega), q.2 σ' ι2 H' (x1.trans x2) R2 r2⟩
        · exact q.elim
      · cases h1
    · cases h
theorem snd_snil : SndSs .nil where
  pss := fun {C ca φ k X W s} hφ G h => by
    simp only [chkSs] at h
    split at h
    · refine pss_nil.weak fun D σ H q => ?_
      obtain ⟨ι, S, σd, R, r, q⟩ := q
      simp only [wpSs] at q
      exact q σ ι H Ext.refl R r
    · cases h
theorem snd_scons {m : Sm} {ms : Sms} (S1 : SndS m) (S2 : SndSs ms) : SndSs (.cons m ms) where
  pss := fun {C ca φ k X W s} hφ G h => by
    simp only [chkSs] at h
    split at h
    · simp only [Bool.and_eq_true] at h
      refine (pss_cons (S1.ps hφ G h.1) (S2.pss hφ G h.2)).weak fun D σ H q => ?_
      obtain ⟨ι, S, σd, R, r, q⟩ := q
      simp only [wpSs] at q
      refine ⟨ι, S, σd, R, r, wpS_mono hφ m ?_ q⟩
      exact ⟨fun σ S z σ' ι' H' x R' r' => ⟨ι', S, σ, R', r', wpSs_mono hφ ms (ED.of x) z⟩, fun _ _ z => z, fun _ _ z => z, fun _ _ z => z, fun _ _ _ z => z⟩
    · cases h
mutual
theorem sndS : ∀ m : Sm, SndS m
  | .expr m => snd_expr m
  | .asg t m => snd_asg t m
  | .setc i m => snd_setc i m
  | .par2 i j es => snd_par2 i j es
  | .par3 i j l es => snd_par3 i j l es
  | .aug i op m => snd_aug i op m
  | .ret m => snd_ret m
  | .retN => snd_retN
  | .ifs c a b => snd_ifs c (sndSs a) (sndSs b)
  | .whil c b => snd_whil c (sndSs b)
  | .fors t kk src b => snd_fors t kk src (sndSs b)
  | .setf cs o x e => snd_setf cs o x e
  | .pass => snd_pass
  | .never => snd_never
theorem sndSs : ∀ m : Sms, SndSs m
  | .nil => snd_snil
  | .cons a r => snd_scons (sndS a) (sndSs r)
end
end CC
/-! Functions, the law's end. -/
namespace CC
open L2 PySem PySem.Spec PyProof.Rows

/-- a def of the text keeps its promise -/
theorem fn_ofG {P : Program} {w : World} {K : PySem.W.Frag} {mg : Str → Option Value} {base : Heap} {g : Bool} {k : Nat} {x qual : Str} {params : Arguments} {body : List Stmt} {scope : Scope} {dvs : List V} {kws : List (Str × V)} {f : Addr} {fd : FuncData} {N ps : List Str} {sp : Sp}
    (F : FunD K x qual params body scope dvs kws f fd) (S : FnScope N ps scope) (len : ∀ vs H Q E, sp vs H Q E → vs.length = ps.length)
    (hbody : ∀ (cdv : Value) (A : Around) (outer : List Env) (s : Shared) (H : Hp) (vs : List V) (Q : VK) (E : XK), Room (k + 1) A → Room k (A.deeper (envOfC qual scope s.heap.objs.size f cdv)) → (g = true → A.guards = some []) → sp vs H Q E →
      ∃ t, PSs (cxOf (L2.CX P w) P w K mg base N qual scope f cdv A outer s H E) body t ∧ t { nx := fun _ H' => Q .non H', rt := Q } (start N vs) H) : FnOkG P w K mg base g (k + 1) f fd ps sp := by
  obtain ⟨oc, od, dV, kV, doc, pm, an, cdv, ct, osl, rfl, lk, hcd, _, _⟩ := F.ex
  refine ⟨len, fun A outer s H args us vs Q E room hg env0 bind rv q => ?_⟩
  have lv := len _ _ _ _ q
  have kin : K.In s.heap := env0.mod.kin.keeps fun b o z => (env0.bs b o z).1
  have free : s.heap.NoLimit := env0.mod.nolimit.keeps fun b o z => (env0.bs b o z).1
  have kinds : ∀ y ∈ ps.zip us, scope.names.lookup y.1 = some .local ∨ (scope.names.lookup y.1 = some .cell ∧ ((cellsFrom (s.heap.objs.size + 1) scope.names []).lookup y.1).isSome = true) := fun y hy => by
    rcases S.par y.1 (List.of_mem_zip (a := y.1) (b := y.2) hy).1 with z | z
    · exact .inl z
    · exact .inr ⟨z, PySem.W.cellsFrom_some _ _ _ (.inl z)⟩
  refine codeAny_call_function room.depth (kin _ _ lk) rfl S.co S.gen rfl (PySem.W.codeRec_of kin hcd) (bind _ _ _ _ (wpAny_newFunctionEnv_cells S.kind kinds fun env ev s1 inn => ?_))
  subst ev
  refine ⟨free.keeps inn.toInCall.keep, codeAny_func ?_⟩
  obtain ⟨t, pt, tv⟩ := hbody cdv A outer s H vs Q E room (room.deeper _) hg q
  have J : Inv (cxOf (L2.CX P w) P w K mg base N qual scope f cdv A outer s H E) [] (start N vs) H s1 := inv_start S room.hd env0 lv rv inn
  refine wpAny_mono (pt.run [] s1 (start N vs) H _ J tv) (fun fl s2 ends => ?_) fun e s2 ends => ends
  cases fl with
  | ret u =>
    obtain ⟨v, σ2, H2, J2, r2, q2⟩ := ends
    exact ⟨v, H2, J2.os, J2.bare, J2.base, J2.hok, r2, q2⟩
  | next =>
    obtain ⟨σ2, H2, J2, q2⟩ := ends
    exact ⟨.non, H2, J2.os, J2.bare, J2.base, J2.hok, rfl, q2⟩
  | brk =>
    obtain ⟨σ2, H2, J2, q2⟩ := ends
    exact q2.elim
  | cont =>
    obtain ⟨σ2, H2, J2, q2⟩ := ends
    exact q2.elim

/-- a function as it stands behind the top -/
structure FnS (K : PySem.W.Frag) (mg : Str → Option Value) (ca : Nat → Addr) (T : Nat → Option Fn) (kws : Nat → List (Nat × List Str × List Nat)) (gls : List (Str × D)) (cls : Nat → Option Cl) (f : Nat) (fn : Fn) : Prop where
  ex : ∃ (fd : FuncData) (qual : Str) (params : Arguments) (body : List Stmt) (scope : Scope), FunD K fn.name qual params body scope [] [] (fadr ca f) fd ∧ (fn.cls = none → mg fn.name = some (.ref (fadr ca f))) ∧ FnScope fn.N fn.ps scope ∧
    (∀ (s : Shared) (us : List Value), us.length = fn.ps.length → BindsTo s fd ⟨us, []⟩ (fn.ps.zip us)) ∧
    (∀ q ∈ kws f, ∀ (s : Shared) (us ws rs : List Value), us.length = q.1 → ws.length = q.2.1.length → pick (us ++ ws) q.2.2 = some rs → rs.length = fn.ps.length → BindsTo s fd ⟨us, q.2.1.zip ws⟩ (fn.ps.zip rs)) ∧
    chkSs ⟨fn.N, scope, fun _ => true, T, kws, gls, fn.g, cls⟩ fn.body body = true

theorem relS_start {K : PySem.W.Frag} {ι : List Addr} {H : Hp} {N : List Str} {ds : List D} {vs : List V} (r : RelDs K ι H ds vs) : RelS K ι H (startD N.length ds) (start N vs) := by
  unfold startD L2.start
  refine ⟨by simp [r.length], fun i d h => ?_⟩
  have hi : i < ds.length := by
    by_cases hi : i < ds.length
    · exact hi
    · rw [List.getElem?_append_right (by simpa using hi), List.getElem?_replicate] at h
      split at h <;> cases h
  rw [List.getElem?_append_left (by simpa using hi), List.getElem?_map] at h
  cases e : ds[i]? with
  | none => rw [e] at h; cases h
  | some d' =>
    rw [e] at h
    cases h
    obtain ⟨v, h1, h2⟩ := r.get e
    refine ⟨v, ?_, h2⟩
    rw [List.getElem?_append_left (by simpa using (List.getElem?_eq_some_iff.mp h1).1), List.getElem?_map, h1]
    rfl

theorem step {P : Program} {w : World} {K : PySem.W.Frag} {mg : Str → Option Value} {base : Heap} {ca : Nat → Addr} {T : Nat → Option Fn} {kws : Nat → List (Nat × List Str × List Nat)} {gls : List (Str × D)} {cls : Nat → Option Cl} {k f : Nat} {fn : Fn} {a : Addr} {fd : FuncData} {qual : Str} {params : Arguments} {body : List Stmt} {scope : Scope}
    (hb : ∀ x ∈ bltNames, mg x = none) (hg : ∀ p ∈ gls, ∃ v u, mg p.1 = some u ∧ RelV v u ∧ ∀ ι H, RelD K ι H p.2 v) (hC : ∀ c cl, cls c = some cl → ClF K mg ca c cl) (ih : ∀ f fn, T f = some fn → FnFact P w K mg base ca (wpF T k) k (kws f) f fn)
    (hf : T f = some fn) (F : FunD K fn.name qual params body scope [] [] a fd) (S : FnScope fn.N fn.ps scope) (hc : chkSs ⟨fn.N, scope, fun _ => true, T, kws, gls, fn.g, cls⟩ fn.body body = true) :
    FnOkG P w K mg base fn.g (k + 1) a fd fn.ps (spF K ca (wpF T (k + 1)) f) := by
  refine fn_ofG F S (fun vs H Q E q => ?_) fun cdv A outer s H vs Q E room0 room gd q => ?_
  · obtain ⟨ι, St, ds, R, r, q⟩ := q
    simp only [wpF, hf] at q
    rw [← r.length]
    exact q.1
  · obtain ⟨ι, St, ds, R, r, q⟩ := q
    simp only [wpF, hf] at q
    have G : Good ⟨fn.N, scope, fun _ => true, T, kws, gls, fn.g, cls⟩ ca (wpF T k) k (cxOf (L2.CX P w) P w K mg base fn.N qual scope a cdv A outer s H E) (fun cls d _ H => E cls d H) := {
      calm := rfl
      nd := S.nd
      N := rfl
      sc := rfl
      cell := fun _ _ => rfl
      gd := gd
      own := PySem.PassesOwn.leaving
      room := room
      room2 := fun B h1 h2 h3 => ⟨h1.trans room0.hd, by
        have z : B.depth ≤ A.depth + 1 + 1 := h2
        have := room0.dp
        omega, by
        have z : B.units ≤ A.units + 3 + 8 := h3
        have := room0.un
        omega⟩
      cls := hC
      takes := takes_of rfl rfl rfl rfl
      fns := ih
      blt := hb
      gls := hg }
    refine ⟨_, (sndSs fn.body).pss (wpF_mono T k) G hc, ι, St, startD fn.N.length ds, R, relS_start r, wpSs_mono (wpF_mono T k) _ ?_ q.2⟩
    exact ⟨fun σd S1 z σ' ι' H' x R' r' => z ι' H' .non x R' .non, fun _ _ z => z, fun _ _ z => z.elim, fun _ _ z => z.elim, fun x σd S1 z σ' ι' H' dd v y R' r' rd hd => z ι' H' dd v y R' rd hd⟩
theorem level {P : Program} {w : World} {K : PySem.W.Frag} {mg : Str → Option Value} {base : Heap} {ca : Nat → Addr} {T : Nat → Option Fn} {kws : Nat → List (Nat × List Str × List Nat)} {gls : List (Str × D)} {cls : Nat → Option Cl}
    (hC : ∀ c cl, cls c = some cl → ClF K mg ca c cl) (hS : ∀ f fn, T f = some fn → FnS K mg ca T kws gls cls f fn) (hb : ∀ x ∈ bltNames, mg x = none) (hg : ∀ p ∈ gls, ∃ v u, mg p.1 = some u ∧ RelV v u ∧ ∀ ι H, RelD K ι H p.2 v) :
    ∀ k f fn, T f = some fn → FnFact P w K mg base ca (wpF T k) k (kws f) f fn
  | 0, f, fn, hf => by
    obtain ⟨fd, qual, params, body, scope, F, hm, S, b1, b2, hc⟩ := (hS f fn hf).ex
    exact ⟨fd, hm, F.kp, b1, b2, ⟨fun vs H Q E ⟨_, _, _, _, _, h⟩ => h.elim, fun A outer s H args us vs Q E _ _ _ _ _ ⟨_, _, _, _, _, h⟩ => h.elim⟩⟩
  | k + 1, f, fn, hf => by
    obtain ⟨fd, qual, params, body, scope, F, hm, S, b1, b2, hc⟩ := (hS f fn hf).ex
    exact ⟨fd, hm, F.kp, b1, b2, step hb hg hC (fun f fn hf => level hC hS hb hg k f fn hf) hf F S hc⟩

/-! ### the law's end -/
theorem run_law {P : Program} {w : World} {K : PySem.W.Frag} {mg mb : Str → Option Value} {g : Bool} {k : Nat} {fa a : Addr} {fd : FuncData} {x : Str} {sp : Sp} {s1 : Shared} {vs : List Value} {ns : List Int}
    (kin : K.In s1.heap) (hns : s1.heap.Ns mainGlobals mg) (hb : s1.heap.Ns builtinsNs mb) (hbb : ∀ x : Str, x ≠ "__name__" → mb x = bootBuiltins x) (free : s1.heap.NoLimit) (hg : s1.gens = #[])
    (ha : s1.heap.get? a = some { cls := .type "list", data := .seq vs.toArray }) (hi : IntsAre vs ns) (hl : ns.length ≤ sizeLine) (hr : Room k callerA)
    (F : ∀ base : Heap, K.In base → base.Ns mainGlobals mg → FnOkG P w K mg base g k fa fd [x] sp) (hbind : ∀ (s : Shared) (u : Value), BindsTo s fd ⟨[u], []⟩ [(x, u)])
    (hsp : ∀ H : Hp, Only H → SqL K H a (ns.map V.int) → sp [.ref a] H (fun v _ => v = .bl true) fun _ _ _ => False) :
    codeAny (model P w) callerA (.call (.ref fa) ⟨[.ref a], []⟩) (fun r s2 => r = .ok (.ret (.bool true)) ∧ OldK s1.heap s2.heap ∧ s2.os = s1.os ∧ AllBare s2.gens) s1 := by
  have rel := vals_ints hi
  have lens := hi.length
  have main : ∀ H : Hp, Only H → SqL K H a (ns.map V.int) → HOk P w H s1.heap → (∀ b, H b ≠ none → b = a) → (H a ≠ none → K.lookup a = none) →
      codeAny (model P w) callerA (.call (.ref fa) ⟨[.ref a], []⟩) (fun r s2 => r = .ok (.ret (.bool true)) ∧ OldK s1.heap s2.heap ∧ s2.os = s1.os ∧ AllBare s2.gens) s1 := by
    intro H only seq hok one apart
    have is_a : ∀ {b : Addr} {u : HO}, H b = some u → b = a := fun {b u} z => one b (by rw [z]; exact fun q => nomatch q)
    have none_of : ∀ {b : Addr}, (∀ u, H b = some u → False) → H b = none := fun {b} z => by
      cases q : H b with
      | none => rfl
      | some u => exact (z u q).elim
    have dict_free : ∀ {b : Addr} {o : Obj} {es : Array DictEntry} {ep : Nat}, s1.heap.get? b = some o → o.data = .dict es ep → H b = none := fun {b o es ep} e d => none_of fun u z => by
      have eb := is_a z
      subst eb
      rw [ha] at e
      cases e
      exact nomatch (show Data.seq vs.toArray _ = Data.dict es ep from d)
    have ns_hid : ∀ {b : Addr} {m : Str → Option Value}, s1.heap.Ns b m → (hidT s1.heap H).Ns b m := fun {b m} ⟨o, es, ep, e, d, r⟩ => ⟨o, es, ep, hidT_get e (dict_free e d), d, r⟩
    have k_hid : K.In (hidT s1.heap H) := fun b o e => hidT_get (kin b o e) (none_of fun u z => by
      have eb := is_a z
      subst eb
      rw [apart (by rw [z]; exact fun q => nomatch q)] at e
      cases e)
    have env0 : Env0 P w K mg (hidT s1.heap H) callerA [] s1 H := {
      frames := rfl
      mod := ⟨k_hid, ns_hid hns, ⟨mb, ns_hid hb, hbb⟩, match free with | ⟨mc, h1, h2⟩ => ⟨mc, ns_hid h1, h2⟩⟩
      bs := fun b o e => of_hidT e
      bsz := Nat.le_of_eq (hidT_size _ _)
      funs := trivial
      frf := fun b z => nomatch (show b ∈ ([] : List Addr) from z)
      hok := hok
      bare := .of_eq hg }
    refine codeAny_mono ((F _ k_hid (ns_hid hns)).run callerA [] s1 H ⟨[.ref a], []⟩ [.ref a] [.ref a] _ _ hr (fun _ => rfl) env0 (hbind s1 (.ref a)) (.cons rfl .nil) (hsp H only seq)) fun r s2 h => ?_
    cases r with
    | error e =>
      obtain ⟨_, _, _, _, _, _, _, _, _, _, _, _, z⟩ := h
      exact z.elim
    | ok fl =>
      cases fl with
      | next => exact (show False from h).elim
      | brk => exact (show False from h).elim
      | cont => exact (show False from h).elim
      | ret u =>
        obtain ⟨v, H2, os, bare, un, hok2, rv, qv⟩ := h
        have qv : v = .bl true := qv
        subst qv
        cases rv
        refine ⟨rfl, OldK.of_keep fun b o e => ?_, os, bare⟩
        rcases only b with z | ⟨ob, xs, z⟩
        · exact un.keep b o e z (fun q => nomatch (show b ∈ ([] : List Addr) from q)) (fun q => nomatch q)
        · obtain ⟨e1, _⟩ := hok b _ z
          obtain ⟨e2, _⟩ := hok2 b _ (un.frzs b ob _ z)
          rw [e] at e1
          cases e1
          exact e2
  cases hk : K.lookup a with
  | some o =>
    have e := kin a o hk
    rw [ha] at e
    cases e
    exact main (fun _ => none) (fun _ => .inl rfl) (.inr ⟨_, vs.toArray, _, hk, rfl, rfl, rfl, by rw [List.size_toArray, lens]; exact hl, by simpa using rel⟩) (fun b u z => nomatch (show (none : Option HO) = some u from z)) (fun b z => (z rfl).elim) fun z => (z rfl).elim
  | none =>
    have at_a : ∀ {b : Addr} {u : HO}, (if b = a then some (HO.frz { cls := .type "list", data := .seq vs.toArray } (.lst (ns.map V.int))) else none) = some u → b = a ∧ u = HO.frz { cls := .type "list", data := .seq vs.toArray } (.lst (ns.map V.int)) := fun {b u} z => by
      split at z
      · rename_i eb
        cases z
        exact ⟨eb, rfl⟩
      · cases z
    refine main (fun b => if b = a then some (.frz { cls := .type "list", data := .seq vs.toArray } (.lst (ns.map V.int))) else none) (fun b => ?_) (.inl (.inr ⟨_, if_pos rfl⟩)) (fun b u z => ?_) (fun b z => ?_) fun _ => hk
    · by_cases eb : b = a
      · exact .inr ⟨_, _, if_pos eb⟩
      · exact .inl (if_neg eb)
    · obtain ⟨eb, eu⟩ := at_a z
      subst eb eu
      exact ⟨ha, by rw [List.length_map]; exact hl, vs, _, rel, ha⟩
    · by_cases eb : b = a
      · exact eb
      · exact (z (if_neg eb)).elim

theorem walk_law {l : PySem.W.OpenLaw} {n k : Nat} {g : Bool} {q : Program} {loose : List Str} {XP : (Str → Option Value) → Heap → Prop} {YP : World → Heap → Prop} {d : DefRec} {x : Str}
    (hn : l.most = some n) (hn2 : n ≤ sizeLine) (hdf : d.params.defaults = []) (hr : Room k callerA)
    (F : ∀ (w : World) (mg : Str → Option Value) (fa : Addr) (h : Heap), YP w h → h.Ns mainGlobals mg → mg d.name = some (.ref fa) →
      ∃ (K : PySem.W.Frag) (fd : FuncData) (sp : Sp), K.In h ∧ (∀ (s : Shared) (u : Value), BindsTo s fd ⟨[u], []⟩ [(x, u)]) ∧
        (∀ (H : Hp) (a : Addr) (ns : List Int), ns.length ≤ n → Only H → SqL K H a (ns.map V.int) → sp [.ref a] H (fun v _ => v = .bl true) fun _ _ _ => False) ∧
        ∀ base : Heap, K.In base → base.Ns mainGlobals mg → FnOkG l.prog w K mg base g k fa fd [x] sp) :
    PySem.W.WalkO q loose XP YP l.row.toRowW d [] (fun f vs => PySem.call f vs) := by
  refine Att.attach_call hn hdf fun w s0 s1 mg mb fa o pm cd doc a vs ns G Y ho hd hcd hmg hobj hs hlen hg => ?_
  obtain ⟨K, fd, sp, kin, hb, hsp, hF⟩ := F w mg fa _ Y G.T.g hmg
  exact run_law kin G.T.g G.T.b G.T.builtins G.T.nolimit hg hobj hs (Nat.le_trans hlen hn2) hr hF hb fun H hO hS => hsp H a ns hlen hO hS

/-- the script as a list that stays -/
theorem law_sp {K : PySem.W.Frag} {ca : Nat → Addr} {φ : Phi} {f : Nat} {H : Hp} {a : Addr} {ns : List Int} (hO : Only H) (hS : SqL K H a (ns.map V.int)) (hφ : PhiMono φ) (h : φ f [.ref 0] [.rol (ns.map D.int)] (fun d _ => d = .bl true) fun _ _ => False) :
    spF K ca φ f [.ref a] H (fun v _ => v = .bl true) fun _ _ _ => False := by
  have q : SqF K H a (ns.map V.int) := by
    rcases hS with (z | z) | z
    · rcases hO a with y | ⟨o, xs, y⟩
      · rw [y] at z; cases z
      · rw [y] at z; cases z
    · obtain ⟨o, z⟩ := z
      exact .inl ⟨o, z⟩
    · exact .inr z
  refine ⟨[a], [.rol (ns.map D.int)], [.ref 0], ⟨rfl, fun l o b h1 h2 => ?_, fun l m o o' b h1 h2 m1 => ?_⟩, .cons (.ref rfl) .nil, hφ _ _ _ _ _ _ _ (fun d S1 z ι' H' v x R r => ?_) (fun _ _ z => z.elim) h⟩
  · match l, h1, h2 with
    | 0, h1, h2 =>
      cases h1
      cases h2
      exact .rol q (.of_ints ns)
  · match l, h1 with
    | 0, h1 =>
      cases h1
      cases m1
  · subst z
    cases r
    rfl
end CC
/-! The head: what is looked at behind the top, and what it gives. -/
namespace CC
open L2 PySem PySem.Spec PyProof.Rows

/-! ### constants -/
mutual
def constB (K : PySem.W.Frag) : D → Value → Bool
  | .non, u => (match u with
    | .none => true
    | _ => false)
  | .bl b, u => (match u with
    | .bool c => b == c
    | _ => false)
  | .int i, u => (match u with
    | .int j _ => decide (i = j)
    | _ => false)
  | .str x, u => (match u with
    | .str y _ => decide (x = y)
    | _ => false)
  | .tup ds, u => (match u with
    | .ref a => (match K.lookup a with
      | some ⟨.type c, _, .seq its _, _⟩ => decide (c = "tuple") && (decide (its.size ≤ sizeLine) && constBs K ds its.toList)
      | _ => false)
    | _ => false)
  | .ref _, _ => false
def constBs (K : PySem.W.Frag) : List D → List Value → Bool
  | [], us => us.isEmpty
  | d :: ds, us => (match us with
    | u :: us => constB K d u && constBs K ds us
    | [] => false)
end
mutual
theorem constB_ok {K : PySem.W.Frag} : ∀ {d : D} {u : Value}, constB K d u = true → ∃ v, RelV v u ∧ ∀ ι H, RelD K ι H d v
  | .non, u, h => by
    simp only [constB] at h
    split at h
    · exact ⟨.non, rfl, fun _ _ => .non⟩
    · cases h
  | .bl b, u, h => by
    simp only [constB] at h
    split at h
    · exact ⟨.bl b, by rw [eq_of_beq h]; rfl, fun _ _ => .bl b⟩
    · cases h
  | .int i, u, h => by
    simp only [constB] at h
    split at h
    · exact ⟨.int i, by rw [of_decide_eq_true h]; exact ⟨_, rfl⟩, fun _ _ => .int i⟩
    · cases h
  | .str x, u, h => by
    simp only [constB] at h
    split at h
    · exact ⟨.str x, by rw [of_decide_eq_true h]; exact ⟨_, rfl⟩, fun _ _ => .str x⟩
    · cases h
  | .tup ds, u, h => by
    simp only [constB] at h
    split at h
    · rename_i a
      split at h
      · rename_i c dd its n sl hl
        simp only [Bool.and_eq_true, decide_eq_true_eq] at h
        obtain ⟨h1, h2, h3⟩ := h
        subst h1
        obtain ⟨vs, r, rd⟩ := constBs_ok h3
        exact ⟨.ref a, rfl, fun ι H => .tup (.inr ⟨_, its, n, hl, rfl, rfl, h2, r⟩) (rd ι H)⟩
      · cases h
    · cases h
  | .ref l, u, h => by
    simp only [constB] at h
    cases h
theorem constBs_ok {K : PySem.W.Frag} : ∀ {ds : List D} {us : List Value}, constBs K ds us = true → ∃ vs, Vals vs us ∧ ∀ ι H, RelDs K ι H ds vs
  | [], us, h => by
    simp only [constBs] at h
    cases us with
    | nil => exact ⟨[], .nil, fun _ _ => .nil⟩
    | cons _ _ => cases h
  | d :: ds, us, h => by
    simp only [constBs] at h
    split at h
    · simp only [Bool.and_eq_true] at h
      obtain ⟨v, r, rd⟩ := constB_ok h.1
      obtain ⟨vs, rs, rds⟩ := constBs_ok h.2
      exact ⟨v :: vs, .cons r rs, fun ι H => .cons (rd ι H) (rds ι H)⟩
    · cases h
end
def globB (K : PySem.W.Frag) (p : Str × D) : Bool := match PySem.W.nsIn K mainGlobals p.1 with
  | some (some u) => constB K p.2 u
  | _ => false

/-! ### properties -/
/-- the class has x as a property -/
def propB (K : PySem.W.Frag) (p : Str × Str) : Bool := He.eqO (PySem.W.findIn K (.ref (He.ga K p.1)) p.2) (some (some (.ref (He.ma K (He.ga K p.1) p.2)))) && (He.eqO (PySem.W.specialIn K (.ref (He.ma K (He.ga K p.1) p.2)) "__get__") (some (some (.builtin "property.__get__"))) &&
  (decide (PySem.W.takesIn K (.ref (He.ma K (He.ga K p.1) p.2)) = some true) && (match PySem.W.recIn K (He.ma K (He.ga K p.1) p.2) "property" with
    | some (.ref _ :: _) => true
    | _ => false)))
theorem propB_ok {K : PySem.W.Frag} {p : Str × Str} (h : propB K p = true) : PropOf K (He.ga K p.1) p.2 (He.ma K (He.ga K p.1) p.2) (He5.wf K (He.ga K p.1) "property" p.2) := by
  obtain ⟨h1, h⟩ := He.ba h
  obtain ⟨h2, h⟩ := He.ba h
  obtain ⟨h3, h4⟩ := He.ba h
  refine ⟨He.eqO_ok h1, He.eqO_ok h2, of_decide_eq_true h3, ?_⟩
  unfold He5.wf
  split at h4
  · rename_i f r e
    exact ⟨r, by rw [e]⟩
  · cases h4

/-! ### the hook -/
def hookC (n : Nat) (fa : List He.Fa) (fn : List He5.DefA) (gls : List (Str × D)) (prs : List (Str × Str)) : PySem.W.Hook where
  α := He.AlD × Bool
  obs := fun s => (He5.obsA fa fn (He.frG s.heap.get? (He5.asA s.heap.get? n)), (gls.all fun p => globB (He.frG s.heap.get? (He5.asA s.heap.get? n)) p) && prs.all fun p => propB (He.frG s.heap.get? (He5.asA s.heap.get? n)) p)
  val := fun _ => (He5.valA fn, true)
  says := fun _ h => ∃ K : PySem.W.Frag, K.In h ∧ He5.SaysA fa fn K ∧ ((gls.all fun p => globB K p) && prs.all fun p => propB K p) = true
  of := fun _ _ e => ⟨_, He.frG_in, congrArg (fun z : He.AlD × Bool => z.1) e, congrArg (fun z : He.AlD × Bool => z.2) e⟩
  keeps := fun _ _ _ ⟨K, hK, c⟩ k => ⟨K, PySem.W.Frag.In.keeps hK k, c⟩
def obsC (n : Nat) (fa : List He.Fa) (fn : List He5.DefA) (gls : List (Str × D)) (prs : List (Str × Str)) (g : Addr → Option Obj) : He.AlD × Bool := (He5.obsA fa fn (He.frG g (He5.asA g n)), (gls.all fun p => globB (He.frG g (He5.asA g n)) p) && prs.all fun p => propB (He.frG g (He5.asA g n)) p)
theorem obsC_eq {n : Nat} {fa : List He.Fa} {fn : List He5.DefA} {gls : List (Str × D)} {prs : List (Str × Str)} {g : Addr → Option Obj} {s : Shared} (h : ∀ a, g a = s.heap.get? a) : obsC n fa fn gls prs g = (hookC n fa fn gls prs).obs s := by
  have e : g = s.heap.get? := funext h
  rw [e]
  rfl

/-! ### the table of a law -/
structure Tab where
  ids : List Nat
  fns : List Fn
  defs : List He.DefD
  gls : List (Str × D)
  kws : List (List (Nat × List Str × List Nat))
  cids : List Nat := []
  clss : List Cl := []
def at? {α : Type} (f : Nat) : List Nat → List α → Option α
  | i :: is, a :: as => if Nat.beq i f then some a else at? f is as
  | _, _ => none
def Tab.T (t : Tab) (f : Nat) : Option Fn := at? f t.ids t.fns
def Tab.kw (t : Tab) (f : Nat) : List (Nat × List Str × List Nat) := (at? f t.ids t.kws).getD []
def Tab.C (t : Tab) (c : Nat) : Option Cl := at? c t.cids t.clss
/-- what is looked at of a class -/
def Cl.fa (c : Cl) : List He.Fa := .glo c.name :: .cls c.name :: .mkr c.name :: c.fields.map (.noat c.name)
def Tab.fa (t : Tab) : List He.Fa := (t.fns.filter fun f => f.cls.isNone).map (fun f => .glo f.name) ++ bltNames.map .free ++ t.clss.flatMap Cl.fa
def Tab.prs (t : Tab) : List (Str × Str) := t.clss.flatMap fun c => c.props.map fun q => (c.name, q.1)
/-- where a function stands -/
def adrOf (K : PySem.W.Frag) (fn : Fn) : Addr := match fn.cls with
  | none => He.ga K fn.name
  | some c => if fn.prop then He5.wf K (He.ga K c) "property" fn.name else He.ma K (He.ga K c) fn.name
def defA (fn : Fn) (d : He.DefD) : He5.DefA := ⟨fun K => adrOf K fn, d.name, d.qual, d.params, d.body, d.scope, [], []⟩
def Tab.das (t : Tab) : List He5.DefA := (t.fns.zip t.defs).map fun p => defA p.1 p.2
/-- the addresses of classes, of functions -/
def Tab.ca (t : Tab) (K : PySem.W.Frag) (n : Nat) : Addr := if n < 1000000 then (match t.C n with
    | some c => He.ga K c.name
    | none => 0) else (match t.T (n - 1000000) with
    | some fn => adrOf K fn
    | none => 0)
/-- a class's functions are in the table -/
def Tab.clB (t : Tab) (p : Nat × Cl) : Bool := decide (p.1 < 1000000) && (match t.T p.2.init with
    | some fn => decide (fn.cls = some p.2.name) && !fn.prop && decide (fn.name = "__init__")
    | none => false) && p.2.props.all fun q => (match t.T q.2 with
    | some fn => decide (fn.cls = some p.2.name) && fn.prop && decide (fn.name = q.1)
    | none => false)
/-- a scope is a plain def's -/
def scopeB (N P : List Str) (sc : Scope) : Bool := (match sc.kind with
    | .function => true
    | _ => false) && !sc.isCoroutine && !sc.isGenerator && decide N.Nodup && decide (N.take P.length = P) && (P.all fun x => match sc.names.lookup x with
    | some .local => true
    | some .cell => true
    | _ => false) && sc.names.all fun y => match y.2 with
    | .free => false
    | _ => true
theorem scopeB_ok {N P : List Str} {sc : Scope} (h : scopeB N P sc = true) : FnScope N P sc := by
  unfold scopeB at h
  simp only [Bool.and_eq_true, Bool.not_eq_true', decide_eq_true_eq, List.all_eq_true] at h
  obtain ⟨⟨⟨⟨⟨⟨h1, h2⟩, h3⟩, h4⟩, h5⟩, h6⟩, h7⟩ := h
  refine ⟨?_, h2, h3, h4, h5, fun x hx => ?_, fun y hy e => ?_⟩
  · split at h1
    · assumption
    · cases h1
  · have q := h6 x hx
    split at q
    · exact .inl (by assumption)
    · exact .inr (by assumption)
    · cases q
  · have q := h7 y hy
    rw [e] at q
    cases q
def Tab.okB (t : Tab) (fn : Fn) (d : He.DefD) : Bool := decide (d.name = fn.name) && d.dfl.isEmpty && d.kwd.isEmpty && scopeB fn.N fn.ps d.scope && chkSs ⟨fn.N, d.scope, fun _ => true, t.T, t.kw, t.gls, fn.g, t.C⟩ fn.body d.body
/-- how a def's parameters are bound -/
structure BindOk (d : He.DefD) (ps : List Str) (kws : List (Nat × List Str × List Nat)) : Prop where
  plain : ∀ (kV doc pm : Value) (an : Option Addr) (cdv ct : Value) (us : List Value), us.length = ps.length → bindArgs (PySem.W.fnOf d.name d.qual d.params d.body d.scope .none kV doc pm an cdv ct) ⟨us, []⟩ = pure (ps.zip us)
  kw : ∀ q ∈ kws, ∀ (kV doc pm : Value) (an : Option Addr) (cdv ct : Value) (us ws rs : List Value), us.length = q.1 → ws.length = q.2.1.length → pick (us ++ ws) q.2.2 = some rs → rs.length = ps.length → bindArgs (PySem.W.fnOf d.name d.qual d.params d.body d.scope .none kV doc pm an cdv ct) ⟨us, q.2.1.zip ws⟩ = pure (ps.zip rs)
inductive BindsOk : List Fn → List He.DefD → List (List (Nat × List Str × List Nat)) → Prop
  | nil : BindsOk [] [] []
  | cons {f : Fn} {d : He.DefD} {k : List (Nat × List Str × List Nat)} {fs : List Fn} {ds : List He.DefD} {ks : List (List (Nat × List Str × List Nat))} : BindOk d f.ps k → BindsOk fs ds ks → BindsOk (f :: fs) (d :: ds) (k :: ks)
theorem BindsOk.get {fs : List Fn} {ds : List He.DefD} {ks : List (List (Nat × List Str × List Nat))} (h : BindsOk fs ds ks) : ∀ {is : List Nat} {n : Nat} {f : Fn}, at? n is fs = some f → ∃ (i : Nat) (d : He.DefD), fs[i]? = some f ∧ ds[i]? = some d ∧ BindOk d f.ps ((at? n is ks).getD []) := by
  induction h with
  | nil =>
    intro is n f h
    cases is <;> cases h
  | cons b _ ih =>
    intro is n f h
    cases is with
    | nil => cases h
    | cons i is =>
      unfold at? at h ⊢
      split at h
      · rename_i hi
        cases h
        rw [if_pos hi]
        exact ⟨0, _, rfl, rfl, b⟩
      · rename_i hi
        rw [if_neg hi]
        obtain ⟨j, d, e1, e2, q⟩ := ih h
        exact ⟨j + 1, d, by simpa using e1, by simpa using e2, q⟩
theorem zip_all {α β : Type} {p : α → β → Bool} : ∀ {as : List α} {bs : List β}, ((as.zip bs).all fun q => p q.1 q.2) = true → ∀ {i : Nat} {a : α} {b : β}, as[i]? = some a → bs[i]? = some b → p a b = true
  | a :: as, b :: bs, h, 0, _, _, h1, h2 => by
    simp at h1 h2
    subst h1 h2
    simp only [List.zip_cons_cons, List.all_cons, Bool.and_eq_true] at h
    exact h.1
  | a :: as, b :: bs, h, i + 1, _, _, h1, h2 => by
    simp only [List.zip_cons_cons, List.all_cons, Bool.and_eq_true] at h
    exact zip_all h.2 (i := i) (by simpa using h1) (by simpa using h2)
  | [], _, _, i, _, _, h1, _ => by simp at h1
  | _ :: _, [], _, i, _, _, _, h2 => by simp at h2

section
variable {t : Tab} {P : Program} {w : World} {K : PySem.W.Frag} {mg : Str → Option Value} {h : Heap}
theorem Tab.fadr_eq {f : Nat} {fn : Fn} (hf : t.T f = some fn) : fadr (t.ca K) f = adrOf K fn := by
  unfold fadr Tab.ca
  rw [if_neg (by omega), Nat.add_sub_cancel, hf]
theorem at?_mem {α : Type} {f : Nat} : ∀ {is : List Nat} {as : List α} {a : α}, at? f is as = some a → (f, a) ∈ is.zip as
  | i :: is, x :: as, a, h => by
    unfold at? at h
    split at h
    · rename_i e
      cases h
      rw [Nat.eq_of_beq_eq_true e]
      simp
    · simpa using Or.inr (at?_mem h)
  | [], _, _, h => by cases h
  | _ :: _, [], _, h => by cases h
theorem Tab.clF (kin : K.In h) (ns : h.Ns mainGlobals mg) (c : He5.SaysA t.fa t.das K) (cp : (t.prs.all fun p => propB K p) = true) (ok : ((t.cids.zip t.clss).all fun p => t.clB p) = true) : ∀ n cl, t.C n = some cl → ClF K mg (t.ca K) n cl := fun n cl hc => by
  have hm := at?_mem hc
  have o := List.all_eq_true.mp ok _ hm
  unfold Tab.clB at o
  simp only [Bool.and_eq_true, decide_eq_true_eq] at o
  obtain ⟨⟨o1, o2⟩, o3⟩ := o
  have fact : ∀ f ∈ cl.fa, f.ok K = true := fun f hf => by
    have hi : f ∈ t.fa := List.mem_append_right _ (List.mem_flatMap.mpr ⟨cl, (List.of_mem_zip hm).2, hf⟩)
    obtain ⟨i, hi⟩ := List.getElem?_of_mem hi
    exact c.fact i hi
  have eca : t.ca K n = He.ga K cl.name := by
    unfold Tab.ca
    rw [if_pos o1, hc]
  refine ⟨?_, ?_, fun x hx => ?_, fun q hq => ?_, ?_⟩
  · rw [eca]
    exact He.glo_ok kin ns (fact (.glo cl.name) (by simp [Cl.fa]))
  · rw [eca]
    exact He.cls_ok (fact (.cls cl.name) (by simp [Cl.fa]))
  · rw [eca]
    exact He.noat_ok (fact (.noat cl.name x) (by simp [Cl.fa, hx]))
  · have z := List.all_eq_true.mp o3 q hq
    split at z
    · rename_i fn hfn
      simp only [Bool.and_eq_true, decide_eq_true_eq] at z
      obtain ⟨⟨z1, z2⟩, z3⟩ := z
      rw [Tab.fadr_eq hfn, eca]
      unfold adrOf
      rw [z1]
      dsimp only
      rw [if_pos z2, z3]
      exact ⟨_, propB_ok (p := (cl.name, q.1)) (List.all_eq_true.mp cp _ (List.mem_flatMap.mpr ⟨cl, (List.of_mem_zip hm).2, List.mem_map.mpr ⟨q, hq, rfl⟩⟩))⟩
    · cases z
  · split at o2
    · rename_i fn hfn
      simp only [Bool.and_eq_true, decide_eq_true_eq, Bool.not_eq_true'] at o2
      obtain ⟨⟨z1, z2⟩, z3⟩ := o2
      rw [Tab.fadr_eq hfn, eca]
      unfold adrOf
      rw [z1]
      dsimp only
      rw [if_neg (by rw [z2]; exact Bool.false_ne_true), z3]
      exact He.mkr_ok (fact (.mkr cl.name) (by simp [Cl.fa]))
    · cases o2
theorem Tab.fnS (kin : K.In h) (ns : h.Ns mainGlobals mg) (c : He5.SaysA t.fa t.das K) (ok : ((t.fns.zip t.defs).all fun p => t.okB p.1 p.2) = true) (hb : BindsOk t.fns t.defs t.kws) : ∀ f fn, t.T f = some fn → FnS K mg (t.ca K) t.T t.kw t.gls t.C f fn := fun f fn hf => by
  obtain ⟨j, d, hj, hd, b⟩ := hb.get hf
  have o := zip_all ok (i := j) (a := fn) (b := d) hj hd
  unfold Tab.okB at o
  simp only [Bool.and_eq_true, decide_eq_true_eq, List.isEmpty_iff] at o
  obtain ⟨⟨⟨⟨o2, o4⟩, o5⟩, o6⟩, o7⟩ := o
  have hz : t.das[j]? = some (defA fn d) := by
    unfold Tab.das
    rw [List.getElem?_map, (List.getElem?_zip_eq_some (z := (fn, d))).mpr ⟨hj, hd⟩]
    rfl
  obtain ⟨fd, F⟩ := c.def_ j hz
  have ea := Tab.fadr_eq (K := K) hf
  have F : FunD K d.name d.qual d.params d.body d.scope [] [] (adrOf K fn) fd := F
  rw [o2, ← ea] at F
  obtain ⟨oc, od, dV, kV, doc, pm, an, cdv, ct, osl, efd, lk, hcd, hD, hK⟩ := F.ex
  have hV : dV = .none := by
    rcases hD with ⟨_, z⟩ | ⟨z, _⟩
    · exact z
    · exact absurd rfl z
  subst hV
  refine ⟨fd, d.qual, d.params, d.body, d.scope, F, fun hn => ?_, scopeB_ok o6, fun s us hl => ?_, fun q hq s us ws rs h1 h2 h3 h4 => ?_, o7⟩
  · rw [ea]
    unfold adrOf
    rw [hn]
    have hi : He.Fa.glo fn.name ∈ t.fa := List.mem_append_left _ (List.mem_append_left _ (List.mem_map.mpr ⟨fn, List.mem_filter.mpr ⟨List.mem_of_getElem? hj, by rw [hn]; rfl⟩, rfl⟩))
    obtain ⟨i, hi⟩ := List.getElem?_of_mem hi
    exact He.glo_ok kin ns (c.fact i hi)
  · subst efd
    rw [← o2]
    exact .of_eq (b.plain kV doc pm an cdv ct us hl)
  · subst efd
    rw [← o2]
    exact .of_eq (b.kw q hq kV doc pm an cdv ct us ws rs h1 h2 h3 h4)
theorem Tab.free (kin : K.In h) (ns : h.Ns mainGlobals mg) (c : He5.SaysA t.fa t.das K) : ∀ x ∈ bltNames, mg x = none := fun x hx => by
  have hi : He.Fa.free x ∈ t.fa := List.mem_append_left _ (List.mem_append_right _ (List.mem_map.mpr ⟨x, hx, rfl⟩))
  obtain ⟨i, hi⟩ := List.getElem?_of_mem hi
  exact He.free_ok kin ns (c.fact i hi)
theorem Tab.globs (kin : K.In h) (ns : h.Ns mainGlobals mg) (c : (t.gls.all fun p => globB K p) = true) : ∀ p ∈ t.gls, ∃ v u, mg p.1 = some u ∧ RelV v u ∧ ∀ ι H, RelD K ι H p.2 v := fun p hp => by
  have q := List.all_eq_true.mp c p hp
  unfold globB at q
  split at q
  · rename_i u hu
    obtain ⟨v, r, rd⟩ := constB_ok q
    exact ⟨v, u, PySem.W.mg_of kin ns hu, r, rd⟩
  · cases q
end

/-- THE END: the law's def is number f of the table -/
theorem walk_tab {l : PySem.W.OpenLaw} {n k f m : Nat} {t : Tab} {fn : Fn} {x : Str} {q : Program} {loose : List Str} {XP : (Str → Option Value) → Heap → Prop} {d : DefRec}
    (hn : l.most = some n) (hn2 : n ≤ sizeLine) (hdf : d.params.defaults = []) (hr : Room (k + 1) callerA) (hf : t.T f = some fn) (hx : fn.ps = [x]) (hd : d.name = fn.name) (hno : fn.cls = none) (okc : ((t.cids.zip t.clss).all fun p => t.clB p) = true)
    (ok : ((t.fns.zip t.defs).all fun p => t.okB p.1 p.2) = true) (hb : BindsOk t.fns t.defs t.kws)
    (hlaw : ∀ ns : List Int, ns.length ≤ n → wpF t.T (k + 1) f [.ref 0] [.rol (ns.map D.int)] (fun d _ => d = .bl true) fun _ _ => False) :
    PySem.W.WalkO q loose XP (hookC m t.fa t.das t.gls t.prs).says l.row.toRowW d [] (fun f vs => PySem.call f vs) := by
  refine walk_law (g := fn.g) (k := k + 1) (x := x) hn hn2 hdf hr fun w mg fa h Y G hmg => ?_
  obtain ⟨K, kin, c1, c2⟩ := Y
  obtain ⟨c2, c3⟩ := He.ba c2
  have hS := Tab.fnS kin G c1 ok hb
  have hC := Tab.clF kin G c1 c3 okc
  obtain ⟨fd, qual, params, body, scope, F, hm, S, b1, b2, hc⟩ := (hS f fn hf).ex
  rw [hd, hm hno] at hmg
  have hfa := Value.ref.inj (Option.some.inj hmg)
  subst hfa
  refine ⟨K, fd, spF K (t.ca K) (wpF t.T (k + 1)) f, kin, fun s u => ?_, fun H b ns hl hO hq => law_sp hO hq (wpF_mono _ _) (hlaw ns hl), fun base _ _ => ?_⟩
  · have z := b1 s [u] (by rw [hx]; rfl)
    rw [hx] at z
    exact z
  · have z := step (P := l.prog) (w := w) (base := base) (ca := t.ca K) (Tab.free kin G c1) (Tab.globs kin G c2) hC (fun f fn hf => level hC hS (Tab.free kin G c1) (Tab.globs kin G c2) k f fn hf) hf F S hc
    rw [hx] at z
    exact z
end CC
/-! Rules of the plain language, for the laws. -/
namespace CC
open PySem L2

/-! ### bounds -/
def Bd (n : Nat) (i : Int) : Prop := i.natAbs < 2 ^ n
theorem pow_mono {m n : Nat} (h : m ≤ n) : 2 ^ m ≤ 2 ^ n := Nat.pow_le_pow_right (by decide) h
theorem Bd.mono {m n : Nat} {i : Int} (h : Bd m i) (hm : m ≤ n) : Bd n i := Nat.lt_of_lt_of_le h (pow_mono hm)
theorem Bd.add {m n : Nat} {i j : Int} (hi : Bd m i) (hj : Bd n j) : Bd (max m n + 1) (i + j) := by
  have h1 : i.natAbs < 2 ^ (max m n) := hi.mono (Nat.le_max_left _ _)
  have h2 : j.natAbs < 2 ^ (max m n) := hj.mono (Nat.le_max_right _ _)
  unfold Bd
  rw [Nat.pow_succ]
  omega
theorem Bd.sub {m n : Nat} {i j : Int} (hi : Bd m i) (hj : Bd n j) : Bd (max m n + 1) (i - j) := by
  have h1 : i.natAbs < 2 ^ (max m n) := hi.mono (Nat.le_max_left _ _)
  have h2 : j.natAbs < 2 ^ (max m n) := hj.mono (Nat.le_max_right _ _)
  unfold Bd
  rw [Nat.pow_succ]
  omega
theorem Bd.neg {m : Nat} {i : Int} (hi : Bd m i) : Bd m (-i) := by
  unfold Bd at *
  omega
theorem Bd.mul {m n : Nat} {i j : Int} (hi : Bd m i) (hj : Bd n j) : Bd (m + n) (i * j) := by
  unfold Bd at *
  rw [Int.natAbs_mul, Nat.pow_add]
  exact Nat.mul_lt_mul'' hi hj
theorem log2_lt_of {n k : Nat} (h : n < 2 ^ k) (hk : 0 < k) : n.log2 < k := by
  rcases Nat.eq_zero_or_pos n with h0 | hp
  · rw [h0]; simpa using hk
  · exact (Nat.log2_lt (Nat.ne_of_gt hp)).mpr h
theorem Bd.bits {n : Nat} {i : Int} (h : Bd n i) : Builtin.Int.intBits i ≤ n := by
  unfold Builtin.Int.intBits
  split
  · exact Nat.zero_le _
  · rename_i h0
    rcases Nat.eq_zero_or_pos n with hn | hn
    · subst hn
      unfold Bd at h
      have : i = 0 := by omega
      subst this
      simp at h0
    · have := log2_lt_of h hn
      omega
theorem Bd.mulOk {m n : Nat} {i j : Int} (hi : Bd m i) (hj : Bd n j) (hm : m ≤ 2 ^ 20) (hn : n ≤ 2 ^ 20) : IntMulOk i j :=
  IntMulOk.of_bits (Nat.le_trans hi.bits hm) (Nat.le_trans hj.bits hn)
theorem Bd.divOk {n : Nat} {i j : Int} (hj : Bd n j) (hn : n ≤ 9000) : DivOk i j := by
  unfold DivOk Builtin.divisionGoesByPylong
  have : decide ((if (j == 0) = true then 0 else j.natAbs.log2 / 30 + 1) > 300) = false := by
    apply decide_eq_false
    split
    · omega
    · rename_i h0
      have : j.natAbs.log2 < 9000 := log2_lt_of (hj.mono hn) (by decide)
      omega
  dsimp only
  rw [this]
  rfl
theorem Bd.powOk {n : Nat} {i : Int} {k : Int} (hi : Bd n i) (h : (n : Int) * k ≤ 2 ^ 27) (hk : 0 ≤ k) : (Builtin.Int.intBits i : Int) * k ≤ 2 ^ 27 := by
  have := hi.bits
  refine Int.le_trans (Int.mul_le_mul_of_nonneg_right (by omega) hk) h
theorem fdiv_natAbs (i j : Int) : (i.fdiv j).natAbs ≤ i.natAbs := by
  rcases Int.lt_trichotomy j 0 with hj | hj | hj
  · have e : i.fdiv j = (-i) / (-j) := by
      rw [← Int.neg_fdiv_neg, Int.fdiv_eq_ediv_of_nonneg _ (by omega)]
    rw [e]
    have := Int.natAbs_ediv_le_natAbs (-i) (-j)
    omega
  · subst hj; simp
  · rw [Int.fdiv_eq_ediv_of_nonneg _ (by omega)]
    exact Int.natAbs_ediv_le_natAbs i j
theorem Bd.fdiv {m : Nat} {i : Int} (hi : Bd m i) (j : Int) : Bd m (i.fdiv j) := Nat.lt_of_le_of_lt (fdiv_natAbs i j) hi
theorem Bd.of {n : Nat} {i : Int} (h1 : -(2 ^ n) < i) (h2 : i < 2 ^ n) : Bd n i := by
  unfold Bd
  have : ((2 ^ n : Nat) : Int) = 2 ^ n := by simp
  omega
theorem Bd.le {n : Nat} {i : Int} (h : Bd n i) : -(2 ^ n) < i ∧ i < 2 ^ n := by
  unfold Bd at h
  have : ((2 ^ n : Nat) : Int) = 2 ^ n := by simp
  omega
/-! ### what is wanted, weakened -/
theorem use {T : Nat → Option Fn} {k f : Nat} {ds : List D} {S : Store} {P Q : Post} {E : EPost} (h : wpF T k f ds S P fun _ _ => False) (hq : ∀ d S1, P d S1 → Q d S1) : wpF T k f ds S Q E :=
  wpF_mono T k f ds S P Q _ E hq (fun _ _ z => z.elim) h

/-! ### cases -/
def onV (o : Option (Option D)) (Q : D → Prop) : Prop := match o with
  | some (some d) => Q d
  | _ => False
def onB (o : Option Bool) (P Q : Prop) : Prop := match o with
  | some true => P
  | some false => Q
  | none => False
def onN (o : Option Bool) (Q : Bool → Prop) : Prop := match o with
  | some b => Q b
  | none => False
def onD (z : D) (P Q : Prop) : Prop := match z with
  | .bl true => P
  | .bl false => Q
  | _ => False
def onO (o : Option D) (Q : D → Prop) : Prop := match o with
  | some x => Q x
  | none => False
def onL (o : Option (List D)) (Q : List D → Prop) : Prop := match o with
  | some x => Q x
  | none => False
def on2 (ds : List D) (Q : D → D → Prop) : Prop := match ds with
  | [a, b] => Q a b
  | _ => False
def on3 (ds : List D) (Q : D → D → D → Prop) : Prop := match ds with
  | [a, b, c] => Q a b c
  | _ => False
def onC (bs : List D) (S : Store) (yes no : Prop) : Prop := match bs with
  | [] => yes
  | [b] => onB (truth b S) yes no
  | _ => False
def onAug (op : Operator) (x y : D) (Q : D → Prop) : Prop := match op, x, y with
  | .Add, .int a, .int b => Q (.int (a + b))
  | .Sub, .int a, .int b => Q (.int (a - b))
  | .Mult, .int a, .int b => IntMulOk a b ∧ Q (.int (a * b))
  | _, _, _ => False
def onSet (x y : D) (S : Store) (d : D) (Q : Store → Prop) : Prop := match x, y with
  | .ref l, .int k => (match S[l]? with
    | some (.lst xs) => (match ixN xs.length k with
      | some j => Q (S.set l (.lst (xs.set j d)))
      | none => False)
    | _ => False)
  | _, _ => False
theorem onV_some (d : D) (Q : D → Prop) : onV (some (some d)) Q = Q d := rfl
theorem onB_some (b : Bool) (P Q : Prop) : onB (some b) P Q = (if b = true then P else Q) := by cases b <;> rfl
theorem onN_some (b : Bool) (Q : Bool → Prop) : onN (some b) Q = Q b := rfl
theorem onD_bl (b : Bool) (P Q : Prop) : onD (.bl b) P Q = (if b = true then P else Q) := by cases b <;> rfl
theorem onO_some (x : D) (Q : D → Prop) : onO (some x) Q = Q x := rfl
theorem onL_some (x : List D) (Q : List D → Prop) : onL (some x) Q = Q x := rfl
theorem on2_eq (a b : D) (Q : D → D → Prop) : on2 [a, b] Q = Q a b := rfl
theorem on3_eq (a b c : D) (Q : D → D → D → Prop) : on3 [a, b, c] Q = Q a b c := rfl
theorem onC_nil (S : Store) (P Q : Prop) : onC [] S P Q = P := rfl
theorem onC_one (b : D) (S : Store) (P Q : Prop) : onC [b] S P Q = onB (truth b S) P Q := rfl
theorem onSet_eq {l : Nat} {k : Int} {S : Store} {d : D} {Q : Store → Prop} {xs : List D} {j : Nat} (h : S[l]? = some (.lst xs)) (hj : ixN xs.length k = some j) (q : Q (S.set l (.lst (xs.set j d)))) : onSet (.ref l) (.int k) S d Q := by
  unfold onSet
  dsimp only
  rw [h]
  dsimp only
  rw [hj]
  exact q
theorem onAug_sub (a b : Int) (Q : D → Prop) : onAug .Sub (.int a) (.int b) Q = Q (.int (a - b)) := rfl
theorem onAug_add (a b : Int) (Q : D → Prop) : onAug .Add (.int a) (.int b) Q = Q (.int (a + b)) := rfl
theorem onAug_mul (a b : Int) (Q : D → Prop) : onAug .Mult (.int a) (.int b) Q = (IntMulOk a b ∧ Q (.int (a * b))) := rfl

/-! ### loops -/
theorem whileW_of {nx : Sd → Store → Prop} {turn : Sd → Store → (Sd → Store → Prop) → (Sd → Store → Prop) → Prop} (ht : ∀ σ S m m' n n', (∀ σ1 S1, m σ1 S1 → m' σ1 S1) → (∀ σ1 S1, n σ1 S1 → n' σ1 S1) → turn σ S m n → turn σ S m' n')
    (I : Nat → Sd → Store → Prop) (step : ∀ m σ S, I m σ S → turn σ S (fun σ1 S1 => ∃ m', m' < m ∧ I m' σ1 S1) nx) : ∀ k m σ S, m < k → I m σ S → whileW nx turn k σ S
  | 0, m, σ, S, h, _ => absurd h (Nat.not_lt_zero _)
  | k + 1, m, σ, S, h, hi => ht σ S _ _ _ _ (fun σ1 S1 ⟨m', h1, h2⟩ => whileW_of ht I step k m' σ1 S1 (by omega) h2) (fun _ _ z => z) (step m σ S hi)
/-- a while by an invariant with a measure -/
theorem wp_while {g : Bool} {φ : Phi} (hφ : PhiMono φ) {c : Ex} {b : Sms} {D : EndsD} {σ : Sd} {S : Store} (I : Nat → Sd → Store → Prop) (m : Nat) (h0 : I m σ S)
    (step : ∀ m σ S, I m σ S → wpE g φ c σ S (fun d S1 => onB (truth d S1) (wpSs g φ b { D with nx := fun σ1 S1 => ∃ m', m' < m ∧ I m' σ1 S1, ct := fun σ1 S1 => ∃ m', m' < m ∧ I m' σ1 S1, bk := D.nx } σ S1) (D.nx σ S1)) (fun x S1 => D.ex x σ S1)) : wpS g φ (.whil c b) D σ S := by
  simp only [wpS]
  refine ⟨m + 1, whileW_of (fun σ S m m' n n' hm hn t => ?_) I step (m + 1) m σ S (Nat.lt_succ_self m) h0⟩
  refine wpE_mono hφ c (fun d S1 q => ?_) (fun _ _ z => z) t
  split at q
  · refine wpSs_mono hφ b ?_ q
    exact ⟨hm, fun _ _ z => z, fun _ _ z => z, hm, fun _ _ _ z => z⟩
  · exact hn _ _ q
  · exact q
theorem forW_of {w : Src} {nx : Sd → Store → Prop} {turn : D → Sd → Store → (Sd → Store → Prop) → Prop} (ht : ∀ x σ S m m', (∀ σ1 S1, m σ1 S1 → m' σ1 S1) → turn x σ S m → turn x σ S m')
    (I : Nat → Sd → Store → Prop) (ok : ∀ i σ S, i ≤ w.xs.length → I i σ S → w.ok S) (step : ∀ (i : Nat) (x : CC.D) σ S, w.xs[i]? = some x → I i σ S → turn x σ S (I (i + 1))) (done : ∀ σ S, I w.xs.length σ S → nx σ S) : ∀ (n i : Nat) σ S, n + i = w.xs.length → I i σ S → forW w nx turn (w.xs.drop i) σ S
  | 0, i, σ, S, h, hi => by
    rw [List.drop_of_length_le (by omega)]
    have e : i = w.xs.length := by omega
    subst e
    exact ⟨ok _ σ S (Nat.le_refl _) hi, done σ S hi⟩
  | n + 1, i, σ, S, h, hi => by
    have hl : i < w.xs.length := by omega
    rw [List.drop_eq_getElem_cons hl]
    exact ⟨ok i σ S (by omega) hi, ht _ σ S _ _ (fun σ1 S1 q => forW_of ht I ok step done n (i + 1) σ1 S1 (by omega) q) (step i _ σ S (List.getElem?_eq_getElem hl) hi)⟩
/-- a for by an invariant -/
theorem wp_for {g : Bool} {φ : Phi} (hφ : PhiMono φ) {t : Tg} {k : ItK} {src : Exs} {b : Sms} {D : EndsD} {σ : Sd} {S : Store}
    (h : wpAs g φ src σ S (fun ds S1 => ∃ (c : Prop) (w : Src), iterR k ds S1 = some (c, w) ∧ c ∧ ∃ I : Nat → Sd → Store → Prop, I 0 σ S1 ∧ (∀ i σ S, i ≤ w.xs.length → I i σ S → w.ok S) ∧
      (∀ (i : Nat) (x : CC.D) σ S, w.xs[i]? = some x → I i σ S → wpTg g φ t x σ S (fun σ2 S2 => wpSs g φ b { D with nx := I (i + 1), ct := I (i + 1), bk := D.nx } σ2 S2) (fun x S1 => D.ex x σ S1)) ∧ ∀ σ S, I w.xs.length σ S → D.nx σ S) (fun x S1 => D.ex x σ S1)) :
    wpS g φ (.fors t k src b) D σ S := by
  simp only [wpS]
  refine wpAs_mono hφ src (fun ds S1 q => ?_) (fun _ _ z => z) h
  obtain ⟨c, w, hw, hc, I, h0, ok, step, done⟩ := q
  rw [hw]
  refine ⟨hc, ?_⟩
  have := forW_of (w := w) (nx := D.nx) (turn := fun x σ S more => wpTg g φ t x σ S (fun σ2 S2 => wpSs g φ b { D with nx := more, ct := more, bk := D.nx } σ2 S2) (fun x S1 => D.ex x σ S1)) (fun x σ S m m' hm t' => ?_) I ok step done w.xs.length 0 σ S1 (by omega) h0
  · rw [List.drop_zero] at this
    exact this
  · exact wpTg_mono hφ t (fun σ2 S2 q => by
      refine wpSs_mono hφ b ?_ q
      exact ⟨hm, fun _ _ z => z, fun _ _ z => z, hm, fun _ _ _ z => z⟩) (fun _ _ z => z) t'

/-! ### stores that grow -/
def Gr (S S' : Store) : Prop := ∀ (l : Nat) (o : O), S[l]? = some o → S'[l]? = some o
theorem Gr.refl (S : Store) : Gr S S := fun _ _ h => h
theorem Gr.trans {S S1 S2 : Store} (h : Gr S S1) (k : Gr S1 S2) : Gr S S2 := fun l o e => k l o (h l o e)
theorem Gr.push (S : Store) (o : O) : Gr S (S ++ [o]) := fun l o' e => by rw [List.getElem?_append_left (List.getElem?_eq_some_iff.mp e).1]; exact e
theorem Gr.len {S S' : Store} (h : Gr S S') : S.length ≤ S'.length := by
  rcases Nat.eq_zero_or_pos S.length with z | z
  · omega
  · obtain ⟨o, ho⟩ : ∃ o, S[S.length - 1]? = some o := ⟨_, List.getElem?_eq_getElem (by omega)⟩
    have := (List.getElem?_eq_some_iff.mp (h _ _ ho)).1
    omega
theorem Gr.seq {S S' : Store} (h : Gr S S') {l : Nat} {ds : List D} (e : seqAt S l = some ds) : seqAt S' l = some ds := by
  unfold seqAt at e ⊢
  cases q : S[l]? with
  | none => rw [q] at e; cases e
  | some o =>
    rw [q] at e
    rw [h l o q]
    exact e
theorem seqAt_lst {S : Store} {l : Nat} {ds : List D} (h : S[l]? = some (.lst ds)) : seqAt S l = some ds := by
  unfold seqAt
  rw [h]
theorem seqAt_rol {S : Store} {l : Nat} {ds : List D} (h : S[l]? = some (.rol ds)) : seqAt S l = some ds := by
  unfold seqAt
  rw [h]
/-- all but l stays -/
def GrX (L : Nat) (S S' : Store) : Prop := ∀ (l : Nat) (o : O), l ≠ L → S[l]? = some o → S'[l]? = some o
theorem GrX.refl (L : Nat) (S : Store) : GrX L S S := fun _ _ _ h => h
theorem GrX.trans {L : Nat} {S S1 S2 : Store} (h : GrX L S S1) (k : GrX L S1 S2) : GrX L S S2 := fun l o n e => k l o n (h l o n e)
theorem Gr.x {S S' : Store} (h : Gr S S') (L : Nat) : GrX L S S' := fun l o _ e => h l o e
theorem GrX.set (L : Nat) (S : Store) (o : O) : GrX L S (S.set L o) := fun l o' n e => by rw [List.getElem?_set_ne (Ne.symm n)]; exact e
theorem GrX.gr {L : Nat} {S0 S S' : Store} (h : GrX L S S') (g : Gr S0 S) (hl : S0.length ≤ L) : Gr S0 S' := fun l o e => h l o (by
  have := (List.getElem?_eq_some_iff.mp e).1
  omega) (g l o e)
theorem set_get {S : Store} {L : Nat} {o o' : O} (h : S[L]? = some o) : (S.set L o')[L]? = some o' := List.getElem?_set_self (List.getElem?_eq_some_iff.mp h).1

theorem compW_of {w : Src} {L : Nat} {Q : Post} {turn : D → Store → (D → Store → Prop) → (Store → Prop) → Prop} (ht : ∀ x S y y' n n', (∀ d S1, y d S1 → y' d S1) → (∀ S1, n S1 → n' S1) → turn x S y n → turn x S y' n')
    (I : Nat → List D → Store → Prop) (ok : ∀ i acc S, i ≤ w.xs.length → I i acc S → w.ok S)
    (step : ∀ (i : Nat) (x : CC.D) acc S, w.xs[i]? = some x → I i acc S → turn x S (fun d S2 => S2[L]? = some (.lst acc) ∧ acc.length < sizeLine ∧ I (i + 1) (acc ++ [d]) (S2.set L (.lst (acc ++ [d])))) (I (i + 1) acc)) (done : ∀ acc S, I w.xs.length acc S → Q (.ref L) S) :
    ∀ (n i : Nat) acc S, n + i = w.xs.length → I i acc S → compW w L Q turn (w.xs.drop i) S
  | 0, i, acc, S, h, hi => by
    rw [List.drop_of_length_le (by omega)]
    have e : i = w.xs.length := by omega
    subst e
    exact ⟨ok _ acc S (Nat.le_refl _) hi, done acc S hi⟩
  | n + 1, i, acc, S, h, hi => by
    have hl : i < w.xs.length := by omega
    rw [List.drop_eq_getElem_cons hl]
    exact ⟨ok i acc S (by omega) hi, ht _ S _ _ _ _ (fun d S2 ⟨a, b, c⟩ => ⟨acc, a, b, compW_of ht I ok step done n (i + 1) _ _ (by omega) c⟩) (fun S1 q => compW_of ht I ok step done n (i + 1) _ _ (by omega) q) (step i _ acc S (List.getElem?_eq_getElem hl) hi)⟩
/-- a comprehension whose turns change nothing that was there: F x the item's outcome -/
theorem wp_comp {g : Bool} {φ : Phi} (hφ : PhiMono φ) {elt : Ex} {tg : Tg} {k : ItK} {src cond : Exs} {own : List (Str × Nat)} {σ : Sd} {S : Store} {Q : Post} {E : EPost}
    (h : wpAs g φ src σ S (fun ds S1 => ∃ (c : Prop) (w : Src), iterR k ds S1 = some (c, w) ∧ c ∧ w.ok S1 ∧ w.xs.length ≤ sizeLine ∧ ∃ F : D → Option D,
      (∀ (i : Nat) (x : CC.D) S2, w.xs[i]? = some x → Gr S1 S2 → wpTg g φ tg x (wipeD σ (own.map (·.2))) S2 (fun σ2 S3 => wpAs g φ cond σ2 S3 (fun bs S4 => onC bs S4 (wpE g φ elt σ2 S4 (fun d S5 => F x = some d ∧ Gr S2 S5) (fun _ _ => False)) (F x = none ∧ Gr S2 S4)) (fun _ _ => False)) (fun _ _ => False)) ∧ ∀ S2, Gr S1 S2 → S2[S1.length]? = some (.lst (w.xs.filterMap F)) → Q (.ref S1.length) S2) E) :
    wpE g φ (.comp elt tg k src cond own) σ S Q E := by
  simp only [wpE]
  refine wpAs_mono hφ src (fun ds S1 q => ?_) (fun _ _ z => z) h
  obtain ⟨c, w, hw, hc, hok, hlen, F, turn, done⟩ := q
  rw [hw]
  refine ⟨hc, ?_⟩
  have ok : ∀ S2, Gr S1 S2 → w.ok S2 := fun S2 hg p hp => hg.seq (hok p hp)
  have key := compW_of (w := w) (L := S1.length) (Q := Q) (turn := fun x S2 yes no => wpTg g φ tg x (wipeD σ (own.map (·.2))) S2 (fun σ2 S3 => wpAs g φ cond σ2 S3 (fun bs S4 => match bs with
        | [] => wpE g φ elt σ2 S4 yes (fun _ _ => False)
        | [b] => (match truth b S4 with
          | some true => wpE g φ elt σ2 S4 yes (fun _ _ => False)
          | some false => no S4
          | none => False)
        | _ => False) (fun _ _ => False)) (fun _ _ => False)) (fun x S2 y y' n n' hy hn t => ?_)
    (fun i acc S2 => Gr S1 S2 ∧ S2[S1.length]? = some (.lst acc) ∧ acc = (w.xs.take i).filterMap F) (fun i acc S2 _ hi => ok S2 hi.1) (fun i x acc S2 hx hi => ?_) (fun acc S2 hi => ?_) w.xs.length 0 [] (S1 ++ [.lst []]) (by omega) ⟨Gr.push _ _, by simp, by simp⟩
  · rw [List.drop_zero] at key
    exact key
  · refine wpTg_mono hφ tg (fun σ2 S3 t => wpAs_mono hφ cond (fun bs S4 t => ?_) (fun _ _ z => z) t) (fun _ _ z => z) t
    split at t
    · exact wpE_mono hφ elt hy (fun _ _ z => z) t
    · split at t
      · exact wpE_mono hφ elt hy (fun _ _ z => z) t
      · exact hn _ t
      · exact t
    · exact t
  · obtain ⟨g1, g2, g3⟩ := hi
    have hl : i < w.xs.length := (List.getElem?_eq_some_iff.mp hx).1
    have hal : acc.length ≤ i := by
      rw [g3]
      refine Nat.le_trans (List.length_filterMap_le _ _) ?_
      rw [List.length_take]
      omega
    have htake : w.xs.take (i + 1) = w.xs.take i ++ [x] := by
      rw [List.take_add_one, hx]
      rfl
    have yes : ∀ d S5, F x = some d ∧ Gr S2 S5 → S5[S1.length]? = some (.lst acc) ∧ acc.length < sizeLine ∧ Gr S1 (S5.set S1.length (.lst (acc ++ [d]))) ∧ (S5.set S1.length (.lst (acc ++ [d])))[S1.length]? = some (.lst (acc ++ [d])) ∧ acc ++ [d] = (w.xs.take (i + 1)).filterMap F := fun d S5 q => by
      have e := q.2 _ _ g2
      refine ⟨e, by omega, (GrX.set _ _ _).gr (g1.trans q.2) (Nat.le_refl _), set_get e, ?_⟩
      rw [htake, List.filterMap_append, ← g3]
      simp [q.1]
    have no : ∀ S4, F x = none ∧ Gr S2 S4 → Gr S1 S4 ∧ S4[S1.length]? = some (.lst acc) ∧ acc = (w.xs.take (i + 1)).filterMap F := fun S4 q => by
      refine ⟨g1.trans q.2, q.2 _ _ g2, ?_⟩
      rw [htake, List.filterMap_append, ← g3]
      simp [q.1]
    refine wpTg_mono hφ tg (fun σ2 S3 t => wpAs_mono hφ cond (fun bs S4 t => ?_) (fun _ _ z => z) t) (fun _ _ z => z) (turn i x S2 hx g1)
    unfold onC onB at t
    split at t
    · exact wpE_mono hφ elt yes (fun _ _ z => z) t
    · split at t
      · exact wpE_mono hφ elt yes (fun _ _ z => z) t
      · exact no _ t
      · exact t
    · exact t
  · obtain ⟨g1, g2, g3⟩ := hi
    rw [List.take_length] at g3
    rw [g3] at g2
    exact done S2 g1 g2

/-! ### the steps, for simp -/
section
variable {g : Bool} {φ : Phi} {σ : Sd} {S : Store} {Q : Post} {E : EPost} {D : EndsD}
@[simp] theorem den_int (n : Nat) (S : Store) (i : Int) : den n S (.int i) = some (.int i) := by cases n <;> rfl
@[simp] theorem den_bl (n : Nat) (S : Store) (i : Bool) : den n S (.bl i) = some (.bool i) := by cases n <;> rfl
@[simp] theorem den_non (n : Nat) (S : Store) : den n S .non = some .none := by cases n <;> rfl
@[simp] theorem den_str (n : Nat) (S : Store) (x : Str) : den n S (.str x) = some (.str x) := by cases n <;> rfl
theorem truth_bl (b : Bool) (S : Store) : truth (.bl b) S = some b := rfl
theorem eqv_int (i j : Int) : PyData.eqv (.int i) (.int j) = decide (i = j) := by
  simp only [PyData.eqv]
  rw [Bool.eq_iff_iff]
  simp
theorem shaped_int (i : Int) : SeqAt.shaped (.int i) = true := by
  unfold SeqAt.shaped
  simp [PyData.canLay0, PyData.depth]
theorem shaped_bool (i : Bool) : SeqAt.shaped (.bool i) = true := by
  unfold SeqAt.shaped
  simp [PyData.canLay0, PyData.depth]
theorem shaped_none : SeqAt.shaped .none = true := by
  unfold SeqAt.shaped
  simp [PyData.canLay0, PyData.depth]
theorem p_add (a b : Int) : primW g (.bin .Add) [.int a, .int b] S Q = Q (.int (a + b)) S := by simp [primW, primR, binR]
theorem p_sub (a b : Int) : primW g (.bin .Sub) [.int a, .int b] S Q = Q (.int (a - b)) S := by simp [primW, primR, binR]
theorem p_mul (a b : Int) : primW g (.bin .Mult) [.int a, .int b] S Q = (IntMulOk a b ∧ Q (.int (a * b)) S) := by simp [primW, primR, binR]
theorem p_div (a b : Int) : primW g (.bin .FloorDiv) [.int a, .int b] S Q = ((b ≠ 0 ∧ DivOk a b) ∧ Q (.int (a.fdiv b)) S) := by simp [primW, primR, binR]
theorem p_mod (a b : Int) : primW g (.bin .Mod) [.int a, .int b] S Q = (b ≠ 0 ∧ Q (.int (a.fmod b)) S) := by simp [primW, primR, binR]
theorem p_pow (a b : Int) : primW g (.bin .Pow) [.int a, .int b] S Q = ((0 ≤ b ∧ (Builtin.Int.intBits a : Int) * b ≤ 2 ^ 27) ∧ Q (.int (a ^ b.toNat)) S) := by simp [primW, primR, binR]
theorem p_neg (a : Int) : primW g .neg [.int a] S Q = Q (.int (-a)) S := by simp [primW, primR]
theorem p_eq (a b : Int) : primW g (.cmp .Eq) [.int a, .int b] S Q = Q (.bl (decide (a = b))) S := by simp [primW, primR, cmpR, eqv_int, shaped_int]
theorem p_ne (a b : Int) : primW g (.cmp .NotEq) [.int a, .int b] S Q = Q (.bl (!decide (a = b))) S := by simp [primW, primR, cmpR, eqv_int, shaped_int]
theorem p_lt (a b : Int) : primW g (.cmp .Lt) [.int a, .int b] S Q = Q (.bl (decide (a < b))) S := by simp [primW, primR, cmpR]
theorem p_le (a b : Int) : primW g (.cmp .LtE) [.int a, .int b] S Q = Q (.bl (decide (a ≤ b))) S := by simp [primW, primR, cmpR]
theorem p_gt (a b : Int) : primW g (.cmp .Gt) [.int a, .int b] S Q = Q (.bl (decide (b < a))) S := by simp [primW, primR, cmpR]
theorem p_ge (a b : Int) : primW g (.cmp .GtE) [.int a, .int b] S Q = Q (.bl (decide (b ≤ a))) S := by simp [primW, primR, cmpR]
theorem p_abs (a : Int) : primW g (.blt .abs) [.int a] S Q = Q (.int a.natAbs) S := by
  have : (if a < 0 then -a else a) = (a.natAbs : Int) := by split <;> omega
  simp [primW, primR, bltR, this]
theorem p_int (a : Int) : primW g (.blt .int) [.int a] S Q = Q (.int a) S := by simp [primW, primR, bltR]
theorem p_max (a b : Int) : primW g (.blt .max2) [.int a, .int b] S Q = Q (.int (max a b)) S := by
  have : (if b > a then b else a) = max a b := by omega
  simp only [primW, primR, bltR, this, true_and]
theorem p_min (a b : Int) : primW g (.blt .min2) [.int a, .int b] S Q = Q (.int (min a b)) S := by
  have : (if b < a then b else a) = min a b := by omega
  simp only [primW, primR, bltR, this, true_and]
theorem p_tup (ds : List CC.D) : primW g .tup ds S Q = (ds.length ≤ sizeLine ∧ Q (.tup ds) S) := by simp [primW, primR]
theorem p_lst (ds : List CC.D) : primW g .lst ds S Q = (ds.length ≤ sizeLine ∧ Q (.ref S.length) (S ++ [.lst ds])) := by simp [primW, primR, newL]
theorem p_ixT (ds : List CC.D) (i : Int) : primW g .idx [.tup ds, .int i] S Q = onO (atI ds i) (fun d => Q d S) := by
  unfold primW primR seqD onO
  dsimp only
  cases atI ds i <;> simp
theorem p_lenT (ds : List CC.D) : primW g (.blt .len) [.tup ds] S Q = Q (.int ds.length) S := by simp [primW, primR, bltR, seqD]
theorem p_ixL {l : Nat} {ds : List CC.D} {i : Int} {d : CC.D} (h : seqAt S l = some ds) (hi : atI ds i = some d) (q : Q d S) : primW g .idx [.ref l, .int i] S Q := by
  unfold primW primR seqD
  dsimp only
  rw [h]
  dsimp only
  rw [hi]
  exact ⟨trivial, q⟩
theorem p_lenL {l : Nat} {ds : List CC.D} (h : seqAt S l = some ds) (q : Q (.int ds.length) S) : primW g (.blt .len) [.ref l] S Q := by
  unfold primW primR bltR seqD
  dsimp only
  rw [h]
  exact ⟨trivial, q⟩
end

/-! ### one step at a time -/
section
variable {g : Bool} {φ : Phi} {σ : Sd} {S : Store} {Q : Post} {E : EPost} {D : EndsD}
theorem sd_cons (n : Nat) (d : CC.D) (ds : List CC.D) : startD (n + 1) (d :: ds) = some d :: startD n ds := by
  unfold startD
  simp
theorem sd_nil (n : Nat) : startD (n + 1) [] = none :: startD n [] := by
  unfold startD
  simp [List.replicate_succ]
theorem sd_zero : startD 0 [] = [] := rfl
theorem wF {T : Nat → Option Fn} {k f : Nat} {fn : Fn} {ds : List CC.D} (h : T f = some fn) : wpF T (k + 1) f ds S Q E = (ds.length = fn.ps.length ∧ wpSs fn.g (wpF T k) fn.body { nx := fun _ S1 => Q .non S1, rt := Q, ex := fun x _ S1 => E x S1 } (startD fn.N.length ds) S) := by
  simp only [wpF, h]
theorem w_var (i : Nat) : wpE g φ (.var i) σ S Q E = onV σ[i]? (fun d => Q d S) := by simp only [wpE]; rfl
theorem w_const (d : CC.D) : wpE g φ (.const d) σ S Q E = Q d S := by simp only [wpE]
theorem w_glob (x : Str) (d : CC.D) : wpE g φ (.glob x d) σ S Q E = Q d S := by simp only [wpE]
theorem w_prim (p : Prim) (es : Exs) : wpE g φ (.prim p es) σ S Q E = wpAs g φ es σ S (fun ds S1 => primW g p ds S1 Q) E := by simp only [wpE]
theorem w_meth (p : Prim) (o : Ex) (es : Exs) : wpE g φ (.meth p o es) σ S Q E = wpE g φ o σ S (fun d S1 => isL d S1 = true ∧ wpAs g φ es σ S1 (fun ds S2 => primW g p (d :: ds) S2 Q) E) E := by simp only [wpE]
theorem w_cut (a b c : Ex) : wpE g φ (.cut a b c) σ S Q E = wpE g φ a σ S (fun x S1 => wpE g φ b σ S1 (fun y S2 => isI y = true ∧ wpE g φ c σ S2 (fun z S3 => primW g (.slc true true) [x, y, z] S3 Q) E) E) E := by simp only [wpE]
theorem w_not (a : Ex) : wpE g φ (.notE a) σ S Q E = wpE g φ a σ S (fun d S1 => onN (truth d S1) fun b => Q (.bl (!b)) S1) E := by simp only [wpE]; rfl
theorem w_and (a b : Ex) : wpE g φ (.andE a b) σ S Q E = wpE g φ a σ S (fun d S1 => onB (truth d S1) (wpE g φ b σ S1 Q E) (Q d S1)) E := by simp only [wpE]; rfl
theorem w_or (a b : Ex) : wpE g φ (.orE a b) σ S Q E = wpE g φ a σ S (fun d S1 => onB (truth d S1) (Q d S1) (wpE g φ b σ S1 Q E)) E := by simp only [wpE]; rfl
theorem w_one (a : Ex) : wpE g φ (.one a) σ S Q E = wpE g φ a σ S Q E := by simp only [wpE]
theorem w_ite (c a b : Ex) : wpE g φ (.ite c a b) σ S Q E = wpE g φ c σ S (fun d S1 => onB (truth d S1) (wpE g φ a σ S1 Q E) (wpE g φ b σ S1 Q E)) E := by simp only [wpE]; rfl
theorem w_chain (op op' : CmpOp) (a b c : Ex) : wpE g φ (.chain op op' a b c) σ S Q E = wpE g φ a σ S (fun x S1 => wpE g φ b σ S1 (fun y S2 => primW g (.cmp op) [x, y] S2 fun z S3 => onD z (wpE g φ c σ S3 (fun w S4 => primW g (.cmp op') [y, w] S4 Q) E) (Q (.bl false) S3)) E) E := by simp only [wpE]; rfl
theorem w_call (f : Nat) (es : Exs) : wpE g φ (.call f es) σ S Q E = wpAs g φ es σ S (fun ds S1 => φ f ds S1 Q E) E := by simp only [wpE]
theorem w_callk (f : Nat) (es : Exs) (ks : List Str) (kes : Exs) (perm : List Nat) : wpE g φ (.callk f es ks kes perm) σ S Q E = wpAs g φ es σ S (fun ds S1 => wpAs g φ kes σ S1 (fun ks S2 => onL (pick (ds ++ ks) perm) fun rs => φ f rs S2 Q E) E) E := by simp only [wpE]; rfl
theorem wa_nil {Q : List CC.D → Store → Prop} : wpAs g φ .nil σ S Q E = Q [] S := by simp only [wpAs]
theorem wa_cons {Q : List CC.D → Store → Prop} (a : Ex) (r : Exs) : wpAs g φ (.cons a r) σ S Q E = wpE g φ a σ S (fun d S1 => wpAs g φ r σ S1 (fun ds S2 => Q (d :: ds) S2) E) E := by simp only [wpAs]
theorem wt_name {Q : Sd → Store → Prop} (i : Nat) (d : CC.D) : wpTg g φ (.name i) d σ S Q E = Q (σ.set i (some d)) S := by simp only [wpTg]
theorem wt_tup {Q : Sd → Store → Prop} (ts : Tgs) (d : CC.D) : wpTg g φ (.tup ts) d σ S Q E = onL (seqD S d) (fun ds => ds.length = tgsLen ts ∧ wpTgs g φ ts ds σ S Q E) := by simp only [wpTg]; rfl
theorem wts_nil {Q : Sd → Store → Prop} : wpTgs g φ .nil [] σ S Q E = Q σ S := by simp only [wpTgs]
theorem wts_cons {Q : Sd → Store → Prop} (t : Tg) (r : Tgs) (d : CC.D) (ds : List CC.D) : wpTgs g φ (.cons t r) (d :: ds) σ S Q E = wpTg g φ t d σ S (fun σ1 S1 => wpTgs g φ r ds σ1 S1 Q E) E := by simp only [wpTgs]
theorem wt_sub {Q : Sd → Store → Prop} (o i : Ex) (d : CC.D) : wpTg g φ (.sub o i) d σ S Q E = wpE g φ o σ S (fun x S1 => wpE g φ i σ S1 (fun y S2 => onSet x y S2 d (Q σ)) (fun _ _ => False)) (fun _ _ => False) := by simp only [wpTg]; rfl
theorem ws_nil : wpSs g φ .nil D σ S = D.nx σ S := by simp only [wpSs]
theorem ws_cons (a : Sm) (r : Sms) : wpSs g φ (.cons a r) D σ S = wpS g φ a { D with nx := fun σ1 S1 => wpSs g φ r D σ1 S1 } σ S := by simp only [wpSs]
theorem w_expr (e : Ex) : wpS g φ (.expr e) D σ S = wpE g φ e σ S (fun _ S1 => D.nx σ S1) (fun x S1 => D.ex x σ S1) := by simp only [wpS]
theorem w_asg (t : Tg) (e : Ex) : wpS g φ (.asg t e) D σ S = wpE g φ e σ S (fun d S1 => wpTg g φ t d σ S1 D.nx (fun x S2 => D.ex x σ S2)) (fun x S1 => D.ex x σ S1) := by simp only [wpS]
theorem w_setc (i : Nat) (e : Ex) : wpS g φ (.setc i e) D σ S = wpE g φ e σ S (fun d S1 => D.nx (σ.set i (some d)) S1) (fun x S1 => D.ex x σ S1) := by simp only [wpS]
theorem w_par2 (i j : Nat) (es : Exs) : wpS g φ (.par2 i j es) D σ S = wpAs g φ es σ S (fun ds S1 => on2 ds fun a b => D.nx ((σ.set i (some a)).set j (some b)) S1) (fun x S1 => D.ex x σ S1) := by simp only [wpS]; rfl
theorem w_par3 (i j l : Nat) (es : Exs) : wpS g φ (.par3 i j l es) D σ S = wpAs g φ es σ S (fun ds S1 => on3 ds fun a b c => D.nx (((σ.set i (some a)).set j (some b)).set l (some c)) S1) (fun x S1 => D.ex x σ S1) := by simp only [wpS]; rfl
theorem w_aug (i : Nat) (op : Operator) (e : Ex) : wpS g φ (.aug i op e) D σ S = onV σ[i]? (fun x => wpE g φ e σ S (fun y S1 => onAug op x y fun z => D.nx (σ.set i (some z)) S1) (fun x S1 => D.ex x σ S1)) := by simp only [wpS]; rfl
theorem w_ret (e : Ex) : wpS g φ (.ret e) D σ S = wpE g φ e σ S D.rt (fun x S1 => D.ex x σ S1) := by simp only [wpS]
theorem w_retN : wpS g φ .retN D σ S = D.rt .non S := by simp only [wpS]
theorem w_ifs (c : Ex) (a b : Sms) : wpS g φ (.ifs c a b) D σ S = wpE g φ c σ S (fun d S1 => onB (truth d S1) (wpSs g φ a D σ S1) (wpSs g φ b D σ S1)) (fun x S1 => D.ex x σ S1) := by simp only [wpS]; rfl
theorem w_never : wpS g φ .never D σ S = False := by simp only [wpS]
theorem seqD_tup (ds : List CC.D) : seqD S (.tup ds) = some ds := rfl
end

/-! ### places -/
theorem ixN_nat {n i : Nat} (h : i < n) : ixN n (i : Int) = some i := by
  unfold ixN
  rw [if_pos (by omega), if_pos (by omega)]
  simp
theorem atI_nat {α : Type} {xs : List α} {i : Nat} {v : α} (h : xs[i]? = some v) : atI xs (i : Int) = some v := by
  unfold atI
  rw [ixN_nat (List.getElem?_eq_some_iff.mp h).1]
  exact h
theorem atI_0 {α : Type} (x : α) (xs : List α) : atI (x :: xs) 0 = some x := atI_nat (i := 0) (by simp)
theorem atI_1 {α : Type} (x y : α) (xs : List α) : atI (x :: y :: xs) 1 = some y := atI_nat (i := 1) (by simp)
theorem atI_2 {α : Type} (x y z : α) (xs : List α) : atI (x :: y :: z :: xs) 2 = some z := atI_nat (i := 2) (by simp)
theorem atI_back {α : Type} {xs : List α} {i : Nat} {v : α} (hi : 0 < i) (hl : i ≤ xs.length) (h : xs[xs.length - i]? = some v) : atI xs (-(i : Int)) = some v := by
  unfold atI ixN
  rw [if_neg (by omega), if_pos (by omega)]
  have : (-(i : Int) + (xs.length : Int)).toNat = xs.length - i := by omega
  rw [this]
  exact h
theorem get_ints {ns : List Int} {i : Nat} {x : D} (h : (ns.map D.int)[i]? = some x) : ∃ n, ns[i]? = some n ∧ x = .int n := by
  rw [List.getElem?_map] at h
  cases e : ns[i]? with
  | none => rw [e] at h; cases h
  | some n => rw [e] at h; cases h; exact ⟨n, rfl, rfl⟩
theorem ok_one {S : Store} {l : Nat} {ds xs : List D} (h : seqAt S l = some ds) : Src.ok ⟨xs, [(l, ds)]⟩ S := fun p hp => by
  rw [List.mem_singleton.mp hp]
  exact h
theorem ok_nil {S : Store} {xs : List D} : Src.ok ⟨xs, []⟩ S := fun p hp => nomatch hp
theorem fmod_nat (x m : Nat) : ((x : Int).fmod (m : Int)) = ((x % m : Nat) : Int) := by
  rw [Int.fmod_eq_emod_of_nonneg _ (by omega)]
  simp
theorem map_some {α β : Type} (f : α → β) (F : D → Option D) (i : α → D) (o : β → D) (h : ∀ a, F (i a) = some (o (f a))) : ∀ xs : List α, (xs.map i).filterMap F = (xs.map f).map o
  | [] => rfl
  | a :: r => by
    rw [List.map_cons, List.filterMap_cons, h a, List.map_cons, List.map_cons, map_some f F i o h r]
theorem filter_some {α : Type} (p : α → Bool) (F : D → Option D) (i : α → D) (h : ∀ a, F (i a) = if p a then some (i a) else none) : ∀ xs : List α, (xs.map i).filterMap F = (xs.filter p).map i
  | [] => rfl
  | a :: r => by
    rw [List.map_cons, List.filterMap_cons, h a, List.filter_cons, filter_some p F i h r]
    cases p a <;> simp

section
variable {g : Bool} {S : Store} {Q : Post}
theorem shapedT2 (a b : Int) : SeqAt.shaped (.tuple [.int a, .int b]) = true := by
  unfold SeqAt.shaped
  simp [PyData.canLay0, PyData.canLayAll0, PyData.depth, PyData.depthAll]
theorem eqvT2 (a b c d : Int) : PyData.eqv (.tuple [.int a, .int b]) (.tuple [.int c, .int d]) = (decide (a = c) && decide (b = d)) := by
  simp only [PyData.eqv, PyData.eqvAll, Bool.and_true]
  congr 1 <;> (rw [Bool.eq_iff_iff]; simp)
theorem denT2 (n : Nat) (a b : Int) : den (n + 1) S (.tup [.int a, .int b]) = some (.tuple [.int a, .int b]) := by
  simp only [den, denL, den_int]
theorem p_eqT2 (a b c d : Int) : primW g (.cmp .Eq) [.tup [.int a, .int b], .tup [.int c, .int d]] S Q = Q (.bl (decide (a = c) && decide (b = d))) S := by
  simp [primW, primR, cmpR, deep, denT2, shapedT2, eqvT2]
theorem p_neT2 (a b c d : Int) : primW g (.cmp .NotEq) [.tup [.int a, .int b], .tup [.int c, .int d]] S Q = Q (.bl (!(decide (a = c) && decide (b = d)))) S := by
  simp [primW, primR, cmpR, deep, denT2, shapedT2, eqvT2]
theorem p_isT (ds : List D) : primW g (.isa .tuple) [.tup ds] S Q = Q (.bl true) S := by simp [primW, primR, isaR]
theorem p_isI (i : Int) : primW g (.isa .int) [.int i] S Q = Q (.bl true) S := by simp [primW, primR, isaR]
theorem p_isB (i : Int) : primW g (.isa .bool) [.int i] S Q = Q (.bl false) S := by simp [primW, primR, isaR]
theorem p_all {l : Nat} {bs : List Bool} (h : seqAt S l = some (bs.map D.bl)) (q : Q (.bl (bs.all id)) S) : primW g (.blt .all) [.ref l] S Q := by
  have e : ∀ bs : List Bool, boolsOf (bs.map D.bl) = some bs := fun bs => by
    induction bs with
    | nil => rfl
    | cons b r ih => simp only [List.map_cons, boolsOf, ih]
  unfold primW primR bltR
  dsimp only
  rw [h]
  dsimp only
  rw [e]
  exact ⟨trivial, q⟩
end

/-- a statement, then the others from what it leaves -/
theorem cutS {g : Bool} {φ : Phi} (hφ : PhiMono φ) {a : Sm} {r : Sms} {D : EndsD} {σ : Sd} {S : Store} (P : Sd → Store → Prop) (h1 : wpS g φ a { D with nx := P } σ S) (h2 : ∀ σ1 S1, P σ1 S1 → wpSs g φ r D σ1 S1) : wpSs g φ (.cons a r) D σ S := by
  simp only [wpSs]
  refine wpS_mono hφ a (D := { D with nx := P }) ?_ h1
  exact ⟨h2, fun _ _ z => z, fun _ _ z => z, fun _ _ z => z, fun _ _ _ z => z⟩
/-- an expression, then what is wanted -/
theorem cutE {g : Bool} {φ : Phi} (hφ : PhiMono φ) {m : Ex} {σ : Sd} {S : Store} {Q : Post} {E : EPost} (P : Post) (h1 : wpE g φ m σ S P E) (h2 : ∀ d S1, P d S1 → Q d S1) : wpE g φ m σ S Q E := wpE_mono hφ m h2 (fun _ _ z => z) h1
end CC
/-! Texts of data, comparisons of lists. -/
namespace CC
open PySem L2
mutual
def nodes : PyData → Nat
  | .list xs => nodesAll xs + 1
  | .tuple xs => nodesAll xs + 1
  | .none => 1
  | .bool _ => 1
  | .int _ => 1
  | .str _ => 1
  | .dict _ => 1
def nodesAll : List PyData → Nat
  | [] => 0
  | x :: xs => nodes x + nodesAll xs
end
mutual
def SmallD (b : Nat) : PyData → Prop
  | .list xs => SmallAll b xs
  | .tuple xs => SmallAll b xs
  | .none => True
  | .bool _ => True
  | .int i => Bd b i
  | .str _ => False
  | .dict _ => False
def SmallAll (b : Nat) : List PyData → Prop
  | [] => True
  | x :: xs => SmallD b x ∧ SmallAll b xs
end
mutual
theorem small_weight {b : Nat} : ∀ d : PyData, SmallD b d → d.weight + 1 ≤ nodes d * (b + 2)
  | .list xs, h => by
    simp only [SmallD] at h
    have := small_weightAll xs h
    simp only [PyData.weight, nodes, Nat.add_mul]
    omega
  | .tuple xs, h => by
    simp only [SmallD] at h
    have := small_weightAll xs h
    simp only [PyData.weight, nodes, Nat.add_mul]
    omega
  | .none, _ => by simp only [PyData.weight, nodes]; omega
  | .bool _, _ => by simp only [PyData.weight, nodes]; omega
  | .int i, h => by
    simp only [SmallD] at h
    have := h.bits
    simp only [PyData.weight, nodes]
    unfold Builtin.Int.intBits at this
    omega
  | .str _, h => by simp only [SmallD] at h
  | .dict _, h => by simp only [SmallD] at h
theorem small_weightAll {b : Nat} : ∀ xs : List PyData, SmallAll b xs → PyData.weightAll xs ≤ nodesAll xs * (b + 2)
  | [], _ => by simp only [PyData.weightAll, nodesAll]; omega
  | x :: xs, h => by
    simp only [SmallAll] at h
    have h1 := small_weight x h.1
    have h2 := small_weightAll xs h.2
    simp only [PyData.weightAll, nodesAll, Nat.add_mul]
    omega
end
theorem two_le_ten : ∀ n : Nat, 2 ^ n ≤ 10 ^ n
  | 0 => Nat.le_refl _
  | n + 1 => by
    have := two_le_ten n
    rw [Nat.pow_succ, Nat.pow_succ]
    omega
mutual
theorem small_leaves {b : Nat} (hb : 0 < b) : ∀ d : PyData, SmallD b d → d.leavesShort (b + 1) = true
  | .list xs, h => by
    simp only [SmallD] at h
    simp only [PyData.leavesShort]
    exact small_leavesAll hb xs h
  | .tuple xs, h => by
    simp only [SmallD] at h
    simp only [PyData.leavesShort]
    exact small_leavesAll hb xs h
  | .none, _ => by simp only [PyData.leavesShort]
  | .bool _, _ => by simp only [PyData.leavesShort]
  | .int i, h => by
    simp only [SmallD] at h
    simp only [PyData.leavesShort, decide_eq_true_eq]
    rw [PyData.shown_int, ofString_length]
    exact int_text_length_le10 hb (Nat.lt_of_lt_of_le h (two_le_ten b))
  | .str _, h => by simp only [SmallD] at h
  | .dict _, h => by simp only [SmallD] at h
theorem small_leavesAll {b : Nat} (hb : 0 < b) : ∀ xs : List PyData, SmallAll b xs → PyData.leavesShortAll (b + 1) xs = true
  | [], _ => by simp only [PyData.leavesShortAll]
  | x :: xs, h => by
    simp only [SmallAll] at h
    simp only [PyData.leavesShortAll, Bool.and_eq_true]
    exact ⟨small_leaves hb x h.1, small_leavesAll hb xs h.2⟩
end
mutual
theorem small_show {b : Nat} (hb : b ≤ 1900) : ∀ d : PyData, SmallD b d → d.showable = true ∧ d.canLay0 = true
  | .list xs, h => by
    simp only [SmallD] at h
    simp only [PyData.showable, PyData.canLay0]
    exact small_showAll hb xs h
  | .tuple xs, h => by
    simp only [SmallD] at h
    simp only [PyData.showable, PyData.canLay0]
    exact small_showAll hb xs h
  | .none, _ => by simp only [PyData.showable, PyData.canLay0, and_self]
  | .bool _, _ => by simp only [PyData.showable, PyData.canLay0, and_self]
  | .int i, h => by
    simp only [SmallD] at h
    simp only [PyData.showable, PyData.canLay0, decide_eq_true_eq, and_true]
    exact log2_lt_of (Bd.mono h (n := 1920) (by omega)) (by decide)
  | .str _, h => by simp only [SmallD] at h
  | .dict _, h => by simp only [SmallD] at h
theorem small_showAll {b : Nat} (hb : b ≤ 1900) : ∀ xs : List PyData, SmallAll b xs → PyData.showableAll xs = true ∧ PyData.canLayAll0 xs = true
  | [], _ => by simp only [PyData.showableAll, PyData.canLayAll0, and_self]
  | x :: xs, h => by
    simp only [SmallAll] at h
    simp only [PyData.showableAll, PyData.canLayAll0, Bool.and_eq_true]
    have h1 := small_show hb x h.1
    have h2 := small_showAll hb xs h.2
    exact ⟨⟨h1.1, h2.1⟩, h1.2, h2.2⟩
end
/-- repr of small data -/
theorem repr_ok {b : Nat} {d : PyData} (h : SmallD b d) (h1 : 7 ≤ b) (h2 : b ≤ 1900) (hd : d.depth ≤ 64) (hs : (b + 3) * (nodes d * (b + 2)) + b + 1 ≤ sizeLine) : SeqAt.shaped d = true ∧ PyData.showable d = true ∧ d.shown.length ≤ sizeLine := by
  obtain ⟨s1, s2⟩ := small_show h2 d h
  refine ⟨?_, s1, ?_⟩
  · unfold SeqAt.shaped
    rw [s2, decide_eq_true hd]
    rfl
  · have l := PyData.shown_le (b + 1) (by omega) d (small_leaves (by omega) d h)
    have w := small_weight d h
    have : (b + 1 + 2) * d.weight ≤ (b + 3) * (nodes d * (b + 2)) := Nat.mul_le_mul (by omega) (by omega)
    omega
theorem small_ints {b : Nat} : ∀ {ns : List Int}, (∀ n ∈ ns, Bd b n) → SmallAll b (ns.map .int)
  | [], _ => by simp only [List.map_nil, SmallAll]
  | n :: r, h => by
    simp only [List.map_cons, SmallAll, SmallD]
    exact ⟨h n List.mem_cons_self, small_ints fun m hm => h m (List.mem_cons_of_mem _ hm)⟩
theorem nodes_ints : ∀ ns : List Int, nodesAll (ns.map .int) = ns.length
  | [] => rfl
  | n :: r => by
    simp only [List.map_cons, nodesAll, nodes, List.length_cons, nodes_ints r]
    omega
theorem depth_ints : ∀ ns : List Int, PyData.depthAll (ns.map .int) = 0
  | [] => by simp only [List.map_nil, PyData.depthAll]
  | n :: r => by simp only [List.map_cons, PyData.depthAll, PyData.depth, depth_ints r, Nat.max_self]
theorem denL_ints {f : D → Option PyData} (h : ∀ i, f (.int i) = some (.int i)) : ∀ ns : List Int, denL f (ns.map D.int) = some (ns.map .int)
  | [] => rfl
  | n :: r => by
    simp only [List.map_cons, denL, h, denL_ints h r]
theorem den_ints {S : Store} {l : Nat} {ns : List Int} (h : seqAt S l = some (ns.map D.int)) (n : Nat) : den (n + 1) S (.ref l) = some (.list (ns.map .int)) := by
  simp only [den, h, denL_ints (den_int n S)]
theorem eqv_ints : ∀ ns ms : List Int, PyData.eqvAll (ns.map .int) (ms.map .int) = decide (ns = ms)
  | [], [] => rfl
  | [], m :: ms => by simp only [List.map_nil, List.map_cons, PyData.eqvAll]; rfl
  | n :: ns, [] => by simp only [List.map_nil, List.map_cons, PyData.eqvAll]; rfl
  | n :: ns, m :: ms => by
    simp only [List.map_cons, PyData.eqvAll, eqv_ints ns ms, eqv_int]
    rw [Bool.eq_iff_iff]
    simp
theorem lay_ints : ∀ ns : List Int, PyData.canLayAll0 (ns.map .int) = true
  | [] => by simp only [List.map_nil, PyData.canLayAll0]
  | n :: r => by simp only [List.map_cons, PyData.canLayAll0, PyData.canLay0, lay_ints r, Bool.and_self]
theorem shaped_ints (ns : List Int) : SeqAt.shaped (.list (ns.map .int)) = true := by
  unfold SeqAt.shaped
  simp only [PyData.canLay0, lay_ints, PyData.depth, depth_ints]
  rfl
section
variable {g : Bool} {S : Store} {Q : Post}
theorem p_ixE {l : Nat} {ds : List D} (h : seqAt S l = some ds) (i : Int) : primW g .idx [.ref l, .int i] S Q = onO (atI ds i) fun d => Q d S := by
  unfold primW primR seqD onO
  dsimp only
  rw [h]
  dsimp only
  cases atI ds i <;> simp
theorem p_lenE {l : Nat} {ds : List D} (h : seqAt S l = some ds) : primW g (.blt .len) [.ref l] S Q = Q (.int ds.length) S := by
  unfold primW primR bltR seqD
  dsimp only
  rw [h]
  simp
theorem p_eqL {l m : Nat} {ns ms : List Int} (h1 : seqAt S l = some (ns.map D.int)) (h2 : seqAt S m = some (ms.map D.int)) (q : Q (.bl (decide (ns = ms))) S) : primW g (.cmp .Eq) [.ref l, .ref m] S Q := by
  unfold primW primR cmpR
  simp only [den_ints h1, den_ints h2, deep, shaped_ints, and_self, PyData.eqv, eqv_ints]
  exact ⟨trivial, q⟩
theorem p_neL {l m : Nat} {ns ms : List Int} (h1 : seqAt S l = some (ns.map D.int)) (h2 : seqAt S m = some (ms.map D.int)) (q : Q (.bl (!decide (ns = ms))) S) : primW g (.cmp .NotEq) [.ref l, .ref m] S Q := by
  unfold primW primR cmpR
  simp only [den_ints h1, den_ints h2, deep, shaped_ints, and_self, PyData.eqv, eqv_ints]
  exact ⟨trivial, q⟩
theorem p_repr {d : D} {a : PyData} (h : den deep S d = some a) (h1 : SeqAt.shaped a = true ∧ PyData.showable a = true ∧ a.shown.length ≤ sizeLine) (q : Q (.str a.shown) S) : primW true .repr [d] S Q := by
  unfold primW primR
  simp only [if_true, h]
  exact ⟨h1, q⟩
theorem p_neS (a b : Str) : primW g (.cmp .NotEq) [.str a, .str b] S Q = Q (.bl (!decide (a = b))) S := by simp [primW, primR, cmpR]
theorem p_eqS (a b : Str) : primW g (.cmp .Eq) [.str a, .str b] S Q = Q (.bl (decide (a = b))) S := by simp [primW, primR, cmpR]
/-- a point among two -/
theorem p_inT2 (a b p q r s : Int) : primW g (.cmp .In) [.tup [.int a, .int b], .tup [.tup [.int p, .int q], .tup [.int r, .int s]]] S Q = Q (.bl ((decide (p = a) && decide (q = b)) || (decide (r = a) && decide (s = b)))) S := by
  have e : SeqAt.shaped (.tuple [.tuple [.int p, .int q], .tuple [.int r, .int s]]) = true := by
    unfold SeqAt.shaped
    simp [PyData.canLay0, PyData.canLayAll0, PyData.depth, PyData.depthAll]
  simp [primW, primR, cmpR, deep, denT2, shapedT2, eqvT2, den, denL, e]
/-- [x] * k -/
theorem p_rep {l : Nat} {xs : List D} {k : Nat} (h : S[l]? = some (.lst xs)) (hk : k < 2 ^ 60) (hz : xs.length * k ≤ sizeLine) (q : Q (.ref S.length) (S ++ [.lst (List.replicate k xs).flatten])) : primW g (.bin .Mult) [.ref l, .int k] S Q := by
  unfold primW primR binR
  simp only [h, newL]
  exact ⟨⟨by omega, by omega, by simpa using hz⟩, by simpa using q⟩
theorem p_app {l : Nat} {xs : List D} {y : D} (h : S[l]? = some (.lst xs)) (hz : xs.length < sizeLine) (q : Q .non (S.set l (.lst (xs ++ [y])))) : primW g .app [.ref l, y] S Q := by
  unfold primW primR
  simp only [h]
  exact ⟨hz, q⟩
theorem isL_of {l : Nat} {xs : List D} (h : S[l]? = some (.lst xs)) : isL (.ref l) S = true := by
  unfold isL
  simp only [h]
end
end CC
/-! The functions of the texts as terms (printed by gen.py). -/
namespace CC
open PySem
/-- number 6 -/
def f_common_divisor : Fn := ⟨"common_divisor", ["one", "other"], ["one", "other"], false,
  (.cons (.par2 0 1 (.cons (.prim (.blt .abs) (.cons (.var 0) .nil)) (.cons (.prim (.blt .abs) (.cons (.var 1) .nil)) .nil))) (.cons (.whil (.prim (.cmp .NotEq) (.cons (.var 1) (.cons (.const (.int 0)) .nil)))
    (.cons (.par2 0 1 (.cons (.var 1) (.cons (.prim (.bin .Mod) (.cons (.var 0) (.cons (.var 1) .nil))) .nil))) .nil)) (.cons (.ret (.var 0)) .nil))), none, false⟩

/-- number 27 -/
def f_divided : Fn := ⟨"divided", ["numbers"], ["numbers", "divisor", "number", "first", "sign"], false,
  (.cons (.asg (.name 1) (.const (.int 0))) (.cons (.fors (.name 2) .seq (.cons (.var 0) .nil)
    (.cons (.asg (.name 1) (.call 6 (.cons (.var 1) (.cons (.var 2) .nil)))) .nil)) (.cons (.asg (.name 3) (.prim .idx (.cons (.comp (.var 2) (.name 2) .seq (.cons (.var 0) .nil) (.cons (.prim (.cmp .NotEq) (.cons (.var 2) (.cons (.const (.int 0)) .nil))) .nil) [("number", 2)]) (.cons (.const (.int 0)) .nil)))) (.cons (.asg (.name 4) (.ite (.prim (.cmp .Gt) (.cons (.var 3) (.cons (.const (.int 0)) .nil))) (.var 1) (.prim .neg (.cons (.var 1) .nil)))) (.cons (.ret (.comp (.prim (.bin .FloorDiv) (.cons (.var 2) (.cons (.var 4) .nil))) (.name 2) .seq (.cons (.var 0) .nil) .nil [("number", 2)])) .nil))))), none, false⟩

/-- number 7 -/
def f_point_of : Fn := ⟨"point_of", ["top", "bottom"], ["top", "bottom", "divisor", "sign"], false,
  (.cons (.ifs (.prim (.cmp .Eq) (.cons (.var 1) (.cons (.const (.int 0)) .nil)))
    (.cons (.ret (.glob "ENDLESS" (.tup [(.int 1), (.int 0)]))) .nil)
    .nil) (.cons (.asg (.name 2) (.call 6 (.cons (.var 0) (.cons (.var 1) .nil)))) (.cons (.asg (.name 3) (.ite (.prim (.cmp .Gt) (.cons (.var 1) (.cons (.const (.int 0)) .nil))) (.var 2) (.prim .neg (.cons (.var 2) .nil)))) (.cons (.ret (.prim .tup (.cons (.prim (.bin .FloorDiv) (.cons (.var 0) (.cons (.var 3) .nil))) (.cons (.prim (.bin .FloorDiv) (.cons (.var 1) (.cons (.var 3) .nil))) .nil)))) .nil)))), none, false⟩

/-- number 8 -/
def f_is_integer : Fn := ⟨"is_integer", ["value"], ["value"], false,
  (.cons (.ret (.andE (.prim (.isa .int) (.cons (.var 0) .nil)) (.one (.notE (.prim (.isa .bool) (.cons (.var 0) .nil)))))) .nil), none, false⟩

/-- number 9 -/
def f_is_point : Fn := ⟨"is_point", ["value"], ["value", "number"], false,
  (.cons (.ifs (.orE (.notE (.prim (.isa .tuple) (.cons (.var 0) .nil))) (.orE (.prim (.cmp .NotEq) (.cons (.prim (.blt .len) (.cons (.var 0) .nil)) (.cons (.const (.int 2)) .nil))) (.one (.notE (.prim (.blt .all) (.cons (.comp (.call 8 (.cons (.var 1) .nil)) (.name 1) .seq (.cons (.var 0) .nil) .nil [("number", 1)]) .nil))))))
    (.cons (.ret (.const (.bl false))) .nil)
    .nil) (.cons (.ret (.andE (.prim (.cmp .NotEq) (.cons (.var 0) (.cons (.prim .tup (.cons (.const (.int 0)) (.cons (.const (.int 0)) .nil))) .nil))) (.one (.prim (.cmp .Eq) (.cons (.call 7 (.cons (.prim .idx (.cons (.var 0) (.cons (.const (.int 0)) .nil))) (.cons (.prim .idx (.cons (.var 0) (.cons (.const (.int 1)) .nil))) .nil))) (.cons (.var 0) .nil)))))) .nil)), none, false⟩

/-- number 19 -/
def f_check_point : Fn := ⟨"check_point", ["point"], ["point"], false,
  (.cons (.ifs (.notE (.call 9 (.cons (.var 0) .nil)))
    (.cons .never .nil)
    .nil) .nil), none, false⟩

/-- number 235 -/
def f_terms_of : Fn := ⟨"terms_of", ["first", "second"], ["first", "second", "p", "q", "r", "s"], false,
  (.cons (.asg (.tup (.cons (.tup (.cons (.name 2) (.cons (.name 3) .nil))) (.cons (.tup (.cons (.name 4) (.cons (.name 5) .nil))) .nil))) (.prim .tup (.cons (.var 0) (.cons (.var 1) .nil)))) (.cons (.ret (.prim .tup (.cons (.prim (.bin .Mult) (.cons (.var 2) (.cons (.var 4) .nil))) (.cons (.prim (.bin .Add) (.cons (.prim (.bin .Mult) (.cons (.var 2) (.cons (.var 5) .nil))) (.cons (.prim (.bin .Mult) (.cons (.var 4) (.cons (.var 3) .nil))) .nil))) (.cons (.prim (.bin .Mult) (.cons (.var 3) (.cons (.var 5) .nil))) .nil))))) .nil)), none, false⟩

/-- number 236 -/
def f_side : Fn := ⟨"side", ["first", "second"], ["first", "second", "product", "cross", "bottom"], false,
  (.cons (.expr (.call 19 (.cons (.var 0) .nil))) (.cons (.expr (.call 19 (.cons (.var 1) .nil))) (.cons (.asg (.tup (.cons (.name 2) (.cons (.name 3) (.cons (.name 4) .nil)))) (.call 235 (.cons (.var 0) (.cons (.var 1) .nil)))) (.cons (.ret (.call 27 (.cons (.prim .lst (.cons (.var 3) (.cons (.prim .neg (.cons (.var 4) .nil)) (.cons (.prim .neg (.cons (.var 2) .nil)) .nil)))) .nil))) .nil)))), none, false⟩

/-- number 0 -/
def f_law_pool : Fn := ⟨"_law_pool", ["script", "spot"], ["script", "spot", "cell"], false,
  (.cons (.asg (.name 2) (.const (.int 0))) (.cons (.ifs (.prim (.cmp .Lt) (.cons (.var 1) (.cons (.prim (.blt .len) (.cons (.var 0) .nil)) .nil)))
    (.cons (.asg (.name 2) (.prim .idx (.cons (.var 0) (.cons (.var 1) .nil)))) .nil)
    .nil) (.cons (.ret (.prim .lst (.cons (.prim (.blt .max2) (.cons (.const (.int 0)) (.cons (.prim (.bin .Sub) (.cons (.prim (.blt .abs) (.cons (.var 2) .nil)) (.cons (.prim (.bin .Pow) (.cons (.const (.int 10)) (.cons (.const (.int 18)) .nil))) .nil))) .nil))) (.cons (.prim (.bin .Add) (.cons (.prim (.bin .Mod) (.cons (.prim (.blt .int) (.cons (.var 2) .nil)) (.cons (.const (.int 2305843009213693951)) .nil))) (.cons (.prim (.bin .Mult) (.cons (.const (.int 7368787)) (.cons (.prim (.bin .Add) (.cons (.var 1) (.cons (.const (.int 1)) .nil))) .nil))) .nil))) (.cons (.const (.int 0)) .nil))))) .nil))), none, false⟩

/-- number 1 -/
def f_law_draw : Fn := ⟨"_law_draw", ["pool", "span"], ["pool", "span", "drawn", "mixed"], false,
  (.cons (.ifs (.prim (.cmp .Gt) (.cons (.prim .idx (.cons (.var 0) (.cons (.const (.int 0)) .nil))) (.cons (.const (.int 0)) .nil)))
    (.cons (.asg (.name 2) (.prim (.bin .Mod) (.cons (.prim (.blt .int) (.cons (.prim .idx (.cons (.var 0) (.cons (.const (.int 0)) .nil))) .nil)) (.cons (.var 1) .nil)))) (.cons (.asg (.sub (.var 0) (.const (.int 0))) (.prim (.bin .FloorDiv) (.cons (.prim .idx (.cons (.var 0) (.cons (.const (.int 0)) .nil))) (.cons (.var 1) .nil)))) (.cons (.ret (.var 2)) .nil)))
    .nil) (.cons (.asg (.sub (.var 0) (.const (.int 2))) (.prim (.bin .Add) (.cons (.prim .idx (.cons (.var 0) (.cons (.const (.int 2)) .nil))) (.cons (.const (.int 1)) .nil)))) (.cons (.asg (.name 3) (.prim (.bin .Mod) (.cons (.prim (.blt .int) (.cons (.prim (.bin .Pow) (.cons (.prim (.bin .Add) (.cons (.prim .idx (.cons (.var 0) (.cons (.const (.int 1)) .nil))) (.cons (.prim (.bin .Mult) (.cons (.const (.int 15485863)) (.cons (.prim .idx (.cons (.var 0) (.cons (.const (.int 2)) .nil))) .nil))) .nil))) (.cons (.const (.int 3)) .nil))) .nil)) (.cons (.const (.int 162259276829213363391578010288127)) .nil)))) (.cons (.asg (.name 3) (.prim (.bin .Mod) (.cons (.prim (.blt .int) (.cons (.prim (.bin .Pow) (.cons (.prim (.bin .Add) (.cons (.var 3) (.cons (.prim (.bin .Mult) (.cons (.const (.int 32452843)) (.cons (.prim .idx (.cons (.var 0) (.cons (.const (.int 2)) .nil))) .nil))) .nil))) (.cons (.const (.int 3)) .nil))) .nil)) (.cons (.const (.int 170141183460469231731687303715884105727)) .nil)))) (.cons (.ret (.prim (.bin .Mod) (.cons (.prim (.blt .int) (.cons (.prim (.bin .FloorDiv) (.cons (.var 3) (.cons (.const (.int 1048576)) .nil))) .nil)) (.cons (.var 1) .nil)))) .nil))))), none, false⟩

/-- number 10 -/
def f_law_low : Fn := ⟨"_law_low", ["over", "under"], ["over", "under", "left", "right"], false,
  (.cons (.ifs (.prim (.cmp .Eq) (.cons (.var 1) (.cons (.const (.int 0)) .nil)))
    (.cons (.ret (.prim .tup (.cons (.const (.int 1)) (.cons (.const (.int 0)) .nil)))) .nil)
    .nil) (.cons (.par2 2 3 (.cons (.prim (.blt .abs) (.cons (.var 0) .nil)) (.cons (.prim (.blt .abs) (.cons (.var 1) .nil)) .nil))) (.cons (.whil (.prim (.cmp .NotEq) (.cons (.var 3) (.cons (.const (.int 0)) .nil)))
    (.cons (.par2 2 3 (.cons (.var 3) (.cons (.prim (.bin .Mod) (.cons (.prim (.blt .int) (.cons (.var 2) .nil)) (.cons (.var 3) .nil))) .nil))) .nil)) (.cons (.asg (.name 2) (.ite (.prim (.cmp .Gt) (.cons (.var 1) (.cons (.const (.int 0)) .nil))) (.var 2) (.prim (.bin .Sub) (.cons (.const (.int 0)) (.cons (.var 2) .nil))))) (.cons (.ret (.prim .tup (.cons (.prim (.bin .FloorDiv) (.cons (.var 0) (.cons (.var 2) .nil))) (.cons (.prim (.bin .FloorDiv) (.cons (.var 1) (.cons (.var 2) .nil))) .nil)))) .nil))))), none, false⟩

/-- number 30 -/
def f_law_plain : Fn := ⟨"_law_plain", ["numbers_here"], ["numbers_here", "part", "some", "left", "right"], false,
  (.cons (.asg (.name 1) (.const (.int 0))) (.cons (.fors (.name 2) .seq (.cons (.var 0) .nil)
    (.cons (.par2 3 4 (.cons (.prim (.blt .abs) (.cons (.var 2) .nil)) (.cons (.var 1) .nil))) (.cons (.whil (.prim (.cmp .NotEq) (.cons (.var 4) (.cons (.const (.int 0)) .nil)))
    (.cons (.par2 3 4 (.cons (.var 4) (.cons (.prim (.bin .Mod) (.cons (.prim (.blt .int) (.cons (.var 3) .nil)) (.cons (.var 4) .nil))) .nil))) .nil)) (.cons (.asg (.name 1) (.var 3)) .nil)))) (.cons (.ifs (.prim (.cmp .Lt) (.cons (.prim .idx (.cons (.comp (.var 2) (.name 2) .seq (.cons (.var 0) .nil) (.cons (.prim (.cmp .NotEq) (.cons (.var 2) (.cons (.const (.int 0)) .nil))) .nil) [("some", 2)]) (.cons (.const (.int 0)) .nil))) (.cons (.const (.int 0)) .nil)))
    (.cons (.asg (.name 1) (.prim (.bin .Sub) (.cons (.const (.int 0)) (.cons (.var 1) .nil)))) .nil)
    .nil) (.cons (.ret (.comp (.prim (.bin .FloorDiv) (.cons (.var 2) (.cons (.var 1) .nil))) (.name 2) .seq (.cons (.var 0) .nil) .nil [("some", 2)])) .nil)))), none, false⟩

/-- number 170 -/
def f_law_spot : Fn := ⟨"_law_spot", ["pool"], ["pool", "top", "bottom"], false,
  (.cons (.par2 1 2 (.cons (.prim (.bin .Sub) (.cons (.call 1 (.cons (.var 0) (.cons (.const (.int 9)) .nil))) (.cons (.const (.int 4)) .nil))) (.cons (.call 1 (.cons (.var 0) (.cons (.const (.int 4)) .nil))) .nil))) (.cons (.ifs (.prim (.cmp .Eq) (.cons (.call 1 (.cons (.var 0) (.cons (.const (.int 6)) .nil))) (.cons (.const (.int 0)) .nil)))
    (.cons (.par2 1 2 (.cons (.prim (.bin .Sub) (.cons (.call 1 (.cons (.var 0) (.cons (.prim (.bin .Add) (.cons (.prim (.bin .Mult) (.cons (.const (.int 2)) (.cons (.prim (.bin .Pow) (.cons (.const (.int 10)) (.cons (.const (.int 6)) .nil))) .nil))) (.cons (.const (.int 1)) .nil))) .nil))) (.cons (.prim (.bin .Pow) (.cons (.const (.int 10)) (.cons (.const (.int 6)) .nil))) .nil))) (.cons (.prim (.bin .Add) (.cons (.const (.int 1)) (.cons (.call 1 (.cons (.var 0) (.cons (.prim (.bin .Pow) (.cons (.const (.int 10)) (.cons (.const (.int 6)) .nil))) .nil))) .nil))) .nil))) .nil)
    .nil) (.cons (.ret (.ite (.orE (.prim (.cmp .NotEq) (.cons (.var 1) (.cons (.const (.int 0)) .nil))) (.one (.prim (.cmp .NotEq) (.cons (.var 2) (.cons (.const (.int 0)) .nil))))) (.call 10 (.cons (.var 1) (.cons (.var 2) .nil))) (.prim .tup (.cons (.const (.int 0)) (.cons (.const (.int 1)) .nil))))) .nil))), none, false⟩

/-- number 237 -/
def f_law_due_1 : Fn := ⟨"_law_due", ["here", "there"], ["here", "there", "top", "bottom", "p", "q", "r", "s", "one_here", "two_here", "with_x", "with_y"], false,
  (.cons (.ifs (.prim (.cmp .In) (.cons (.prim .tup (.cons (.const (.int 1)) (.cons (.const (.int 0)) .nil))) (.cons (.prim .tup (.cons (.var 0) (.cons (.var 1) .nil))) .nil)))
    (.cons (.ifs (.prim (.cmp .Eq) (.cons (.var 0) (.cons (.var 1) .nil)))
    (.cons (.ret (.prim .lst (.cons (.const (.int 0)) (.cons (.const (.int 0)) (.cons (.const (.int 1)) .nil))))) .nil)
    .nil) (.cons (.asg (.tup (.cons (.name 2) (.cons (.name 3) .nil))) (.ite (.prim (.cmp .Eq) (.cons (.var 0) (.cons (.prim .tup (.cons (.const (.int 1)) (.cons (.const (.int 0)) .nil))) .nil))) (.var 1) (.var 0))) (.cons (.ret (.call 30 (.cons (.prim .lst (.cons (.var 3) (.cons (.const (.int 0)) (.cons (.prim (.bin .Sub) (.cons (.const (.int 0)) (.cons (.var 2) .nil))) .nil)))) .nil))) .nil)))
    .nil) (.cons (.asg (.tup (.cons (.tup (.cons (.name 4) (.cons (.name 5) .nil))) (.cons (.tup (.cons (.name 6) (.cons (.name 7) .nil))) .nil))) (.prim .tup (.cons (.var 0) (.cons (.var 1) .nil)))) (.cons (.ifs (.prim (.cmp .Eq) (.cons (.var 0) (.cons (.var 1) .nil)))
    (.cons (.ret (.call 30 (.cons (.prim .lst (.cons (.prim (.bin .Mult) (.cons (.prim (.bin .Mult) (.cons (.const (.int 2)) (.cons (.var 4) .nil))) (.cons (.var 5) .nil))) (.cons (.prim (.bin .Sub) (.cons (.const (.int 0)) (.cons (.prim (.bin .Mult) (.cons (.var 5) (.cons (.var 5) .nil))) .nil))) (.cons (.prim (.bin .Sub) (.cons (.const (.int 0)) (.cons (.prim (.bin .Mult) (.cons (.var 4) (.cons (.var 4) .nil))) .nil))) .nil)))) .nil))) .nil)
    .nil) (.cons (.par2 8 9 (.cons (.prim .lst (.cons (.prim (.bin .Mult) (.cons (.var 5) (.cons (.var 5) .nil))) (.cons (.prim (.bin .Mult) (.cons (.var 4) (.cons (.var 5) .nil))) (.cons (.prim (.bin .Mult) (.cons (.var 4) (.cons (.var 4) .nil))) .nil)))) (.cons (.prim .lst (.cons (.prim (.bin .Mult) (.cons (.var 7) (.cons (.var 7) .nil))) (.cons (.prim (.bin .Mult) (.cons (.var 6) (.cons (.var 7) .nil))) (.cons (.prim (.bin .Mult) (.cons (.var 6) (.cons (.var 6) .nil))) .nil)))) .nil))) (.cons (.asg (.name 10) (.prim (.bin .Sub) (.cons (.prim (.bin .Mult) (.cons (.prim .idx (.cons (.var 8) (.cons (.const (.int 2)) .nil))) (.cons (.prim .idx (.cons (.var 9) (.cons (.const (.int 0)) .nil))) .nil))) (.cons (.prim (.bin .Mult) (.cons (.prim .idx (.cons (.var 8) (.cons (.const (.int 0)) .nil))) (.cons (.prim .idx (.cons (.var 9) (.cons (.const (.int 2)) .nil))) .nil))) .nil)))) (.cons (.asg (.name 11) (.prim (.bin .Sub) (.cons (.prim (.bin .Mult) (.cons (.prim .idx (.cons (.var 8) (.cons (.const (.int 0)) .nil))) (.cons (.prim .idx (.cons (.var 9) (.cons (.const (.int 1)) .nil))) .nil))) (.cons (.prim (.bin .Mult) (.cons (.prim .idx (.cons (.var 8) (.cons (.const (.int 1)) .nil))) (.cons (.prim .idx (.cons (.var 9) (.cons (.const (.int 0)) .nil))) .nil))) .nil)))) (.cons (.ret (.call 30 (.cons (.prim .lst (.cons (.var 10) (.cons (.var 11) (.cons (.prim (.bin .Sub) (.cons (.prim (.bin .Mult) (.cons (.prim .idx (.cons (.var 8) (.cons (.const (.int 1)) .nil))) (.cons (.prim .idx (.cons (.var 9) (.cons (.const (.int 2)) .nil))) .nil))) (.cons (.prim (.bin .Mult) (.cons (.prim .idx (.cons (.var 8) (.cons (.const (.int 2)) .nil))) (.cons (.prim .idx (.cons (.var 9) (.cons (.const (.int 1)) .nil))) .nil))) .nil))) .nil)))) .nil))) .nil))))))), none, false⟩

/-- number 238 -/
def f_law_right_46 : Fn := ⟨"_law_right", ["pool"], ["pool", "here", "there", "due", "told", "p", "q", "some"], true,
  (.cons (.asg (.name 1) (.call 170 (.cons (.var 0) .nil))) (.cons (.asg (.name 2) (.ite (.prim (.cmp .Eq) (.cons (.call 1 (.cons (.var 0) (.cons (.const (.int 5)) .nil))) (.cons (.const (.int 0)) .nil))) (.var 1) (.call 170 (.cons (.var 0) .nil)))) (.cons (.par2 3 4 (.cons (.call 237 (.cons (.var 1) (.cons (.var 2) .nil))) (.cons (.call 236 (.cons (.var 1) (.cons (.var 2) .nil))) .nil))) (.cons (.ifs (.prim (.cmp .NotEq) (.cons (.prim .repr (.cons (.prim .lst (.cons (.var 4) (.cons (.callk 236 .nil ["second", "first"] (.cons (.var 2) (.cons (.var 1) .nil)) [1, 0]) (.cons (.call 236 (.cons (.var 2) (.cons (.var 1) .nil))) .nil)))) .nil)) (.cons (.prim .repr (.cons (.prim (.bin .Mult) (.cons (.prim .lst (.cons (.var 3) .nil)) (.cons (.const (.int 3)) .nil))) .nil)) .nil)))
    (.cons (.ret (.const (.bl false))) .nil)
    .nil) (.cons (.fors (.tup (.cons (.name 5) (.cons (.name 6) .nil))) .seq (.cons (.comp (.var 7) (.name 7) .seq (.cons (.prim .tup (.cons (.var 1) (.cons (.var 2) .nil))) .nil) (.cons (.prim (.cmp .NotEq) (.cons (.var 7) (.cons (.prim .tup (.cons (.const (.int 1)) (.cons (.const (.int 0)) .nil))) .nil))) .nil) [("some", 7)]) .nil)
    (.cons (.ifs (.prim (.cmp .NotEq) (.cons (.prim (.bin .Add) (.cons (.prim (.bin .Add) (.cons (.prim (.bin .Mult) (.cons (.prim (.bin .Mult) (.cons (.prim .idx (.cons (.var 4) (.cons (.const (.int 0)) .nil))) (.cons (.var 5) .nil))) (.cons (.var 6) .nil))) (.cons (.prim (.bin .Mult) (.cons (.prim (.bin .Mult) (.cons (.prim .idx (.cons (.var 4) (.cons (.const (.int 1)) .nil))) (.cons (.var 5) .nil))) (.cons (.var 5) .nil))) .nil))) (.cons (.prim (.bin .Mult) (.cons (.prim (.bin .Mult) (.cons (.prim .idx (.cons (.var 4) (.cons (.const (.int 2)) .nil))) (.cons (.var 6) .nil))) (.cons (.var 6) .nil))) .nil))) (.cons (.const (.int 0)) .nil)))
    (.cons (.ret (.const (.bl false))) .nil)
    .nil) .nil)) (.cons (.expr (.meth .app (.var 4) (.cons (.const (.int 0)) .nil))) (.cons (.ret (.prim (.cmp .Eq) (.cons (.call 236 (.cons (.var 1) (.cons (.var 2) .nil))) (.cons (.var 3) .nil)))) .nil))))))), none, false⟩

/-- number 239 -/
def f_law_46 : Fn := ⟨"law", ["script"], ["script", "spot", "pool", "turn"], true,
  (.cons (.fors (.name 1) .range (.cons (.prim (.blt .max2) (.cons (.const (.int 1)) (.cons (.prim (.blt .min2) (.cons (.const (.int 8)) (.cons (.prim (.blt .len) (.cons (.var 0) .nil)) .nil))) .nil))) .nil)
    (.cons (.asg (.name 2) (.call 0 (.cons (.var 0) (.cons (.var 1) .nil)))) (.cons (.fors (.name 3) .range (.cons (.const (.int 20)) .nil)
    (.cons (.ifs (.notE (.call 238 (.cons (.var 2) .nil)))
    (.cons (.ret (.const (.bl false))) .nil)
    .nil) .nil)) .nil))) (.cons (.ret (.const (.bl true))) .nil)), none, false⟩

/-- number 28 -/
def f_quartic_of : Fn := ⟨"quartic_of", ["numbers"], ["numbers", "a", "b", "c", "d", "e", "f", "square", "product", "one", "other"], false,
  (.cons (.asg (.tup (.cons (.name 1) (.cons (.name 2) (.cons (.name 3) (.cons (.name 4) (.cons (.name 5) (.cons (.name 6) .nil))))))) (.var 0)) (.cons (.asg (.name 7) (.prim .lst (.cons (.prim (.bin .Mult) (.cons (.var 2) (.cons (.var 2) .nil))) (.cons (.prim (.bin .Mult) (.cons (.prim (.bin .Mult) (.cons (.const (.int 2)) (.cons (.var 2) .nil))) (.cons (.var 4) .nil))) (.cons (.prim (.bin .Add) (.cons (.prim (.bin .Mult) (.cons (.var 4) (.cons (.var 4) .nil))) (.cons (.prim (.bin .Mult) (.cons (.prim (.bin .Mult) (.cons (.const (.int 2)) (.cons (.var 2) .nil))) (.cons (.var 5) .nil))) .nil))) (.cons (.prim (.bin .Mult) (.cons (.prim (.bin .Mult) (.cons (.const (.int 2)) (.cons (.var 4) .nil))) (.cons (.var 5) .nil))) (.cons (.prim (.bin .Mult) (.cons (.var 5) (.cons (.var 5) .nil))) .nil))))))) (.cons (.asg (.name 8) (.prim .lst (.cons (.prim (.bin .Mult) (.cons (.var 1) (.cons (.var 3) .nil))) (.cons (.prim (.bin .Add) (.cons (.prim (.bin .Mult) (.cons (.var 1) (.cons (.var 5) .nil))) (.cons (.prim (.bin .Mult) (.cons (.var 2) (.cons (.var 3) .nil))) .nil))) (.cons (.prim (.bin .Add) (.cons (.prim (.bin .Add) (.cons (.prim (.bin .Mult) (.cons (.var 1) (.cons (.var 6) .nil))) (.cons (.prim (.bin .Mult) (.cons (.var 2) (.cons (.var 5) .nil))) .nil))) (.cons (.prim (.bin .Mult) (.cons (.var 3) (.cons (.var 3) .nil))) .nil))) (.cons (.prim (.bin .Add) (.cons (.prim (.bin .Mult) (.cons (.var 2) (.cons (.var 6) .nil))) (.cons (.prim (.bin .Mult) (.cons (.var 3) (.cons (.var 5) .nil))) .nil))) (.cons (.prim (.bin .Mult) (.cons (.var 3) (.cons (.var 6) .nil))) .nil))))))) (.cons (.ret (.comp (.prim (.bin .Sub) (.cons (.var 9) (.cons (.prim (.bin .Mult) (.cons (.const (.int 4)) (.cons (.var 10) .nil))) .nil))) (.tup (.cons (.name 9) (.cons (.name 10) .nil))) .zip (.cons (.var 7) (.cons (.var 8) .nil)) .nil [("one", 9), ("other", 10)])) .nil)))), none, false⟩

/-- number 29 -/
def f_is_straight_0 : Fn := ⟨"is_straight", ["quartic"], ["quartic", "d4", "d3", "d2", "d1", "d0", "first", "second"], false,
  (.cons (.asg (.tup (.cons (.name 1) (.cons (.name 2) (.cons (.name 3) (.cons (.name 4) (.cons (.name 5) .nil)))))) (.var 0)) (.cons (.asg (.name 6) (.prim (.bin .Add) (.cons (.prim (.bin .Sub) (.cons (.prim (.bin .Mult) (.cons (.prim (.bin .Mult) (.cons (.const (.int 12)) (.cons (.var 1) .nil))) (.cons (.var 5) .nil))) (.cons (.prim (.bin .Mult) (.cons (.prim (.bin .Mult) (.cons (.const (.int 3)) (.cons (.var 2) .nil))) (.cons (.var 4) .nil))) .nil))) (.cons (.prim (.bin .Mult) (.cons (.var 3) (.cons (.var 3) .nil))) .nil)))) (.cons (.asg (.name 7) (.prim (.bin .Sub) (.cons (.prim (.bin .Sub) (.cons (.prim (.bin .Sub) (.cons (.prim (.bin .Add) (.cons (.prim (.bin .Mult) (.cons (.prim (.bin .Mult) (.cons (.prim (.bin .Mult) (.cons (.const (.int 72)) (.cons (.var 1) .nil))) (.cons (.var 3) .nil))) (.cons (.var 5) .nil))) (.cons (.prim (.bin .Mult) (.cons (.prim (.bin .Mult) (.cons (.prim (.bin .Mult) (.cons (.const (.int 9)) (.cons (.var 2) .nil))) (.cons (.var 3) .nil))) (.cons (.var 4) .nil))) .nil))) (.cons (.prim (.bin .Mult) (.cons (.prim (.bin .Mult) (.cons (.prim (.bin .Mult) (.cons (.const (.int 27)) (.cons (.var 1) .nil))) (.cons (.var 4) .nil))) (.cons (.var 4) .nil))) .nil))) (.cons (.prim (.bin .Mult) (.cons (.prim (.bin .Mult) (.cons (.prim (.bin .Mult) (.cons (.const (.int 27)) (.cons (.var 2) .nil))) (.cons (.var 2) .nil))) (.cons (.var 5) .nil))) .nil))) (.cons (.prim (.bin .Mult) (.cons (.prim (.bin .Mult) (.cons (.prim (.bin .Mult) (.cons (.const (.int 2)) (.cons (.var 3) .nil))) (.cons (.var 3) .nil))) (.cons (.var 3) .nil))) .nil)))) (.cons (.ret (.prim (.cmp .NotEq) (.cons (.prim (.bin .Mult) (.cons (.prim (.bin .Mult) (.cons (.prim (.bin .Mult) (.cons (.const (.int 4)) (.cons (.var 6) .nil))) (.cons (.var 6) .nil))) (.cons (.var 6) .nil))) (.cons (.prim (.bin .Mult) (.cons (.var 7) (.cons (.var 7) .nil))) .nil)))) .nil)))), none, false⟩

/-- number 31 -/
def f_law_at : Fn := ⟨"_law_at", ["numbers_here", "one_here", "two_here"], ["numbers_here", "one_here", "two_here", "p", "q", "r", "s", "terms", "factor", "term"], false,
  (.cons (.asg (.tup (.cons (.tup (.cons (.name 3) (.cons (.name 4) .nil))) (.cons (.tup (.cons (.name 5) (.cons (.name 6) .nil))) .nil))) (.prim .tup (.cons (.var 1) (.cons (.var 2) .nil)))) (.cons (.asg (.name 7) (.prim .lst (.cons (.prim (.bin .Mult) (.cons (.prim (.bin .Mult) (.cons (.prim (.bin .Mult) (.cons (.var 3) (.cons (.var 3) .nil))) (.cons (.var 5) .nil))) (.cons (.var 5) .nil))) (.cons (.prim (.bin .Mult) (.cons (.prim (.bin .Mult) (.cons (.var 3) (.cons (.var 5) .nil))) (.cons (.prim (.bin .Add) (.cons (.prim (.bin .Mult) (.cons (.var 3) (.cons (.var 6) .nil))) (.cons (.prim (.bin .Mult) (.cons (.var 5) (.cons (.var 4) .nil))) .nil))) .nil))) (.cons (.prim (.bin .Add) (.cons (.prim (.bin .Mult) (.cons (.prim (.bin .Mult) (.cons (.prim (.bin .Mult) (.cons (.var 3) (.cons (.var 3) .nil))) (.cons (.var 6) .nil))) (.cons (.var 6) .nil))) (.cons (.prim (.bin .Mult) (.cons (.prim (.bin .Mult) (.cons (.prim (.bin .Mult) (.cons (.var 5) (.cons (.var 5) .nil))) (.cons (.var 4) .nil))) (.cons (.var 4) .nil))) .nil))) .nil))))) (.cons (.asg (.name 7) (.prim (.bin .Add) (.cons (.var 7) (.cons (.prim .lst (.cons (.prim (.bin .Mult) (.cons (.prim (.bin .Mult) (.cons (.prim (.bin .Mult) (.cons (.var 3) (.cons (.var 4) .nil))) (.cons (.var 5) .nil))) (.cons (.var 6) .nil))) (.cons (.prim (.bin .Mult) (.cons (.prim (.bin .Mult) (.cons (.var 4) (.cons (.var 6) .nil))) (.cons (.prim (.bin .Add) (.cons (.prim (.bin .Mult) (.cons (.var 3) (.cons (.var 6) .nil))) (.cons (.prim (.bin .Mult) (.cons (.var 5) (.cons (.var 4) .nil))) .nil))) .nil))) (.cons (.prim (.bin .Mult) (.cons (.prim (.bin .Mult) (.cons (.prim (.bin .Mult) (.cons (.var 4) (.cons (.var 4) .nil))) (.cons (.var 6) .nil))) (.cons (.var 6) .nil))) .nil)))) .nil)))) (.cons (.ret (.prim (.blt .sum) (.cons (.comp (.prim (.bin .Mult) (.cons (.var 8) (.cons (.var 9) .nil))) (.tup (.cons (.name 8) (.cons (.name 9) .nil))) .zip (.cons (.var 0) (.cons (.var 7) .nil)) .nil [("factor", 8), ("term", 9)]) .nil))) .nil)))), none, false⟩

/-- number 32 -/
def f_law_form : Fn := ⟨"_law_form", ["numbers_here", "one_here"], ["numbers_here", "one_here", "high", "low"], false,
  (.cons (.par2 2 3 (.cons (.call 31 (.cons (.var 0) (.cons (.var 1) (.cons (.prim .tup (.cons (.const (.int 1)) (.cons (.const (.int 0)) .nil))) .nil)))) (.cons (.call 31 (.cons (.var 0) (.cons (.var 1) (.cons (.prim .tup (.cons (.const (.int 0)) (.cons (.const (.int 1)) .nil))) .nil)))) .nil))) (.cons (.ret (.prim .lst (.cons (.var 2) (.cons (.prim (.bin .Sub) (.cons (.prim (.bin .Sub) (.cons (.call 31 (.cons (.var 0) (.cons (.var 1) (.cons (.prim .tup (.cons (.const (.int 1)) (.cons (.const (.int 1)) .nil))) .nil)))) (.cons (.var 2) .nil))) (.cons (.var 3) .nil))) (.cons (.var 3) .nil))))) .nil)), none, false⟩

/-- number 33 -/
def f_law_next : Fn := ⟨"_law_next", ["numbers_here", "left", "right"], ["numbers_here", "left", "right", "high", "middle", "low", "over", "under"], false,
  (.cons (.asg (.tup (.cons (.name 3) (.cons (.name 4) (.cons (.name 5) .nil)))) (.call 32 (.cons (.var 0) (.cons (.var 2) .nil)))) (.cons (.asg (.tup (.cons (.name 6) (.cons (.name 7) .nil))) (.var 1)) (.cons (.ifs (.andE (.prim (.cmp .NotEq) (.cons (.var 6) (.cons (.const (.int 0)) .nil))) (.one (.prim (.cmp .NotEq) (.cons (.var 7) (.cons (.const (.int 0)) .nil)))))
    (.cons (.ret (.call 10 (.cons (.prim (.bin .Mult) (.cons (.var 5) (.cons (.var 7) .nil))) (.cons (.prim (.bin .Mult) (.cons (.var 3) (.cons (.var 6) .nil))) .nil)))) .nil)
    .nil) (.cons (.ret (.ite (.prim (.cmp .Eq) (.cons (.var 6) (.cons (.const (.int 0)) .nil))) (.call 10 (.cons (.prim (.bin .Sub) (.cons (.const (.int 0)) (.cons (.var 4) .nil))) (.cons (.var 3) .nil))) (.call 10 (.cons (.prim (.bin .Sub) (.cons (.const (.int 0)) (.cons (.var 5) .nil))) (.cons (.var 4) .nil))))) .nil)))), none, false⟩

/-- number 34 -/
def f_law_chain : Fn := ⟨"_law_chain", ["numbers_here", "left", "right", "count_here"], ["numbers_here", "left", "right", "count_here", "found"], false,
  (.cons (.asg (.name 4) (.prim .lst (.cons (.var 1) (.cons (.var 2) .nil)))) (.cons (.whil (.prim (.cmp .Lt) (.cons (.prim (.blt .len) (.cons (.var 4) .nil)) (.cons (.var 3) .nil)))
    (.cons (.expr (.meth .app (.var 4) (.cons (.call 33 (.cons (.var 0) (.cons (.prim .idx (.cons (.var 4) (.cons (.prim .neg (.cons (.const (.int 2)) .nil)) .nil))) (.cons (.prim .idx (.cons (.var 4) (.cons (.prim .neg (.cons (.const (.int 1)) .nil)) .nil))) .nil)))) .nil))) .nil)) (.cons (.ret (.prim (.slc false true) (.cons (.var 4) (.cons (.var 3) .nil)))) .nil))), none, false⟩

/-- number 35 -/
def f_law_five : Fn := ⟨"_law_five", ["numbers_here"], ["numbers_here", "values", "spot", "high", "middle", "low", "even_one", "even_two", "odd_one", "odd_two", "fourth", "third"], false,
  (.cons (.asg (.name 1) (.prim .lst .nil)) (.cons (.fors (.name 2) .seq (.cons (.prim .tup (.cons (.const (.int 0)) (.cons (.const (.int 1)) (.cons (.prim .neg (.cons (.const (.int 1)) .nil)) (.cons (.const (.int 2)) (.cons (.prim .neg (.cons (.const (.int 2)) .nil)) .nil)))))) .nil)
    (.cons (.asg (.tup (.cons (.name 3) (.cons (.name 4) (.cons (.name 5) .nil)))) (.call 32 (.cons (.var 0) (.cons (.prim .tup (.cons (.var 2) (.cons (.const (.int 1)) .nil))) .nil)))) (.cons (.expr (.meth .app (.var 1) (.cons (.prim (.bin .Sub) (.cons (.prim (.bin .Mult) (.cons (.var 4) (.cons (.var 4) .nil))) (.cons (.prim (.bin .Mult) (.cons (.prim (.bin .Mult) (.cons (.const (.int 4)) (.cons (.var 3) .nil))) (.cons (.var 5) .nil))) .nil))) .nil))) .nil))) (.cons (.asg (.name 6) (.prim (.bin .Sub) (.cons (.prim (.bin .Add) (.cons (.prim .idx (.cons (.var 1) (.cons (.const (.int 1)) .nil))) (.cons (.prim .idx (.cons (.var 1) (.cons (.const (.int 2)) .nil))) .nil))) (.cons (.prim (.bin .Mult) (.cons (.const (.int 2)) (.cons (.prim .idx (.cons (.var 1) (.cons (.const (.int 0)) .nil))) .nil))) .nil)))) (.cons (.asg (.name 7) (.prim (.bin .Sub) (.cons (.prim (.bin .Add) (.cons (.prim .idx (.cons (.var 1) (.cons (.const (.int 3)) .nil))) (.cons (.prim .idx (.cons (.var 1) (.cons (.const (.int 4)) .nil))) .nil))) (.cons (.prim (.bin .Mult) (.cons (.const (.int 2)) (.cons (.prim .idx (.cons (.var 1) (.cons (.const (.int 0)) .nil))) .nil))) .nil)))) (.cons (.par2 8 9 (.cons (.prim (.bin .Sub) (.cons (.prim .idx (.cons (.var 1) (.cons (.const (.int 1)) .nil))) (.cons (.prim .idx (.cons (.var 1) (.cons (.const (.int 2)) .nil))) .nil))) (.cons (.prim (.bin .Sub) (.cons (.prim .idx (.cons (.var 1) (.cons (.const (.int 3)) .nil))) (.cons (.prim .idx (.cons (.var 1) (.cons (.const (.int 4)) .nil))) .nil))) .nil))) (.cons (.par2 10 11 (.cons (.prim (.bin .FloorDiv) (.cons (.prim (.bin .Sub) (.cons (.var 7) (.cons (.prim (.bin .Mult) (.cons (.const (.int 4)) (.cons (.var 6) .nil))) .nil))) (.cons (.const (.int 24)) .nil))) (.cons (.prim (.bin .FloorDiv) (.cons (.prim (.bin .Sub) (.cons (.var 9) (.cons (.prim (.bin .Mult) (.cons (.const (.int 2)) (.cons (.var 8) .nil))) .nil))) (.cons (.const (.int 12)) .nil))) .nil))) (.cons (.ret (.prim .lst (.cons (.var 10) (.cons (.var 11) (.cons (.prim (.bin .Sub) (.cons (.prim (.bin .FloorDiv) (.cons (.var 6) (.cons (.const (.int 2)) .nil))) (.cons (.var 10) .nil))) (.cons (.prim (.bin .Sub) (.cons (.prim (.bin .FloorDiv) (.cons (.var 8) (.cons (.const (.int 2)) .nil))) (.cons (.var 11) .nil))) (.cons (.prim .idx (.cons (.var 1) (.cons (.const (.int 0)) .nil))) .nil))))))) .nil))))))), none, false⟩

/-- number 36 -/
def f_law_is_straight : Fn := ⟨"_law_is_straight", ["numbers_here"], ["numbers_here", "here", "size", "left", "right", "spot", "some", "padded", "high", "low", "one_here", "two_here"], false,
  (.cons (.asg (.name 1) (.call 35 (.cons (.var 0) .nil))) (.cons (.ifs (.andE (.prim (.cmp .Eq) (.cons (.prim .idx (.cons (.var 1) (.cons (.const (.int 0)) .nil))) (.cons (.const (.int 0)) .nil))) (.one (.prim (.cmp .Eq) (.cons (.prim .idx (.cons (.var 1) (.cons (.const (.int 1)) .nil))) (.cons (.const (.int 0)) .nil)))))
    (.cons (.ret (.const (.bl false))) .nil)
    .nil) (.cons (.asg (.name 1) (.ite (.prim (.cmp .NotEq) (.cons (.prim .idx (.cons (.var 1) (.cons (.const (.int 0)) .nil))) (.cons (.const (.int 0)) .nil))) (.var 1) (.prim (.slc true false) (.cons (.var 1) (.cons (.const (.int 1)) .nil))))) (.cons (.asg (.name 2) (.prim (.bin .Sub) (.cons (.prim (.blt .len) (.cons (.var 1) .nil)) (.cons (.const (.int 1)) .nil)))) (.cons (.par2 3 4 (.cons (.var 1) (.cons (.comp (.prim (.bin .Mult) (.cons (.prim (.bin .Sub) (.cons (.var 2) (.cons (.var 5) .nil))) (.cons (.var 6) .nil))) (.tup (.cons (.name 5) (.cons (.name 6) .nil))) .enum (.cons (.prim (.slc false true) (.cons (.var 1) (.cons (.prim .neg (.cons (.const (.int 1)) .nil)) .nil))) .nil) .nil [("spot", 5), ("some", 6)]) .nil))) (.cons (.whil (.prim (.cmp .Gt) (.cons (.prim (.blt .len) (.cons (.var 4) .nil)) (.cons (.const (.int 1)) .nil)))
    (.cons (.whil (.prim (.cmp .GtE) (.cons (.prim (.blt .len) (.cons (.var 3) .nil)) (.cons (.prim (.blt .len) (.cons (.var 4) .nil)) .nil)))
    (.cons (.asg (.tup (.cons (.name 8) (.cons (.name 9) .nil))) (.prim .tup (.cons (.prim .idx (.cons (.var 3) (.cons (.const (.int 0)) .nil))) (.cons (.prim .idx (.cons (.var 4) (.cons (.const (.int 0)) .nil))) .nil)))) (.cons (.asg (.name 7) (.prim (.bin .Add) (.cons (.var 4) (.cons (.prim (.bin .Mult) (.cons (.prim .lst (.cons (.const (.int 0)) .nil)) (.cons (.prim (.bin .Sub) (.cons (.prim (.blt .len) (.cons (.var 3) .nil)) (.cons (.prim (.blt .len) (.cons (.var 4) .nil)) .nil))) .nil))) .nil)))) (.cons (.asg (.name 3) (.prim (.slc true false) (.cons (.comp (.prim (.bin .Sub) (.cons (.prim (.bin .Mult) (.cons (.var 9) (.cons (.var 10) .nil))) (.cons (.prim (.bin .Mult) (.cons (.var 8) (.cons (.var 11) .nil))) .nil))) (.tup (.cons (.name 10) (.cons (.name 11) .nil))) .zip (.cons (.var 3) (.cons (.var 7) .nil)) .nil [("one_here", 10), ("two_here", 11)]) (.cons (.const (.int 1)) .nil)))) .nil)))) (.cons (.whil (.andE (.prim (.cmp .NotEq) (.cons (.var 3) (.cons (.prim .lst .nil) .nil))) (.one (.prim (.cmp .Eq) (.cons (.prim .idx (.cons (.var 3) (.cons (.const (.int 0)) .nil))) (.cons (.const (.int 0)) .nil)))))
    (.cons (.asg (.name 3) (.prim (.slc true false) (.cons (.var 3) (.cons (.const (.int 1)) .nil)))) .nil)) (.cons (.ifs (.prim (.cmp .Eq) (.cons (.var 3) (.cons (.prim .lst .nil) .nil)))
    (.cons (.ret (.const (.bl false))) .nil)
    .nil) (.cons (.par2 3 4 (.cons (.var 4) (.cons (.call 30 (.cons (.var 3) .nil)) .nil))) .nil))))) (.cons (.ret (.prim (.cmp .NotEq) (.cons (.var 4) (.cons (.prim .lst (.cons (.const (.int 0)) .nil)) .nil)))) .nil))))))), none, false⟩

/-- number 37 -/
def f_law_tate : Fn := ⟨"_law_tate", ["pool"], ["pool", "u", "v", "kind", "less", "twice", "p", "q", "r", "t", "lead"], false,
  (.cons (.par2 1 2 (.cons (.prim (.bin .Sub) (.cons (.call 1 (.cons (.var 0) (.cons (.const (.int 9)) .nil))) (.cons (.const (.int 4)) .nil))) (.cons (.prim (.bin .Add) (.cons (.const (.int 1)) (.cons (.call 1 (.cons (.var 0) (.cons (.const (.int 3)) .nil))) .nil))) .nil))) (.cons (.par3 3 4 5 (.cons (.prim .idx (.cons (.prim .lst (.cons (.const (.int 7)) (.cons (.const (.int 8)) (.cons (.const (.int 9)) (.cons (.const (.int 10)) (.cons (.const (.int 12)) (.cons (.const (.int 5)) (.cons (.const (.int 6)) .nil)))))))) (.cons (.call 1 (.cons (.var 0) (.cons (.const (.int 7)) .nil))) .nil))) (.cons (.prim (.bin .Sub) (.cons (.var 1) (.cons (.var 2) .nil))) (.cons (.prim (.bin .Sub) (.cons (.prim (.bin .Mult) (.cons (.const (.int 2)) (.cons (.var 1) .nil))) (.cons (.var 2) .nil))) .nil)))) (.cons (.asg (.tup (.cons (.name 6) (.cons (.name 7) (.cons (.name 8) (.cons (.name 9) .nil))))) (.prim .tup (.cons (.var 1) (.cons (.var 2) (.cons (.var 1) (.cons (.var 2) .nil)))))) (.cons (.ifs (.prim (.cmp .Eq) (.cons (.var 3) (.cons (.const (.int 6)) .nil)))
    (.cons (.par2 6 7 (.cons (.prim (.bin .Mult) (.cons (.var 1) (.cons (.prim (.bin .Add) (.cons (.var 2) (.cons (.var 1) .nil))) .nil))) (.cons (.prim (.bin .Mult) (.cons (.var 2) (.cons (.var 2) .nil))) .nil))) .nil)
    .nil) (.cons (.ifs (.prim (.cmp .Eq) (.cons (.var 3) (.cons (.const (.int 7)) .nil)))
    (.cons (.par2 6 7 (.cons (.prim (.bin .Mult) (.cons (.prim (.bin .Mult) (.cons (.var 1) (.cons (.var 1) .nil))) (.cons (.var 4) .nil))) (.cons (.prim (.bin .Mult) (.cons (.prim (.bin .Mult) (.cons (.var 2) (.cons (.var 2) .nil))) (.cons (.var 2) .nil))) .nil))) (.cons (.par2 8 9 (.cons (.prim (.bin .Mult) (.cons (.var 1) (.cons (.var 4) .nil))) (.cons (.prim (.bin .Mult) (.cons (.var 2) (.cons (.var 2) .nil))) .nil))) .nil))
    .nil) (.cons (.ifs (.prim (.cmp .Eq) (.cons (.var 3) (.cons (.const (.int 8)) .nil)))
    (.cons (.par2 6 7 (.cons (.prim (.bin .Mult) (.cons (.var 5) (.cons (.var 4) .nil))) (.cons (.prim (.bin .Mult) (.cons (.var 2) (.cons (.var 2) .nil))) .nil))) (.cons (.par2 8 9 (.cons (.var 6) (.cons (.prim (.bin .Mult) (.cons (.var 1) (.cons (.var 2) .nil))) .nil))) .nil))
    .nil) (.cons (.ifs (.prim (.cmp .Eq) (.cons (.var 3) (.cons (.const (.int 9)) .nil)))
    (.cons (.par2 8 9 (.cons (.prim (.bin .Mult) (.cons (.prim (.bin .Mult) (.cons (.var 1) (.cons (.var 1) .nil))) (.cons (.var 4) .nil))) (.cons (.prim (.bin .Mult) (.cons (.prim (.bin .Mult) (.cons (.var 2) (.cons (.var 2) .nil))) (.cons (.var 2) .nil))) .nil))) (.cons (.asg (.name 6) (.prim (.bin .Mult) (.cons (.var 8) (.cons (.prim (.bin .Add) (.cons (.prim (.bin .Mult) (.cons (.var 1) (.cons (.var 4) .nil))) (.cons (.prim (.bin .Mult) (.cons (.var 2) (.cons (.var 2) .nil))) .nil))) .nil)))) (.cons (.asg (.name 7) (.prim (.bin .Mult) (.cons (.prim (.bin .Mult) (.cons (.var 9) (.cons (.var 2) .nil))) (.cons (.var 2) .nil)))) .nil)))
    .nil) (.cons (.ifs (.prim (.cmp .Eq) (.cons (.var 3) (.cons (.const (.int 10)) .nil)))
    (.cons (.asg (.name 10) (.prim (.bin .Sub) (.cons (.prim (.bin .Mult) (.cons (.var 1) (.cons (.var 2) .nil))) (.cons (.prim (.bin .Mult) (.cons (.var 4) (.cons (.var 4) .nil))) .nil)))) (.cons (.par2 8 9 (.cons (.prim (.bin .Mult) (.cons (.prim (.bin .Mult) (.cons (.var 1) (.cons (.var 5) .nil))) (.cons (.var 4) .nil))) (.cons (.prim (.bin .Mult) (.cons (.var 2) (.cons (.var 10) .nil))) .nil))) (.cons (.par2 6 7 (.cons (.prim (.bin .Mult) (.cons (.prim (.bin .Mult) (.cons (.var 8) (.cons (.var 1) .nil))) (.cons (.var 1) .nil))) (.cons (.prim (.bin .Mult) (.cons (.var 9) (.cons (.var 10) .nil))) .nil))) .nil)))
    .nil) (.cons (.ifs (.prim (.cmp .Eq) (.cons (.var 3) (.cons (.const (.int 12)) .nil)))
    (.cons (.asg (.name 8) (.prim (.bin .Mult) (.cons (.prim (.bin .Add) (.cons (.prim (.bin .Mult) (.cons (.prim (.bin .Mult) (.cons (.const (.int 3)) (.cons (.var 1) .nil))) (.cons (.var 4) .nil))) (.cons (.prim (.bin .Mult) (.cons (.var 2) (.cons (.var 2) .nil))) .nil))) (.cons (.var 1) .nil)))) (.cons (.asg (.name 8) (.prim (.bin .Sub) (.cons (.const (.int 0)) (.cons (.prim (.bin .Mult) (.cons (.var 8) (.cons (.var 5) .nil))) .nil)))) (.cons (.asg (.name 9) (.prim (.bin .Mult) (.cons (.prim (.bin .Mult) (.cons (.prim (.bin .Mult) (.cons (.var 2) (.cons (.var 4) .nil))) (.cons (.var 4) .nil))) (.cons (.var 4) .nil)))) (.cons (.asg (.name 6) (.prim (.bin .Sub) (.cons (.const (.int 0)) (.cons (.prim (.bin .Mult) (.cons (.var 8) (.cons (.prim (.bin .Add) (.cons (.prim (.bin .Mult) (.cons (.prim (.bin .Mult) (.cons (.const (.int 2)) (.cons (.var 1) .nil))) (.cons (.var 4) .nil))) (.cons (.prim (.bin .Mult) (.cons (.var 2) (.cons (.var 2) .nil))) .nil))) .nil))) .nil)))) (.cons (.asg (.name 7) (.prim (.bin .Mult) (.cons (.prim (.bin .Mult) (.cons (.var 9) (.cons (.var 2) .nil))) (.cons (.var 4) .nil)))) .nil)))))
    .nil) (.cons (.ret (.prim .tup (.cons (.prim .lst (.cons (.prim (.bin .Mult) (.cons (.prim (.bin .Mult) (.cons (.prim (.bin .Mult) (.cons (.var 7) (.cons (.var 7) .nil))) (.cons (.var 7) .nil))) (.cons (.var 9) .nil))) (.cons (.const (.int 0)) (.cons (.const (.int 0)) (.cons (.prim (.bin .Mult) (.cons (.prim (.bin .Mult) (.cons (.prim (.bin .Mult) (.cons (.var 6) (.cons (.var 7) .nil))) (.cons (.var 7) .nil))) (.cons (.prim (.bin .Sub) (.cons (.var 9) (.cons (.var 8) .nil))) .nil))) (.cons (.prim (.bin .Sub) (.cons (.const (.int 0)) (.cons (.prim (.bin .Mult) (.cons (.prim (.bin .Mult) (.cons (.prim (.bin .Mult) (.cons (.var 6) (.cons (.var 6) .nil))) (.cons (.var 7) .nil))) (.cons (.var 9) .nil))) .nil))) (.cons (.prim (.bin .Mult) (.cons (.prim (.bin .Mult) (.cons (.prim (.bin .Mult) (.cons (.var 6) (.cons (.var 6) .nil))) (.cons (.var 6) .nil))) (.cons (.var 9) .nil))) .nil))))))) (.cons (.var 3) .nil)))) .nil)))))))))), none, false⟩

/-- number 38 -/
def f_law_known : Fn := ⟨"_law_known", ["pool"], ["pool", "found", "again", "here", "some", "pair"], false,
  (.cons (.asg (.tup (.cons (.name 1) (.cons (.name 2) .nil))) (.call 37 (.cons (.var 0) .nil))) (.cons (.ifs (.andE (.prim (.cmp .Eq) (.cons (.call 1 (.cons (.var 0) (.cons (.const (.int 3)) .nil))) (.cons (.const (.int 0)) .nil))) (.andE (.prim (.cmp .NotEq) (.cons (.var 1) (.cons (.prim (.bin .Mult) (.cons (.prim .lst (.cons (.const (.int 0)) .nil)) (.cons (.const (.int 6)) .nil))) .nil))) (.one (.call 36 (.cons (.var 1) .nil)))))
    (.cons (.asg (.name 1) (.call 30 (.cons (.var 1) .nil))) (.cons (.ifs (.prim (.cmp .LtE) (.cons (.prim (.blt .max1) (.cons (.comp (.prim (.blt .abs) (.cons (.var 3) .nil)) (.name 3) .seq (.cons (.var 1) .nil) .nil [("here", 3)]) .nil)) (.cons (.prim (.bin .Pow) (.cons (.const (.int 10)) (.cons (.const (.int 8)) .nil))) .nil)))
    (.cons (.ret (.prim .tup (.cons (.var 1) (.cons (.prim .tup (.cons (.const (.int 1)) (.cons (.const (.int 0)) .nil))) (.cons (.prim .tup (.cons (.const (.int 0)) (.cons (.const (.int 1)) .nil))) (.cons (.var 2) .nil)))))) .nil)
    .nil) .nil))
    .nil) (.cons (.asg (.name 4) (.prim .lst (.cons (.prim .tup (.cons (.prim .lst (.cons (.const (.int 1)) (.cons (.const (.int 0)) (.cons (.const (.int 0)) (.cons (.const (.int 0)) (.cons (.prim .neg (.cons (.const (.int 1)) .nil)) (.cons (.const (.int 0)) .nil))))))) (.cons (.const (.int 3)) .nil))) (.cons (.prim .tup (.cons (.prim .lst (.cons (.const (.int 1)) (.cons (.const (.int 0)) (.cons (.const (.int 0)) (.cons (.const (.int 1)) (.cons (.prim .neg (.cons (.const (.int 1)) .nil)) (.cons (.const (.int 1)) .nil))))))) (.cons (.const (.int 4)) .nil))) (.cons (.prim .tup (.cons (.prim .lst (.cons (.const (.int 1)) (.cons (.const (.int 0)) (.cons (.const (.int 0)) (.cons (.const (.int 0)) (.cons (.prim .neg (.cons (.const (.int 1)) .nil)) (.cons (.const (.int 1)) .nil))))))) (.cons (.const (.int 5)) .nil))) (.cons (.prim .tup (.cons (.prim .lst (.cons (.const (.int 1)) (.cons (.const (.int 0)) (.cons (.const (.int 0)) (.cons (.const (.int 0)) (.cons (.prim .neg (.cons (.const (.int 4)) .nil)) (.cons (.const (.int 8)) .nil))))))) (.cons (.const (.int 6)) .nil))) .nil)))))) (.cons (.asg (.name 4) (.prim (.bin .Add) (.cons (.var 4) (.cons (.prim .lst (.cons (.prim .tup (.cons (.prim .lst (.cons (.const (.int 1)) (.cons (.const (.int 0)) (.cons (.const (.int 0)) (.cons (.prim .neg (.cons (.const (.int 4)) .nil)) (.cons (.prim .neg (.cons (.const (.int 16)) .nil)) (.cons (.const (.int 64)) .nil))))))) (.cons (.const (.int 7)) .nil))) (.cons (.prim .tup (.cons (.prim .lst (.cons (.const (.int 2)) (.cons (.const (.int 0)) (.cons (.const (.int 0)) (.cons (.prim .neg (.cons (.const (.int 3)) .nil)) (.cons (.prim .neg (.cons (.const (.int 18)) .nil)) (.cons (.const (.int 54)) .nil))))))) (.cons (.const (.int 8)) .nil))) (.cons (.prim .tup (.cons (.prim .lst (.cons (.const (.int 1)) (.cons (.const (.int 0)) (.cons (.const (.int 0)) (.cons (.prim .neg (.cons (.const (.int 36)) .nil)) (.cons (.prim .neg (.cons (.const (.int 144)) .nil)) (.cons (.const (.int 1728)) .nil))))))) (.cons (.const (.int 9)) .nil))) .nil)))) .nil)))) (.cons (.asg (.name 4) (.prim (.bin .Add) (.cons (.var 4) (.cons (.prim .lst (.cons (.prim .tup (.cons (.prim .lst (.cons (.const (.int 1)) (.cons (.const (.int 0)) (.cons (.const (.int 0)) (.cons (.prim .neg (.cons (.const (.int 120)) .nil)) (.cons (.prim .neg (.cons (.const (.int 576)) .nil)) (.cons (.const (.int 13824)) .nil))))))) (.cons (.const (.int 10)) .nil))) (.cons (.prim .tup (.cons (.prim .lst (.cons (.const (.int 1)) (.cons (.const (.int 0)) (.cons (.const (.int 0)) (.cons (.const (.int 9030)) (.cons (.prim .neg (.cons (.const (.int 44100)) .nil)) (.cons (.const (.int 9261000)) .nil))))))) (.cons (.const (.int 12)) .nil))) .nil))) .nil)))) (.cons (.setc 4 (.comp (.prim .tup (.cons (.prim .idx (.cons (.var 5) (.cons (.const (.int 0)) .nil))) (.cons (.prim .tup (.cons (.const (.int 1)) (.cons (.const (.int 0)) .nil))) (.cons (.prim .tup (.cons (.const (.int 0)) (.cons (.const (.int 1)) .nil))) (.cons (.prim .idx (.cons (.var 5) (.cons (.const (.int 1)) .nil))) .nil))))) (.name 5) .seq (.cons (.prim (.bin .Add) (.cons (.var 4) (.cons (.prim .lst (.cons (.prim .tup (.cons (.prim .lst (.cons (.const (.int 1)) (.cons (.const (.int 0)) (.cons (.const (.int 0)) (.cons (.const (.int 2)) (.cons (.prim .neg (.cons (.const (.int 1)) .nil)) (.cons (.const (.int 1)) .nil))))))) (.cons (.const (.int 0)) .nil))) .nil)) .nil))) .nil) .nil [("pair", 5)])) (.cons (.asg (.name 4) (.prim (.bin .Add) (.cons (.var 4) (.cons (.prim .lst (.cons (.prim .tup (.cons (.prim .lst (.cons (.const (.int 0)) (.cons (.const (.int 1)) (.cons (.const (.int 1)) (.cons (.prim .neg (.cons (.const (.int 9)) .nil)) (.cons (.const (.int 2)) (.cons (.const (.int 1)) .nil))))))) (.cons (.prim .tup (.cons (.const (.int 1)) (.cons (.const (.int 1)) .nil))) (.cons (.prim .tup (.cons (.const (.int 1)) (.cons (.const (.int 1)) .nil))) (.cons (.const (.int 5)) .nil))))) (.cons (.prim .tup (.cons (.prim .lst (.cons (.const (.int 0)) (.cons (.const (.int 2)) (.cons (.const (.int 0)) (.cons (.prim .neg (.cons (.const (.int 7)) .nil)) (.cons (.const (.int 0)) (.cons (.const (.int 2)) .nil))))))) (.cons (.prim .tup (.cons (.const (.int 1)) (.cons (.const (.int 1)) .nil))) (.cons (.prim .tup (.cons (.const (.int 2)) (.cons (.const (.int 1)) .nil))) (.cons (.const (.int 3)) .nil))))) .nil))) .nil)))) (.cons (.asg (.name 4) (.prim (.bin .Add) (.cons (.var 4) (.cons (.prim .lst (.cons (.prim .tup (.cons (.prim .lst (.cons (.const (.int 0)) (.cons (.const (.int 1)) (.cons (.const (.int 1)) (.cons (.prim .neg (.cons (.const (.int 7)) .nil)) (.cons (.const (.int 1)) (.cons (.const (.int 0)) .nil))))))) (.cons (.prim .tup (.cons (.const (.int 1)) (.cons (.const (.int 1)) .nil))) (.cons (.prim .tup (.cons (.const (.int 2)) (.cons (.const (.int 1)) .nil))) (.cons (.const (.int 6)) .nil))))) (.cons (.prim .tup (.cons (.prim .lst (.cons (.const (.int 1)) (.cons (.const (.int 0)) (.cons (.const (.int 1)) (.cons (.prim .neg (.cons (.const (.int 5)) .nil)) (.cons (.const (.int 0)) (.cons (.const (.int 1)) .nil))))))) (.cons (.prim .tup (.cons (.const (.int 1)) (.cons (.const (.int 1)) .nil))) (.cons (.prim .tup (.cons (.const (.int 2)) (.cons (.const (.int 1)) .nil))) (.cons (.const (.int 4)) .nil))))) .nil))) .nil)))) (.cons (.ret (.prim .idx (.cons (.var 4) (.cons (.call 1 (.cons (.var 0) (.cons (.const (.int 14)) .nil))) .nil)))) .nil))))))))), none, false⟩

/-- number 39 -/
def f_law_start : Fn := ⟨"_law_start", ["pool"], ["pool", "one_here", "two_here", "numbers_here", "turn", "scale", "last", "some", "found", "chain_here", "spot", "here"], false,
  (.cons (.asg (.name 1) (.prim .tup (.cons (.prim (.bin .Sub) (.cons (.call 1 (.cons (.var 0) (.cons (.const (.int 9)) .nil))) (.cons (.const (.int 4)) .nil))) (.cons (.prim (.bin .Add) (.cons (.const (.int 1)) (.cons (.call 1 (.cons (.var 0) (.cons (.const (.int 2)) .nil))) .nil))) .nil)))) (.cons (.asg (.name 2) (.prim .tup (.cons (.prim (.bin .Sub) (.cons (.call 1 (.cons (.var 0) (.cons (.const (.int 9)) .nil))) (.cons (.const (.int 4)) .nil))) (.cons (.prim (.bin .Add) (.cons (.const (.int 1)) (.cons (.call 1 (.cons (.var 0) (.cons (.const (.int 3)) .nil))) .nil))) .nil)))) (.cons (.par2 1 2 (.cons (.call 10 (.cons (.prim .idx (.cons (.var 1) (.cons (.const (.int 0)) .nil))) (.cons (.prim .idx (.cons (.var 1) (.cons (.const (.int 1)) .nil))) .nil))) (.cons (.call 10 (.cons (.prim .idx (.cons (.var 2) (.cons (.const (.int 0)) .nil))) (.cons (.prim .idx (.cons (.var 2) (.cons (.const (.int 1)) .nil))) .nil))) .nil))) (.cons (.setc 3 (.comp (.prim (.bin .Sub) (.cons (.call 1 (.cons (.var 0) (.cons (.const (.int 7)) .nil))) (.cons (.const (.int 3)) .nil))) (.name 4) .range (.cons (.const (.int 5)) .nil) .nil [("turn", 4)])) (.cons (.asg (.name 5) (.prim (.bin .Pow) (.cons (.prim (.bin .Mult) (.cons (.prim .idx (.cons (.var 1) (.cons (.const (.int 1)) .nil))) (.cons (.prim .idx (.cons (.var 2) (.cons (.const (.int 1)) .nil))) .nil))) (.cons (.const (.int 2)) .nil)))) (.cons (.asg (.name 6) (.prim (.bin .Sub) (.cons (.const (.int 0)) (.cons (.call 31 (.cons (.prim (.bin .Add) (.cons (.var 3) (.cons (.prim .lst (.cons (.const (.int 0)) .nil)) .nil))) (.cons (.var 1) (.cons (.var 2) .nil)))) .nil)))) (.cons (.asg (.name 3) (.prim (.bin .Add) (.cons (.comp (.prim (.bin .Mult) (.cons (.var 5) (.cons (.var 7) .nil))) (.name 7) .seq (.cons (.var 3) .nil) .nil [("some", 7)]) (.cons (.prim .lst (.cons (.var 6) .nil)) .nil)))) (.cons (.ifs (.andE (.prim (.cmp .Gt) (.cons (.call 1 (.cons (.var 0) (.cons (.const (.int 4)) .nil))) (.cons (.const (.int 0)) .nil))) (.andE (.prim (.cmp .NotEq) (.cons (.var 3) (.cons (.prim (.bin .Mult) (.cons (.prim .lst (.cons (.const (.int 0)) .nil)) (.cons (.const (.int 6)) .nil))) .nil))) (.one (.call 36 (.cons (.var 3) .nil)))))
    (.cons (.ret (.prim .tup (.cons (.call 30 (.cons (.var 3) .nil)) (.cons (.var 1) (.cons (.var 2) .nil))))) .nil)
    .nil) (.cons (.asg (.name 8) (.call 38 (.cons (.var 0) .nil))) (.cons (.asg (.name 9) (.call 34 (.cons (.prim .idx (.cons (.var 8) (.cons (.const (.int 0)) .nil))) (.cons (.prim .idx (.cons (.var 8) (.cons (.const (.int 1)) .nil))) (.cons (.prim .idx (.cons (.var 8) (.cons (.const (.int 2)) .nil))) (.cons (.const (.int 8)) .nil)))))) (.cons (.asg (.name 10) (.call 1 (.cons (.var 0) (.cons (.const (.int 6)) .nil)))) (.cons (.ifs (.prim (.cmp .Gt) (.cons (.prim (.blt .max1) (.cons (.comp (.prim (.blt .max2) (.cons (.prim (.blt .abs) (.cons (.prim .idx (.cons (.var 11) (.cons (.const (.int 0)) .nil))) .nil)) (.cons (.prim .idx (.cons (.var 11) (.cons (.const (.int 1)) .nil))) .nil))) (.name 11) .seq (.cons (.cut (.var 9) (.var 10) (.prim (.bin .Add) (.cons (.var 10) (.cons (.const (.int 2)) .nil)))) .nil) .nil [("here", 11)]) .nil)) (.cons (.prim (.bin .Pow) (.cons (.const (.int 10)) (.cons (.const (.int 6)) .nil))) .nil)))
    (.cons (.asg (.name 10) (.const (.int 0))) .nil)
    .nil) (.cons (.ret (.prim .tup (.cons (.prim .idx (.cons (.var 8) (.cons (.const (.int 0)) .nil))) (.cons (.prim .idx (.cons (.var 9) (.cons (.var 10) .nil))) (.cons (.prim .idx (.cons (.var 9) (.cons (.prim (.bin .Add) (.cons (.var 10) (.cons (.const (.int 1)) .nil))) .nil))) .nil))))) .nil))))))))))))), none, false⟩

/-- number 40 -/
def f_law_great : Fn := ⟨"_law_great", ["pool"], ["pool", "numbers_here", "one_here", "two_here", "turn"], false,
  (.cons (.ifs (.prim (.cmp .Eq) (.cons (.call 1 (.cons (.var 0) (.cons (.const (.int 2)) .nil))) (.cons (.const (.int 0)) .nil)))
    (.cons (.par2 2 3 (.cons (.prim .tup (.cons (.prim (.bin .Sub) (.cons (.call 1 (.cons (.var 0) (.cons (.const (.int 5)) .nil))) (.cons (.const (.int 2)) .nil))) (.cons (.const (.int 1)) .nil))) (.cons (.prim .tup (.cons (.prim (.bin .Sub) (.cons (.call 1 (.cons (.var 0) (.cons (.const (.int 5)) .nil))) (.cons (.const (.int 2)) .nil))) (.cons (.const (.int 1)) .nil))) .nil))) (.cons (.setc 1 (.comp (.prim (.bin .Sub) (.cons (.call 1 (.cons (.var 0) (.cons (.prim (.bin .Add) (.cons (.prim (.bin .Mult) (.cons (.const (.int 2)) (.cons (.prim (.bin .Pow) (.cons (.const (.int 10)) (.cons (.const (.int 6)) .nil))) .nil))) (.cons (.const (.int 1)) .nil))) .nil))) (.cons (.prim (.bin .Pow) (.cons (.const (.int 10)) (.cons (.const (.int 6)) .nil))) .nil))) (.name 4) .range (.cons (.const (.int 5)) .nil) .nil [("turn", 4)])) (.cons (.asg (.name 1) (.prim (.bin .Add) (.cons (.var 1) (.cons (.prim .lst (.cons (.prim (.bin .Sub) (.cons (.const (.int 0)) (.cons (.call 31 (.cons (.prim (.bin .Add) (.cons (.var 1) (.cons (.prim .lst (.cons (.const (.int 0)) .nil)) .nil))) (.cons (.var 2) (.cons (.var 3) .nil)))) .nil))) .nil)) .nil)))) .nil)))
    (.cons (.par2 2 3 (.cons (.prim .tup (.cons (.prim (.bin .Sub) (.cons (.call 1 (.cons (.var 0) (.cons (.prim (.bin .Add) (.cons (.prim (.bin .Mult) (.cons (.const (.int 2)) (.cons (.prim (.bin .Pow) (.cons (.const (.int 10)) (.cons (.const (.int 6)) .nil))) .nil))) (.cons (.const (.int 1)) .nil))) .nil))) (.cons (.prim (.bin .Pow) (.cons (.const (.int 10)) (.cons (.const (.int 6)) .nil))) .nil))) (.cons (.const (.int 1)) .nil))) (.cons (.prim .tup (.cons (.const (.int 0)) (.cons (.const (.int 1)) .nil))) .nil))) (.cons (.setc 1 (.comp (.prim (.bin .Sub) (.cons (.call 1 (.cons (.var 0) (.cons (.const (.int 199)) .nil))) (.cons (.const (.int 99)) .nil))) (.name 4) .range (.cons (.const (.int 5)) .nil) .nil [("turn", 4)])) (.cons (.asg (.sub (.var 1) (.const (.int 2))) (.const (.int 0))) (.cons (.expr (.meth .app (.var 1) (.cons (.prim (.bin .Sub) (.cons (.const (.int 0)) (.cons (.prim (.bin .Mult) (.cons (.prim .idx (.cons (.var 1) (.cons (.const (.int 4)) .nil))) (.cons (.prim .idx (.cons (.var 2) (.cons (.const (.int 0)) .nil))) .nil))) .nil))) .nil))) .nil))))) (.cons (.ifs (.andE (.prim (.cmp .NotEq) (.cons (.var 1) (.cons (.prim (.bin .Mult) (.cons (.prim .lst (.cons (.const (.int 0)) .nil)) (.cons (.const (.int 6)) .nil))) .nil))) (.one (.call 36 (.cons (.var 1) .nil))))
    (.cons (.ret (.prim .tup (.cons (.call 30 (.cons (.var 1) .nil)) (.cons (.var 2) (.cons (.var 3) .nil))))) .nil)
    .nil) (.cons (.ret (.prim (.slc false true) (.cons (.call 38 (.cons (.var 0) .nil)) (.cons (.const (.int 3)) .nil)))) .nil))), none, false⟩

/-- number 41 -/
def f_law_right_4 : Fn := ⟨"_law_right", ["pool"], ["pool", "numbers_here", "factor", "passed", "some", "due", "made", "again", "told", "mate", "twin", "thing"], true,
  (.cons (.asg (.name 1) (.prim .idx (.cons (.prim .idx (.cons (.prim .lst (.cons (.call 39 (.cons (.var 0) .nil)) (.cons (.call 40 (.cons (.var 0) .nil)) .nil))) (.cons (.call 1 (.cons (.var 0) (.cons (.const (.int 2)) .nil))) .nil))) (.cons (.const (.int 0)) .nil)))) (.cons (.asg (.name 2) (.prim .idx (.cons (.prim .lst (.cons (.const (.int 1)) (.cons (.prim .neg (.cons (.const (.int 1)) .nil)) (.cons (.const (.int 2)) (.cons (.prim .neg (.cons (.const (.int 3)) .nil)) (.cons (.const (.int 7)) .nil)))))) (.cons (.call 1 (.cons (.var 0) (.cons (.const (.int 5)) .nil))) .nil)))) (.cons (.setc 3 (.comp (.prim (.bin .Mult) (.cons (.var 2) (.cons (.var 4) .nil))) (.name 4) .seq (.cons (.var 1) .nil) .nil [("some", 4)])) (.cons (.ifs (.prim (.cmp .Gt) (.cons (.prim (.blt .max1) (.cons (.comp (.prim (.blt .abs) (.cons (.var 4) .nil)) (.name 4) .seq (.cons (.var 3) .nil) .nil [("some", 4)]) .nil)) (.cons (.prim (.bin .Pow) (.cons (.const (.int 10)) (.cons (.const (.int 8)) .nil))) .nil)))
    (.cons (.asg (.name 3) (.prim (.blt .list) (.cons (.var 1) .nil))) .nil)
    .nil) (.cons (.asg (.name 5) (.call 30 (.cons (.var 1) .nil))) (.cons (.asg (.tup (.cons (.name 6) (.cons (.name 7) .nil))) (.prim .tup (.cons (.make 1 354 (.cons (.var 3) .nil)) (.cons (.makek 1 354 .nil ["numbers"] (.cons (.prim (.blt .list) (.cons (.var 1) .nil)) .nil) [0]) .nil)))) (.cons (.expr (.meth .app (.var 3) (.cons (.const (.int 1)) .nil))) (.cons (.asg (.sub (.var 3) (.const (.int 0))) (.prim (.bin .Add) (.cons (.prim .idx (.cons (.var 3) (.cons (.const (.int 0)) .nil))) (.cons (.const (.int 1)) .nil)))) (.cons (.asg (.name 8) (.prop [(1, 355)] (.var 6) "numbers")) (.cons (.ifs (.orE (.prim (.cmp .NotEq) (.cons (.prim .repr (.cons (.var 8) .nil)) (.cons (.prim .repr (.cons (.var 5) .nil)) .nil))) (.orE (.prim (.cmp .NotEq) (.cons (.var 6) (.cons (.var 7) .nil))) (.one (.notE (.prim (.cmp .Eq) (.cons (.var 6) (.cons (.var 7) .nil)))))))
    (.cons (.ret (.const (.bl false))) .nil)
    .nil) (.cons (.asg (.sub (.var 8) (.const (.int 3))) (.prim (.bin .Add) (.cons (.prim .idx (.cons (.var 8) (.cons (.const (.int 3)) .nil))) (.cons (.const (.int 1)) .nil)))) (.cons (.expr (.meth .app (.var 8) (.cons (.const (.int 0)) .nil))) (.cons (.asg (.name 9) (.prim .idx (.cons (.call 39 (.cons (.var 0) .nil)) (.cons (.const (.int 0)) .nil)))) (.cons (.asg (.name 10) (.make 1 354 (.cons (.var 9) .nil))) (.cons (.ifs (.orE (.prim (.cmp .NotEq) (.cons (.prop [(1, 355)] (.var 6) "numbers") (.cons (.var 5) .nil))) (.orE (.prim (.cmp .NotEq) (.cons (.prim (.cmp .Eq) (.cons (.var 6) (.cons (.var 10) .nil))) (.cons (.prim (.cmp .Eq) (.cons (.var 5) (.cons (.call 30 (.cons (.var 9) .nil)) .nil))) .nil))) (.one (.prim (.cmp .Eq) (.cons (.prim (.cmp .NotEq) (.cons (.var 6) (.cons (.var 10) .nil))) (.cons (.prim (.cmp .Eq) (.cons (.var 6) (.cons (.var 10) .nil))) .nil))))))
    (.cons (.ret (.const (.bl false))) .nil)
    .nil) (.cons (.ret (.prim (.cmp .Eq) (.cons (.comp (.const (.int 1)) (.name 11) .seq (.cons (.prim .tup (.cons (.var 5) (.cons (.prim (.blt .tuple) (.cons (.var 5) .nil)) (.cons (.prim .repr (.cons (.var 5) .nil)) (.cons (.const .non) (.cons (.const (.int 0)) (.cons (.prim .idx (.cons (.var 5) (.cons (.const (.int 0)) .nil))) .nil))))))) .nil) (.cons (.prim (.cmp .Eq) (.cons (.var 6) (.cons (.var 11) .nil))) .nil) [("thing", 11)]) (.cons (.prim .lst .nil) .nil)))) .nil)))))))))))))))), none, false⟩

/-- number 42 -/
def f_law_4 : Fn := ⟨"law", ["script"], ["script", "spot", "pool", "turn"], true,
  (.cons (.fors (.name 1) .range (.cons (.prim (.blt .max2) (.cons (.const (.int 1)) (.cons (.prim (.blt .min2) (.cons (.const (.int 6)) (.cons (.prim (.blt .len) (.cons (.var 0) .nil)) .nil))) .nil))) .nil)
    (.cons (.asg (.name 2) (.call 0 (.cons (.var 0) (.cons (.var 1) .nil)))) (.cons (.fors (.name 3) .range (.cons (.const (.int 6)) .nil)
    (.cons (.ifs (.notE (.call 41 (.cons (.var 2) .nil)))
    (.cons (.ret (.const (.bl false))) .nil)
    .nil) .nil)) .nil))) (.cons (.ret (.const (.bl true))) .nil)), none, false⟩

/-- number 354 -/
def f_Relation_init_0 : Fn := ⟨"__init__", ["self", "numbers"], ["self", "numbers"], false,
  (.cons (.ifs (.prim (.cmp .NotEq) (.cons (.prim (.blt .len) (.cons (.var 1) .nil)) (.cons (.const (.int 6)) .nil)))
    (.cons .never .nil)
    .nil) (.cons (.ifs (.notE (.call 29 (.cons (.call 28 (.cons (.var 1) .nil)) .nil)))
    (.cons .never .nil)
    .nil) (.cons (.setf [1] (.var 0) "kept_numbers" (.prim (.blt .tuple) (.cons (.call 27 (.cons (.var 1) .nil)) .nil))) .nil))), some "Relation", false⟩

/-- number 355 -/
def f_Relation_numbers : Fn := ⟨"numbers", ["self"], ["self"], false,
  (.cons (.ret (.prim (.blt .list) (.cons (.fld [1] (.var 0) "kept_numbers") .nil))) .nil), some "Relation", true⟩

/-- number 48 -/
def f_form_at : Fn := ⟨"form_at", ["numbers", "point"], ["numbers", "point", "a", "b", "c", "d", "e", "f", "p", "q"], false,
  (.cons (.asg (.tup (.cons (.tup (.cons (.name 2) (.cons (.name 3) (.cons (.name 4) (.cons (.name 5) (.cons (.name 6) (.cons (.name 7) .nil))))))) (.cons (.tup (.cons (.name 8) (.cons (.name 9) .nil))) .nil))) (.prim .tup (.cons (.var 0) (.cons (.var 1) .nil)))) (.cons (.ret (.prim .tup (.cons (.prim (.bin .Add) (.cons (.prim (.bin .Add) (.cons (.prim (.bin .Mult) (.cons (.prim (.bin .Mult) (.cons (.var 2) (.cons (.var 8) .nil))) (.cons (.var 8) .nil))) (.cons (.prim (.bin .Mult) (.cons (.prim (.bin .Mult) (.cons (.var 3) (.cons (.var 8) .nil))) (.cons (.var 9) .nil))) .nil))) (.cons (.prim (.bin .Mult) (.cons (.prim (.bin .Mult) (.cons (.var 4) (.cons (.var 9) .nil))) (.cons (.var 9) .nil))) .nil))) (.cons (.prim (.bin .Add) (.cons (.prim (.bin .Add) (.cons (.prim (.bin .Mult) (.cons (.prim (.bin .Mult) (.cons (.var 3) (.cons (.var 8) .nil))) (.cons (.var 8) .nil))) (.cons (.prim (.bin .Mult) (.cons (.prim (.bin .Mult) (.cons (.var 5) (.cons (.var 8) .nil))) (.cons (.var 9) .nil))) .nil))) (.cons (.prim (.bin .Mult) (.cons (.prim (.bin .Mult) (.cons (.var 6) (.cons (.var 9) .nil))) (.cons (.var 9) .nil))) .nil))) (.cons (.prim (.bin .Add) (.cons (.prim (.bin .Add) (.cons (.prim (.bin .Mult) (.cons (.prim (.bin .Mult) (.cons (.var 4) (.cons (.var 8) .nil))) (.cons (.var 8) .nil))) (.cons (.prim (.bin .Mult) (.cons (.prim (.bin .Mult) (.cons (.var 6) (.cons (.var 8) .nil))) (.cons (.var 9) .nil))) .nil))) (.cons (.prim (.bin .Mult) (.cons (.prim (.bin .Mult) (.cons (.var 7) (.cons (.var 9) .nil))) (.cons (.var 9) .nil))) .nil))) .nil))))) .nil)), none, false⟩

/-- number 57 -/
def f_value_at : Fn := ⟨"value_at", ["numbers", "first", "second"], ["numbers", "first", "second", "one", "two", "three", "r", "s"], false,
  (.cons (.asg (.tup (.cons (.name 3) (.cons (.name 4) (.cons (.name 5) .nil)))) (.call 48 (.cons (.var 0) (.cons (.var 1) .nil)))) (.cons (.asg (.tup (.cons (.name 6) (.cons (.name 7) .nil))) (.var 2)) (.cons (.ret (.prim (.bin .Add) (.cons (.prim (.bin .Add) (.cons (.prim (.bin .Mult) (.cons (.prim (.bin .Mult) (.cons (.var 3) (.cons (.var 6) .nil))) (.cons (.var 6) .nil))) (.cons (.prim (.bin .Mult) (.cons (.prim (.bin .Mult) (.cons (.var 4) (.cons (.var 6) .nil))) (.cons (.var 7) .nil))) .nil))) (.cons (.prim (.bin .Mult) (.cons (.prim (.bin .Mult) (.cons (.var 5) (.cons (.var 7) .nil))) (.cons (.var 7) .nil))) .nil)))) .nil))), none, false⟩

/-- number 58 -/
def f_holds : Fn := ⟨"holds", ["relation", "first", "second"], ["relation", "first", "second"], false,
  (.cons (.expr (.call 19 (.cons (.var 1) .nil))) (.cons (.expr (.call 19 (.cons (.var 2) .nil))) (.cons (.ret (.prim (.cmp .Eq) (.cons (.call 57 (.cons (.fld [1] (.var 0) "kept_numbers") (.cons (.var 1) (.cons (.var 2) .nil)))) (.cons (.const (.int 0)) .nil)))) .nil))), none, false⟩

/-- number 59 -/
def f_check_pair : Fn := ⟨"check_pair", ["relation", "first", "second"], ["relation", "first", "second"], false,
  (.cons (.expr (.call 19 (.cons (.var 1) .nil))) (.cons (.expr (.call 19 (.cons (.var 2) .nil))) (.cons (.ifs (.prim (.cmp .NotEq) (.cons (.call 57 (.cons (.fld [1] (.var 0) "kept_numbers") (.cons (.var 1) (.cons (.var 2) .nil)))) (.cons (.const (.int 0)) .nil)))
    (.cons .never .nil)
    .nil) .nil))), none, false⟩

/-- number 60 -/
def f_other_partner : Fn := ⟨"other_partner", ["numbers", "first", "second"], ["numbers", "first", "second", "one", "two", "three"], false,
  (.cons (.asg (.tup (.cons (.name 3) (.cons (.name 4) (.cons (.name 5) .nil)))) (.call 48 (.cons (.var 0) (.cons (.var 2) .nil)))) (.cons (.ifs (.prim (.cmp .NotEq) (.cons (.var 3) (.cons (.const (.int 0)) .nil)))
    (.cons (.ret (.call 7 (.cons (.prim (.bin .Sub) (.cons (.prim (.bin .Mult) (.cons (.prim .neg (.cons (.var 4) .nil)) (.cons (.prim .idx (.cons (.var 1) (.cons (.const (.int 1)) .nil))) .nil))) (.cons (.prim (.bin .Mult) (.cons (.var 3) (.cons (.prim .idx (.cons (.var 1) (.cons (.const (.int 0)) .nil))) .nil))) .nil))) (.cons (.prim (.bin .Mult) (.cons (.var 3) (.cons (.prim .idx (.cons (.var 1) (.cons (.const (.int 1)) .nil))) .nil))) .nil)))) .nil)
    .nil) (.cons (.ret (.ite (.prim (.cmp .Eq) (.cons (.var 1) (.cons (.glob "ENDLESS" (.tup [(.int 1), (.int 0)])) .nil))) (.call 7 (.cons (.prim .neg (.cons (.var 5) .nil)) (.cons (.var 4) .nil))) (.glob "ENDLESS" (.tup [(.int 1), (.int 0)])))) .nil))), none, false⟩

/-- number 61 -/
def f_chain : Fn := ⟨"chain", ["relation", "first", "second", "length"], ["relation", "first", "second", "length", "found"], false,
  (.cons (.expr (.call 59 (.cons (.var 0) (.cons (.var 1) (.cons (.var 2) .nil))))) (.cons (.ifs (.prim (.cmp .Lt) (.cons (.var 3) (.cons (.const (.int 0)) .nil)))
    (.cons .never .nil)
    .nil) (.cons (.asg (.name 4) (.prim .lst (.cons (.var 1) (.cons (.var 2) .nil)))) (.cons (.whil (.prim (.cmp .Lt) (.cons (.prim (.blt .len) (.cons (.var 4) .nil)) (.cons (.var 3) .nil)))
    (.cons (.expr (.meth .app (.var 4) (.cons (.call 60 (.cons (.fld [1] (.var 0) "kept_numbers") (.cons (.prim .idx (.cons (.var 4) (.cons (.prim .neg (.cons (.const (.int 2)) .nil)) .nil))) (.cons (.prim .idx (.cons (.var 4) (.cons (.prim .neg (.cons (.const (.int 1)) .nil)) .nil))) .nil)))) .nil))) .nil)) (.cons (.ret (.prim (.slc false true) (.cons (.var 4) (.cons (.var 3) .nil)))) .nil))))), none, false⟩

/-- number 11 -/
def f_law_any_point : Fn := ⟨"_law_any_point", ["pool"], ["pool", "some"], false,
  (.cons (.asg (.name 1) (.prim .lst (.cons (.prim .tup (.cons (.const (.int 1)) (.cons (.const (.int 0)) .nil))) (.cons (.prim .tup (.cons (.const (.int 0)) (.cons (.const (.int 1)) .nil))) (.cons (.call 10 (.cons (.prim (.bin .Sub) (.cons (.call 1 (.cons (.var 0) (.cons (.const (.int 19)) .nil))) (.cons (.const (.int 9)) .nil))) (.cons (.prim (.bin .Add) (.cons (.const (.int 1)) (.cons (.call 1 (.cons (.var 0) (.cons (.const (.int 6)) .nil))) .nil))) .nil))) .nil))))) (.cons (.expr (.meth .app (.var 1) (.cons (.call 10 (.cons (.prim (.bin .Sub) (.cons (.call 1 (.cons (.var 0) (.cons (.prim (.bin .Add) (.cons (.prim (.bin .Mult) (.cons (.const (.int 2)) (.cons (.prim (.bin .Pow) (.cons (.const (.int 10)) (.cons (.const (.int 6)) .nil))) .nil))) (.cons (.const (.int 1)) .nil))) .nil))) (.cons (.prim (.bin .Pow) (.cons (.const (.int 10)) (.cons (.const (.int 6)) .nil))) .nil))) (.cons (.prim (.bin .Add) (.cons (.const (.int 1)) (.cons (.call 1 (.cons (.var 0) (.cons (.prim (.bin .Pow) (.cons (.const (.int 10)) (.cons (.const (.int 6)) .nil))) .nil))) .nil))) .nil))) .nil))) (.cons (.ret (.prim .idx (.cons (.var 1) (.cons (.call 1 (.cons (.var 0) (.cons (.const (.int 4)) .nil))) .nil)))) .nil))), none, false⟩

/-- number 357 -/
def f_law_made_1 : Fn := ⟨"_law_made", ["numbers_here"], ["numbers_here"], false,
  (.cons (.ret (.make 1 354 (.cons (.prim (.blt .list) (.cons (.var 0) .nil)) .nil))) .nil), none, false⟩

/-- number 62 -/
def f_law_right_7 : Fn := ⟨"_law_right", ["pool"], ["pool", "numbers_here", "one_here", "two_here", "made", "some", "turn", "due", "told", "left", "right"], true,
  (.cons (.asg (.tup (.cons (.name 1) (.cons (.name 2) (.cons (.name 3) .nil)))) (.prim .idx (.cons (.prim .lst (.cons (.call 39 (.cons (.var 0) .nil)) (.cons (.call 40 (.cons (.var 0) .nil)) (.cons (.prim (.slc false true) (.cons (.call 38 (.cons (.var 0) .nil)) (.cons (.const (.int 3)) .nil))) .nil)))) (.cons (.call 1 (.cons (.var 0) (.cons (.const (.int 3)) .nil))) .nil)))) (.cons (.asg (.name 4) (.call 357 (.cons (.var 1) .nil))) (.cons (.ifs (.prim (.cmp .IsNot) (.cons (.call 58 (.cons (.var 4) (.cons (.var 2) (.cons (.var 3) .nil)))) (.cons (.const (.bl true)) .nil)))
    (.cons (.ret (.const (.bl false))) .nil)
    .nil) (.cons (.asg (.name 5) (.prim .lst (.cons (.prim .tup (.cons (.const (.int 1)) (.cons (.const (.int 0)) .nil))) (.cons (.prim .tup (.cons (.const (.int 0)) (.cons (.const (.int 1)) .nil))) (.cons (.var 2) (.cons (.var 3) (.cons (.call 11 (.cons (.var 0) .nil)) (.cons (.call 11 (.cons (.var 0) .nil)) .nil)))))))) (.cons (.asg (.name 5) (.prim (.bin .Add) (.cons (.var 5) (.cons (.call 61 (.cons (.var 4) (.cons (.var 2) (.cons (.var 3) (.cons (.const (.int 4)) .nil))))) .nil)))) (.cons (.fors (.name 6) .range (.cons (.const (.int 6)) .nil)
    (.cons (.par2 9 10 (.cons (.prim .idx (.cons (.var 5) (.cons (.call 1 (.cons (.var 0) (.cons (.prim (.blt .len) (.cons (.var 5) .nil)) .nil))) .nil))) (.cons (.prim .idx (.cons (.var 5) (.cons (.call 1 (.cons (.var 0) (.cons (.prim (.blt .len) (.cons (.var 5) .nil)) .nil))) .nil))) .nil))) (.cons (.asg (.name 7) (.prim (.cmp .Eq) (.cons (.call 31 (.cons (.var 1) (.cons (.var 9) (.cons (.var 10) .nil)))) (.cons (.const (.int 0)) .nil)))) (.cons (.asg (.name 8) (.prim .lst (.cons (.call 58 (.cons (.var 4) (.cons (.var 9) (.cons (.var 10) .nil)))) (.cons (.callk 58 .nil ["second", "first", "relation"] (.cons (.var 10) (.cons (.var 9) (.cons (.var 4) .nil))) [2, 1, 0]) (.cons (.call 58 (.cons (.var 4) (.cons (.var 10) (.cons (.var 9) .nil)))) .nil))))) (.cons (.ifs (.prim (.cmp .NotEq) (.cons (.prim .repr (.cons (.var 8) .nil)) (.cons (.prim .repr (.cons (.prim (.bin .Mult) (.cons (.prim .lst (.cons (.var 7) .nil)) (.cons (.const (.int 3)) .nil))) .nil)) .nil)))
    (.cons (.ret (.const (.bl false))) .nil)
    .nil) .nil))))) (.cons (.ret (.const (.bl true))) .nil))))))), none, false⟩

/-- number 63 -/
def f_law_7 : Fn := ⟨"law", ["script"], ["script", "spot", "pool", "turn"], true,
  (.cons (.fors (.name 1) .range (.cons (.prim (.blt .max2) (.cons (.const (.int 1)) (.cons (.prim (.blt .min2) (.cons (.const (.int 6)) (.cons (.prim (.blt .len) (.cons (.var 0) .nil)) .nil))) .nil))) .nil)
    (.cons (.asg (.name 2) (.call 0 (.cons (.var 0) (.cons (.var 1) .nil)))) (.cons (.fors (.name 3) .range (.cons (.const (.int 5)) .nil)
    (.cons (.ifs (.notE (.call 62 (.cons (.var 2) .nil)))
    (.cons (.ret (.const (.bl false))) .nil)
    .nil) .nil)) .nil))) (.cons (.ret (.const (.bl true))) .nil)), none, false⟩

/-- number 143 -/
def f_are_exchanged : Fn := ⟨"are_exchanged", ["relation", "other"], ["relation", "other"], false,
  (.cons (.ret (.prim (.cmp .Eq) (.cons (.call 27 (.cons (.call 28 (.cons (.fld [1] (.var 0) "kept_numbers") .nil)) .nil)) (.cons (.call 27 (.cons (.call 28 (.cons (.fld [1] (.var 1) "kept_numbers") .nil)) .nil)) .nil)))) .nil), none, false⟩

/-- number 108 -/
def f_law_names : Fn := ⟨"_law_names", ["pool"], ["pool", "names", "turn"], false,
  (.cons (.setc 1 (.comp (.prim (.bin .Sub) (.cons (.call 1 (.cons (.var 0) (.cons (.const (.int 7)) .nil))) (.cons (.const (.int 3)) .nil))) (.name 2) .range (.cons (.const (.int 4)) .nil) .nil [("turn", 2)])) (.cons (.ifs (.prim (.cmp .Eq) (.cons (.prim (.bin .Mult) (.cons (.prim .idx (.cons (.var 1) (.cons (.const (.int 0)) .nil))) (.cons (.prim .idx (.cons (.var 1) (.cons (.const (.int 3)) .nil))) .nil))) (.cons (.prim (.bin .Mult) (.cons (.prim .idx (.cons (.var 1) (.cons (.const (.int 1)) .nil))) (.cons (.prim .idx (.cons (.var 1) (.cons (.const (.int 2)) .nil))) .nil))) .nil)))
    (.cons (.ret (.prim .idx (.cons (.prim .lst (.cons (.prim .lst (.cons (.const (.int 0)) (.cons (.const (.int 1)) (.cons (.const (.int 1)) (.cons (.const (.int 0)) .nil))))) (.cons (.prim .lst (.cons (.const (.int 1)) (.cons (.const (.int 2)) (.cons (.const (.int 0)) (.cons (.const (.int 1)) .nil))))) .nil))) (.cons (.call 1 (.cons (.var 0) (.cons (.const (.int 2)) .nil))) .nil)))) .nil)
    .nil) (.cons (.ret (.var 1)) .nil))), none, false⟩

/-- number 109 -/
def f_law_renamed_0 : Fn := ⟨"_law_renamed", ["numbers_here", "names"], ["numbers_here", "names", "spots", "high", "low", "far", "nought", "unit", "a_here", "f_here", "c_here", "b_here", "e_here", "d_here"], false,
  (.cons (.asg (.name 2) (.prim .lst .nil)) (.cons (.fors (.tup (.cons (.name 3) (.cons (.name 4) .nil))) .seq (.cons (.prim .tup (.cons (.prim .tup (.cons (.const (.int 1)) (.cons (.const (.int 0)) .nil))) (.cons (.prim .tup (.cons (.const (.int 0)) (.cons (.const (.int 1)) .nil))) (.cons (.prim .tup (.cons (.const (.int 1)) (.cons (.const (.int 1)) .nil))) .nil)))) .nil)
    (.cons (.expr (.meth .app (.var 2) (.cons (.prim .tup (.cons (.prim (.bin .Add) (.cons (.prim (.bin .Mult) (.cons (.prim .idx (.cons (.var 1) (.cons (.const (.int 0)) .nil))) (.cons (.var 3) .nil))) (.cons (.prim (.bin .Mult) (.cons (.prim .idx (.cons (.var 1) (.cons (.const (.int 1)) .nil))) (.cons (.var 4) .nil))) .nil))) (.cons (.prim (.bin .Add) (.cons (.prim (.bin .Mult) (.cons (.prim .idx (.cons (.var 1) (.cons (.const (.int 2)) .nil))) (.cons (.var 3) .nil))) (.cons (.prim (.bin .Mult) (.cons (.prim .idx (.cons (.var 1) (.cons (.const (.int 3)) .nil))) (.cons (.var 4) .nil))) .nil))) .nil))) .nil))) .nil)) (.cons (.asg (.tup (.cons (.name 5) (.cons (.name 6) (.cons (.name 7) .nil)))) (.var 2)) (.cons (.par2 8 9 (.cons (.call 31 (.cons (.var 0) (.cons (.var 5) (.cons (.var 5) .nil)))) (.cons (.call 31 (.cons (.var 0) (.cons (.var 6) (.cons (.var 6) .nil)))) .nil))) (.cons (.asg (.name 10) (.call 31 (.cons (.var 0) (.cons (.var 5) (.cons (.var 6) .nil))))) (.cons (.asg (.name 11) (.prim (.bin .Sub) (.cons (.prim (.bin .Sub) (.cons (.call 31 (.cons (.var 0) (.cons (.var 5) (.cons (.var 7) .nil)))) (.cons (.var 8) .nil))) (.cons (.var 10) .nil)))) (.cons (.asg (.name 12) (.prim (.bin .Sub) (.cons (.prim (.bin .Sub) (.cons (.call 31 (.cons (.var 0) (.cons (.var 6) (.cons (.var 7) .nil)))) (.cons (.var 10) .nil))) (.cons (.var 9) .nil)))) (.cons (.asg (.name 13) (.prim (.bin .Sub) (.cons (.prim (.bin .Sub) (.cons (.prim (.bin .Sub) (.cons (.prim (.bin .Sub) (.cons (.prim (.bin .Sub) (.cons (.call 31 (.cons (.var 0) (.cons (.var 7) (.cons (.var 7) .nil)))) (.cons (.var 8) .nil))) (.cons (.prim (.bin .Mult) (.cons (.const (.int 2)) (.cons (.var 11) .nil))) .nil))) (.cons (.prim (.bin .Mult) (.cons (.const (.int 2)) (.cons (.var 10) .nil))) .nil))) (.cons (.prim (.bin .Mult) (.cons (.const (.int 2)) (.cons (.var 12) .nil))) .nil))) (.cons (.var 9) .nil)))) (.cons (.ret (.prim .lst (.cons (.var 8) (.cons (.var 11) (.cons (.var 10) (.cons (.var 13) (.cons (.var 12) (.cons (.var 9) .nil)))))))) .nil))))))))), none, false⟩

/-- number 146 -/
def f_law_two : Fn := ⟨"_law_two", ["pool"], ["pool", "way", "numbers_here", "some", "spot", "other_one", "c_here", "far", "left", "right", "names"], false,
  (.cons (.par2 1 2 (.cons (.call 1 (.cons (.var 0) (.cons (.const (.int 6)) .nil))) (.cons (.prim .idx (.cons (.call 39 (.cons (.var 0) .nil)) (.cons (.const (.int 0)) .nil))) .nil))) (.cons (.ifs (.prim (.cmp .Eq) (.cons (.var 1) (.cons (.const (.int 5)) .nil)))
    (.cons (.par2 1 2 (.cons (.const (.int 1)) (.cons (.prim .idx (.cons (.call 40 (.cons (.var 0) .nil)) (.cons (.const (.int 0)) .nil))) .nil))) .nil)
    .nil) (.cons (.ifs (.prim (.cmp .Gt) (.cons (.prim (.blt .max1) (.cons (.comp (.prim (.blt .abs) (.cons (.var 3) .nil)) (.name 3) .seq (.cons (.var 2) .nil) .nil [("some", 3)]) .nil)) (.cons (.prim (.bin .Mult) (.cons (.const (.int 3)) (.cons (.prim (.bin .Pow) (.cons (.const (.int 10)) (.cons (.const (.int 7)) .nil))) .nil))) .nil)))
    (.cons (.asg (.name 1) (.prim (.blt .min2) (.cons (.var 1) (.cons (.const (.int 1)) .nil)))) .nil)
    .nil) (.cons (.ifs (.prim (.cmp .Eq) (.cons (.var 1) (.cons (.const (.int 0)) .nil)))
    (.cons (.ret (.prim .tup (.cons (.var 2) (.cons (.prim .idx (.cons (.call 39 (.cons (.var 0) .nil)) (.cons (.const (.int 0)) .nil))) .nil)))) .nil)
    .nil) (.cons (.ifs (.prim (.cmp .Eq) (.cons (.var 1) (.cons (.const (.int 1)) .nil)))
    (.cons (.par2 4 5 (.cons (.prim .idx (.cons (.prim .lst (.cons (.const (.int 5)) (.cons (.call 1 (.cons (.var 0) (.cons (.const (.int 6)) .nil))) .nil))) (.cons (.call 1 (.cons (.var 0) (.cons (.const (.int 2)) .nil))) .nil))) (.cons (.prim (.blt .list) (.cons (.var 2) .nil)) .nil))) (.cons (.asg (.sub (.var 5) (.var 4)) (.prim (.bin .Add) (.cons (.prim .idx (.cons (.var 5) (.cons (.var 4) .nil))) (.cons (.prim .idx (.cons (.prim .lst (.cons (.const (.int 1)) (.cons (.prim .neg (.cons (.const (.int 1)) .nil)) .nil))) (.cons (.prim (.blt .int) (.cons (.prim (.cmp .Gt) (.cons (.prim .idx (.cons (.var 5) (.cons (.var 4) .nil))) (.cons (.const (.int 0)) .nil))) .nil)) .nil))) .nil)))) (.cons (.ret (.prim .tup (.cons (.var 2) (.cons (.var 5) .nil)))) .nil)))
    .nil) (.cons (.ifs (.prim (.cmp .Eq) (.cons (.var 1) (.cons (.const (.int 2)) .nil)))
    (.cons (.ret (.prim .tup (.cons (.var 2) (.cons (.comp (.prim (.bin .Mult) (.cons (.prim .neg (.cons (.const (.int 3)) .nil)) (.cons (.var 3) .nil))) (.name 3) .seq (.cons (.var 2) .nil) .nil [("some", 3)]) .nil)))) .nil)
    .nil) (.cons (.par2 6 7 (.cons (.prim (.bin .Sub) (.cons (.call 1 (.cons (.var 0) (.cons (.const (.int 13)) .nil))) (.cons (.const (.int 6)) .nil))) (.cons (.prim (.bin .Sub) (.cons (.call 1 (.cons (.var 0) (.cons (.const (.int 13)) .nil))) (.cons (.const (.int 6)) .nil))) .nil))) (.cons (.par2 8 9 (.cons (.prim .lst (.cons (.const (.int 1)) (.cons (.const (.int 0)) (.cons (.var 6) (.cons (.const (.int 0)) (.cons (.const (.int 0)) (.cons (.var 7) .nil))))))) (.cons (.prim .lst (.cons (.var 6) (.cons (.const (.int 0)) (.cons (.var 7) (.cons (.const (.int 0)) (.cons (.const (.int 0)) (.cons (.prim (.bin .Mult) (.cons (.var 7) (.cons (.var 6) .nil))) .nil))))))) .nil))) (.cons (.ifs (.prim (.cmp .Eq) (.cons (.var 1) (.cons (.const (.int 3)) .nil)))
    (.cons (.ret (.prim .tup (.cons (.var 8) (.cons (.var 9) .nil)))) .nil)
    .nil) (.cons (.asg (.name 10) (.call 108 (.cons (.var 0) .nil))) (.cons (.ret (.prim .tup (.cons (.call 109 (.cons (.var 8) (.cons (.var 10) .nil))) (.cons (.call 109 (.cons (.var 9) (.cons (.var 10) .nil))) .nil)))) .nil))))))))))), none, false⟩

/-- number 147 -/
def f_law_right_30 : Fn := ⟨"_law_right", ["pool"], ["pool", "left", "right", "one_here", "two_here", "due", "spot", "at", "left_one", "right_one", "made", "twin"], true,
  (.cons (.asg (.tup (.cons (.name 1) (.cons (.name 2) .nil))) (.call 146 (.cons (.var 0) .nil))) (.cons (.ifs (.orE (.prim (.cmp .Eq) (.cons (.var 1) (.cons (.prim (.bin .Mult) (.cons (.prim .lst (.cons (.const (.int 0)) .nil)) (.cons (.const (.int 6)) .nil))) .nil))) (.orE (.prim (.cmp .Eq) (.cons (.var 2) (.cons (.prim (.bin .Mult) (.cons (.prim .lst (.cons (.const (.int 0)) .nil)) (.cons (.const (.int 6)) .nil))) .nil))) (.orE (.notE (.call 36 (.cons (.var 1) .nil))) (.one (.notE (.call 36 (.cons (.var 2) .nil)))))))
    (.cons (.ret (.const (.bl true))) .nil)
    .nil) (.cons (.par3 3 4 5 (.cons (.call 35 (.cons (.var 1) .nil)) (.cons (.call 35 (.cons (.var 2) .nil)) (.cons (.const (.bl true)) .nil)))) (.cons (.fors (.name 6) .range (.cons (.const (.int 5)) .nil)
    (.cons (.fors (.name 7) .range (.cons (.var 6) .nil)
    (.cons (.asg (.name 8) (.prim (.bin .Mult) (.cons (.prim .idx (.cons (.var 3) (.cons (.var 6) .nil))) (.cons (.prim .idx (.cons (.var 4) (.cons (.var 7) .nil))) .nil)))) (.cons (.asg (.name 9) (.prim (.bin .Mult) (.cons (.prim .idx (.cons (.var 3) (.cons (.var 7) .nil))) (.cons (.prim .idx (.cons (.var 4) (.cons (.var 6) .nil))) .nil)))) (.cons (.asg (.name 5) (.andE (.var 5) (.one (.prim (.cmp .Eq) (.cons (.var 8) (.cons (.var 9) .nil)))))) .nil)))) .nil)) (.cons (.par2 10 11 (.cons (.call 357 (.cons (.var 1) .nil)) (.cons (.call 357 (.cons (.var 2) .nil)) .nil))) (.cons (.ret (.prim (.cmp .Eq) (.cons (.prim .repr (.cons (.prim .lst (.cons (.call 143 (.cons (.var 10) (.cons (.var 11) .nil))) (.cons (.callk 143 .nil ["relation", "other"] (.cons (.var 11) (.cons (.var 10) .nil)) [0, 1]) .nil))) .nil)) (.cons (.prim .repr (.cons (.prim .lst (.cons (.var 5) (.cons (.var 5) .nil))) .nil)) .nil)))) .nil)))))), none, false⟩

/-- number 148 -/
def f_law_30 : Fn := ⟨"law", ["script"], ["script", "spot", "pool", "turn"], true,
  (.cons (.fors (.name 1) .range (.cons (.prim (.blt .max2) (.cons (.const (.int 1)) (.cons (.prim (.blt .min2) (.cons (.const (.int 5)) (.cons (.prim (.blt .len) (.cons (.var 0) .nil)) .nil))) .nil))) .nil)
    (.cons (.asg (.name 2) (.call 0 (.cons (.var 0) (.cons (.var 1) .nil)))) (.cons (.fors (.name 3) .range (.cons (.const (.int 5)) .nil)
    (.cons (.ifs (.notE (.call 147 (.cons (.var 2) .nil)))
    (.cons (.ret (.const (.bl false))) .nil)
    .nil) .nil)) .nil))) (.cons (.ret (.const (.bl true))) .nil)), none, false⟩

/-- number 159 -/
def f_row_of : Fn := ⟨"row_of", ["first", "second"], ["first", "second", "p", "q", "r", "s", "cross"], false,
  (.cons (.asg (.tup (.cons (.tup (.cons (.name 2) (.cons (.name 3) .nil))) (.cons (.tup (.cons (.name 4) (.cons (.name 5) .nil))) .nil))) (.prim .tup (.cons (.var 0) (.cons (.var 1) .nil)))) (.cons (.asg (.name 6) (.prim (.bin .Add) (.cons (.prim (.bin .Mult) (.cons (.var 2) (.cons (.var 5) .nil))) (.cons (.prim (.bin .Mult) (.cons (.var 4) (.cons (.var 3) .nil))) .nil)))) (.cons (.ret (.prim .lst (.cons (.prim (.bin .Mult) (.cons (.prim (.bin .Mult) (.cons (.prim (.bin .Mult) (.cons (.var 2) (.cons (.var 2) .nil))) (.cons (.var 4) .nil))) (.cons (.var 4) .nil))) (.cons (.prim (.bin .Mult) (.cons (.prim (.bin .Mult) (.cons (.var 2) (.cons (.var 4) .nil))) (.cons (.var 6) .nil))) (.cons (.prim (.bin .Add) (.cons (.prim (.bin .Mult) (.cons (.prim (.bin .Mult) (.cons (.prim (.bin .Mult) (.cons (.var 2) (.cons (.var 2) .nil))) (.cons (.var 5) .nil))) (.cons (.var 5) .nil))) (.cons (.prim (.bin .Mult) (.cons (.prim (.bin .Mult) (.cons (.prim (.bin .Mult) (.cons (.var 4) (.cons (.var 4) .nil))) (.cons (.var 3) .nil))) (.cons (.var 3) .nil))) .nil))) (.cons (.prim (.bin .Mult) (.cons (.prim (.bin .Mult) (.cons (.prim (.bin .Mult) (.cons (.var 2) (.cons (.var 3) .nil))) (.cons (.var 4) .nil))) (.cons (.var 5) .nil))) (.cons (.prim (.bin .Mult) (.cons (.prim (.bin .Mult) (.cons (.var 3) (.cons (.var 5) .nil))) (.cons (.var 6) .nil))) (.cons (.prim (.bin .Mult) (.cons (.prim (.bin .Mult) (.cons (.prim (.bin .Mult) (.cons (.var 3) (.cons (.var 3) .nil))) (.cons (.var 5) .nil))) (.cons (.var 5) .nil))) .nil)))))))) .nil))), none, false⟩

/-- number 160 -/
def f_cleared : Fn := ⟨"cleared", ["row", "other", "place"], ["row", "other", "place", "found", "one", "two"], false,
  (.cons (.setc 3 (.comp (.prim (.bin .Sub) (.cons (.prim (.bin .Mult) (.cons (.prim .idx (.cons (.var 1) (.cons (.var 2) .nil))) (.cons (.var 4) .nil))) (.cons (.prim (.bin .Mult) (.cons (.prim .idx (.cons (.var 0) (.cons (.var 2) .nil))) (.cons (.var 5) .nil))) .nil))) (.tup (.cons (.name 4) (.cons (.name 5) .nil))) .zip (.cons (.var 0) (.cons (.var 1) .nil)) .nil [("one", 4), ("two", 5)])) (.cons (.ret (.ite (.prim (.blt .any) (.cons (.var 3) .nil)) (.call 27 (.cons (.var 3) .nil)) (.var 3))) .nil)), none, false⟩

/-- number 161 -/
def f_left_rows : Fn := ⟨"left_rows", ["rows"], ["rows", "found", "row", "spots", "place", "other", "number"], false,
  (.cons (.asg (.name 1) (.prim .lst .nil)) (.cons (.fors (.name 2) .seq (.cons (.var 0) .nil)
    (.cons (.fors (.tup (.cons (.name 4) (.cons (.name 5) .nil))) .seq (.cons (.var 1) .nil)
    (.cons (.asg (.name 2) (.call 160 (.cons (.var 2) (.cons (.var 5) (.cons (.var 4) .nil))))) .nil)) (.cons (.asg (.name 3) (.comp (.var 4) (.tup (.cons (.name 4) (.cons (.name 6) .nil))) .enum (.cons (.var 2) .nil) (.cons (.prim (.cmp .NotEq) (.cons (.var 6) (.cons (.const (.int 0)) .nil))) .nil) [("place", 4), ("number", 6)])) (.cons (.ifs (.prim (.cmp .NotEq) (.cons (.var 3) (.cons (.prim .lst .nil) .nil)))
    (.cons (.asg (.name 2) (.call 27 (.cons (.var 2) .nil))) (.cons (.setc 1 (.comp (.prim .tup (.cons (.var 4) (.cons (.call 160 (.cons (.var 5) (.cons (.var 2) (.cons (.prim .idx (.cons (.var 3) (.cons (.const (.int 0)) .nil))) .nil)))) .nil))) (.tup (.cons (.name 4) (.cons (.name 5) .nil))) .seq (.cons (.var 1) .nil) .nil [("place", 4), ("other", 5)])) (.cons (.expr (.meth .app (.var 1) (.cons (.prim .tup (.cons (.prim .idx (.cons (.var 3) (.cons (.const (.int 0)) .nil))) (.cons (.var 2) .nil))) .nil))) .nil)))
    .nil) .nil)))) (.cons (.ret (.var 1)) .nil))), none, false⟩

/-- number 162 -/
def f_rows_of_1 : Fn := ⟨"rows_of", ["pairs"], ["pairs", "pair", "point", "first", "second"], false,
  (.cons (.fors (.name 1) .seq (.cons (.var 0) .nil)
    (.cons (.fors (.name 2) .seq (.cons (.var 1) .nil)
    (.cons (.expr (.call 19 (.cons (.var 2) .nil))) .nil)) .nil)) (.cons (.ret (.comp (.call 159 (.cons (.var 3) (.cons (.var 4) .nil))) (.tup (.cons (.name 3) (.cons (.name 4) .nil))) .seq (.cons (.var 0) .nil) .nil [("first", 3), ("second", 4)])) .nil)), none, false⟩

/-- number 163 -/
def f_free_numbers_0 : Fn := ⟨"free_numbers", ["pairs"], ["pairs"], false,
  (.cons (.ret (.prim (.bin .Sub) (.cons (.glob "MANY_NUMBERS" (.int 6)) (.cons (.prim (.blt .len) (.cons (.call 161 (.cons (.call 162 (.cons (.var 0) .nil)) .nil)) .nil)) .nil)))) .nil), none, false⟩

/-- number 165 -/
def f_law_row_0 : Fn := ⟨"_law_row", ["pair_here"], ["pair_here", "step", "spot"], false,
  (.cons (.ret (.comp (.call 31 (.cons (.comp (.prim (.blt .int) (.cons (.prim (.cmp .Eq) (.cons (.var 2) (.cons (.var 1) .nil))) .nil)) (.name 2) .range (.cons (.const (.int 6)) .nil) .nil [("spot", 2)]) (.cons (.prim .idx (.cons (.var 0) (.cons (.const (.int 0)) .nil))) (.cons (.prim .idx (.cons (.var 0) (.cons (.const (.int 1)) .nil))) .nil)))) (.name 1) .range (.cons (.const (.int 6)) .nil) .nil [("step", 1)])) .nil), none, false⟩

/-- number 166 -/
def f_law_rank_0 : Fn := ⟨"_law_rank", ["rows_here"], ["rows_here", "left", "count_here", "row_here", "spot", "heads", "rest", "head", "less", "one_here", "two_here", "some"], false,
  (.cons (.par2 1 2 (.cons (.comp (.prim (.blt .list) (.cons (.var 3) .nil)) (.name 3) .seq (.cons (.var 0) .nil) .nil [("row_here", 3)]) (.cons (.const (.int 0)) .nil))) (.cons (.fors (.name 4) .range (.cons (.const (.int 6)) .nil)
    (.cons (.setc 5 (.comp (.var 3) (.name 3) .seq (.cons (.var 1) .nil) (.cons (.prim (.cmp .NotEq) (.cons (.prim .idx (.cons (.var 3) (.cons (.var 4) .nil))) (.cons (.const (.int 0)) .nil))) .nil) [("row_here", 3)])) (.cons (.setc 6 (.comp (.var 3) (.name 3) .seq (.cons (.var 1) .nil) (.cons (.prim (.cmp .Eq) (.cons (.prim .idx (.cons (.var 3) (.cons (.var 4) .nil))) (.cons (.const (.int 0)) .nil))) .nil) [("row_here", 3)])) (.cons (.fors (.name 3) .seq (.cons (.prim (.slc true false) (.cons (.var 5) (.cons (.const (.int 1)) .nil))) .nil)
    (.cons (.asg (.tup (.cons (.name 7) (.cons (.name 8) .nil))) (.prim .tup (.cons (.prim .idx (.cons (.var 5) (.cons (.const (.int 0)) .nil))) (.cons (.prim .idx (.cons (.var 3) (.cons (.var 4) .nil))) .nil)))) (.cons (.expr (.meth .app (.var 6) (.cons (.comp (.prim (.bin .Sub) (.cons (.prim (.bin .Mult) (.cons (.prim .idx (.cons (.var 7) (.cons (.var 4) .nil))) (.cons (.var 9) .nil))) (.cons (.prim (.bin .Mult) (.cons (.var 8) (.cons (.var 10) .nil))) .nil))) (.tup (.cons (.name 9) (.cons (.name 10) .nil))) .zip (.cons (.var 3) (.cons (.var 7) .nil)) .nil [("one_here", 9), ("two_here", 10)]) .nil))) .nil))) (.cons (.asg (.name 2) (.prim (.bin .Add) (.cons (.var 2) (.cons (.prim (.blt .int) (.cons (.prim (.cmp .NotEq) (.cons (.var 5) (.cons (.prim .lst .nil) .nil))) .nil)) .nil)))) (.cons (.setc 1 (.comp (.call 30 (.cons (.var 3) .nil)) (.name 3) .seq (.cons (.var 6) .nil) (.cons (.prim (.cmp .NotEq) (.cons (.comp (.var 11) (.name 11) .seq (.cons (.var 3) .nil) (.cons (.prim (.cmp .NotEq) (.cons (.var 11) (.cons (.const (.int 0)) .nil))) .nil) [("some", 11)]) (.cons (.prim .lst .nil) .nil))) .nil) [("row_here", 3)])) .nil)))))) (.cons (.ret (.var 2)) .nil))), none, false⟩

/-- number 171 -/
def f_law_right_35 : Fn := ⟨"_law_right", ["pool"], ["pool", "lots", "before", "turn", "pair_here", "told", "due", "kept"], true,
  (.cons (.par2 1 2 (.cons (.prim .lst .nil) (.cons (.const (.int 6)) .nil))) (.cons (.fors (.name 3) .range (.cons (.call 1 (.cons (.var 0) (.cons (.const (.int 9)) .nil))) .nil)
    (.cons (.asg (.name 4) (.prim .tup (.cons (.call 170 (.cons (.var 0) .nil)) (.cons (.call 170 (.cons (.var 0) .nil)) .nil)))) (.cons (.ifs (.andE (.prim (.cmp .NotEq) (.cons (.var 1) (.cons (.prim .lst .nil) .nil))) (.one (.prim (.cmp .Eq) (.cons (.call 1 (.cons (.var 0) (.cons (.const (.int 4)) .nil))) (.cons (.const (.int 0)) .nil)))))
    (.cons (.asg (.name 4) (.prim .idx (.cons (.var 1) (.cons (.call 1 (.cons (.var 0) (.cons (.prim (.blt .len) (.cons (.var 1) .nil)) .nil))) .nil)))) (.cons (.asg (.name 4) (.prim .idx (.cons (.prim .lst (.cons (.var 4) (.cons (.prim .tup (.cons (.prim .idx (.cons (.var 4) (.cons (.const (.int 1)) .nil))) (.cons (.prim .idx (.cons (.var 4) (.cons (.const (.int 0)) .nil))) .nil))) .nil))) (.cons (.call 1 (.cons (.var 0) (.cons (.const (.int 2)) .nil))) .nil)))) .nil))
    .nil) (.cons (.expr (.meth .app (.var 1) (.cons (.var 4) .nil))) (.cons (.asg (.name 5) (.call 163 (.cons (.var 1) .nil))) (.cons (.ifs (.prim (.cmp .NotIn) (.cons (.var 5) (.cons (.prim .tup (.cons (.var 2) (.cons (.prim (.bin .Sub) (.cons (.var 2) (.cons (.const (.int 1)) .nil))) .nil))) .nil)))
    (.cons (.ret (.const (.bl false))) .nil)
    .nil) (.cons (.asg (.name 2) (.var 5)) .nil))))))) (.cons (.par2 6 7 (.cons (.prim (.bin .Sub) (.cons (.const (.int 6)) (.cons (.call 166 (.cons (.comp (.call 165 (.cons (.var 4) .nil)) (.name 4) .seq (.cons (.var 1) .nil) .nil [("pair_here", 4)]) .nil)) .nil))) (.cons (.prim .repr (.cons (.var 1) .nil)) .nil))) (.cons (.ret (.prim (.cmp .Eq) (.cons (.prim .repr (.cons (.prim .lst (.cons (.call 163 (.cons (.var 1) .nil)) (.cons (.callk 163 .nil ["pairs"] (.cons (.prim .rev (.cons (.var 1) .nil)) .nil) [0]) (.cons (.var 7) .nil)))) .nil)) (.cons (.prim .repr (.cons (.prim .lst (.cons (.var 6) (.cons (.var 6) (.cons (.prim .repr (.cons (.var 1) .nil)) .nil)))) .nil)) .nil)))) .nil)))), none, false⟩

/-- number 172 -/
def f_law_35 : Fn := ⟨"law", ["script"], ["script", "spot", "pool", "turn"], true,
  (.cons (.fors (.name 1) .range (.cons (.prim (.blt .max2) (.cons (.const (.int 1)) (.cons (.prim (.blt .min2) (.cons (.const (.int 6)) (.cons (.prim (.blt .len) (.cons (.var 0) .nil)) .nil))) .nil))) .nil)
    (.cons (.asg (.name 2) (.call 0 (.cons (.var 0) (.cons (.var 1) .nil)))) (.cons (.fors (.name 3) .range (.cons (.const (.int 6)) .nil)
    (.cons (.ifs (.notE (.call 171 (.cons (.var 2) .nil)))
    (.cons (.ret (.const (.bl false))) .nil)
    .nil) .nil)) .nil))) (.cons (.ret (.const (.bl true))) .nil)), none, false⟩

/-- number 196 -/
def f_is_prime : Fn := ⟨"is_prime", ["number"], ["number", "part"], false,
  (.cons (.ret (.andE (.chain .LtE .LtE (.glob "LEAST_PRIME" (.int 5)) (.var 0) (.glob "MOST_PRIME" (.int 200))) (.one (.prim (.blt .all) (.cons (.comp (.prim (.cmp .NotEq) (.cons (.prim (.bin .Mod) (.cons (.var 0) (.cons (.var 1) .nil))) (.cons (.const (.int 0)) .nil))) (.name 1) .range (.cons (.const (.int 2)) (.cons (.var 0) .nil)) .nil [("part", 1)]) .nil))))) .nil), none, false⟩

/-- number 197 -/
def f_inverse_of : Fn := ⟨"inverse_of", ["number", "prime"], ["number", "prime", "one", "other", "times", "more", "part"], false,
  (.cons (.asg (.tup (.cons (.name 2) (.cons (.name 3) (.cons (.name 4) (.cons (.name 5) .nil))))) (.prim .tup (.cons (.prim (.bin .Mod) (.cons (.var 0) (.cons (.var 1) .nil))) (.cons (.var 1) (.cons (.const (.int 1)) (.cons (.const (.int 0)) .nil)))))) (.cons (.whil (.prim (.cmp .NotEq) (.cons (.var 3) (.cons (.const (.int 0)) .nil)))
    (.cons (.asg (.name 6) (.prim (.bin .FloorDiv) (.cons (.var 2) (.cons (.var 3) .nil)))) (.cons (.asg (.tup (.cons (.name 2) (.cons (.name 3) (.cons (.name 4) (.cons (.name 5) .nil))))) (.prim .tup (.cons (.var 3) (.cons (.prim (.bin .Sub) (.cons (.var 2) (.cons (.prim (.bin .Mult) (.cons (.var 6) (.cons (.var 3) .nil))) .nil))) (.cons (.var 5) (.cons (.prim (.bin .Sub) (.cons (.var 4) (.cons (.prim (.bin .Mult) (.cons (.var 6) (.cons (.var 5) .nil))) .nil))) .nil)))))) .nil))) (.cons (.ret (.prim (.bin .Mod) (.cons (.var 4) (.cons (.var 1) .nil)))) .nil))), none, false⟩

/-- number 198 -/
def f_quotient : Fn := ⟨"quotient", ["top", "bottom", "prime"], ["top", "bottom", "prime"], false,
  (.cons (.ifs (.prim (.cmp .Eq) (.cons (.prim (.bin .Mod) (.cons (.var 1) (.cons (.var 2) .nil))) (.cons (.const (.int 0)) .nil)))
    (.cons (.ret (.var 2)) .nil)
    .nil) (.cons (.ret (.prim (.bin .Mod) (.cons (.prim (.bin .Mult) (.cons (.var 0) (.cons (.call 197 (.cons (.var 1) (.cons (.var 2) .nil))) .nil))) (.cons (.var 2) .nil)))) .nil)), none, false⟩

/-- number 199 -/
def f_reduced : Fn := ⟨"reduced", ["point", "prime"], ["point", "prime"], false,
  (.cons (.expr (.call 19 (.cons (.var 0) .nil))) (.cons (.ifs (.notE (.call 196 (.cons (.var 1) .nil)))
    (.cons .never .nil)
    .nil) (.cons (.ret (.call 198 (.cons (.prim .idx (.cons (.var 0) (.cons (.const (.int 0)) .nil))) (.cons (.prim .idx (.cons (.var 0) (.cons (.const (.int 1)) .nil))) (.cons (.var 1) .nil))))) .nil))), none, false⟩

/-- number 200 -/
def f_law_is_prime : Fn := ⟨"_law_is_prime", ["some"], ["some", "parts_here", "part"], false,
  (.cons (.setc 1 (.comp (.var 2) (.name 2) .range (.cons (.const (.int 2)) (.cons (.const (.int 15)) .nil)) (.cons (.andE (.prim (.cmp .Eq) (.cons (.prim (.bin .Mod) (.cons (.prim (.blt .int) (.cons (.var 0) .nil)) (.cons (.var 2) .nil))) (.cons (.const (.int 0)) .nil))) (.one (.prim (.cmp .NotEq) (.cons (.var 2) (.cons (.var 0) .nil))))) .nil) [("part", 2)])) (.cons (.ret (.andE (.chain .Lt .Lt (.const (.int 4)) (.var 0) (.const (.int 201))) (.one (.prim (.cmp .Eq) (.cons (.var 1) (.cons (.prim .lst .nil) .nil)))))) .nil)), none, false⟩

/-- number 201 -/
def f_law_primes : Fn := ⟨"_law_primes", [], ["some"], false,
  (.cons (.ret (.comp (.var 0) (.name 0) .range (.cons (.const (.int 5)) (.cons (.const (.int 200)) .nil)) (.cons (.call 200 (.cons (.var 0) .nil)) .nil) [("some", 0)])) .nil), none, false⟩

/-- number 202 -/
def f_law_rest : Fn := ⟨"_law_rest", ["modulus", "here"], ["modulus", "here", "step"], false,
  (.cons (.ifs (.prim (.cmp .Eq) (.cons (.prim (.bin .Mod) (.cons (.prim (.blt .int) (.cons (.prim .idx (.cons (.var 1) (.cons (.const (.int 1)) .nil))) .nil)) (.cons (.var 0) .nil))) (.cons (.const (.int 0)) .nil)))
    (.cons (.ret (.var 0)) .nil)
    .nil) (.cons (.ret (.prim .idx (.cons (.comp (.var 2) (.name 2) .range (.cons (.var 0) .nil) (.cons (.prim (.cmp .Eq) (.cons (.prim (.bin .Mod) (.cons (.prim (.blt .int) (.cons (.prim (.bin .Sub) (.cons (.prim (.bin .Mult) (.cons (.var 2) (.cons (.prim .idx (.cons (.var 1) (.cons (.const (.int 1)) .nil))) .nil))) (.cons (.prim .idx (.cons (.var 1) (.cons (.const (.int 0)) .nil))) .nil))) .nil)) (.cons (.var 0) .nil))) (.cons (.const (.int 0)) .nil))) .nil) [("step", 2)]) (.cons (.const (.int 0)) .nil)))) .nil)), none, false⟩

/-- number 203 -/
def f_law_right_40 : Fn := ⟨"_law_right", ["pool"], ["pool", "some", "modulus", "here", "there", "due", "more", "is_small", "both", "away", "alike"], true,
  (.cons (.asg (.name 1) (.call 201 .nil)) (.cons (.par3 2 3 4 (.cons (.prim .idx (.cons (.var 1) (.cons (.call 1 (.cons (.var 0) (.cons (.prim (.blt .len) (.cons (.var 1) .nil)) .nil))) .nil))) (.cons (.call 170 (.cons (.var 0) .nil)) (.cons (.call 170 (.cons (.var 0) .nil)) .nil)))) (.cons (.par2 5 6 (.cons (.call 202 (.cons (.var 2) (.cons (.var 3) .nil))) (.cons (.call 202 (.cons (.var 2) (.cons (.var 4) .nil))) .nil))) (.cons (.ifs (.prim (.cmp .NotEq) (.cons (.prim .repr (.cons (.prim .lst (.cons (.call 199 (.cons (.var 3) (.cons (.var 2) .nil))) (.cons (.callk 199 .nil ["prime", "point"] (.cons (.var 2) (.cons (.var 3) .nil)) [1, 0]) .nil))) .nil)) (.cons (.prim .repr (.cons (.prim .lst (.cons (.var 5) (.cons (.var 5) .nil))) .nil)) .nil)))
    (.cons (.ret (.const (.bl false))) .nil)
    .nil) (.cons (.asg (.name 7) (.prim (.cmp .Lt) (.cons (.prim (.blt .max4) (.cons (.prim (.blt .abs) (.cons (.prim .idx (.cons (.var 3) (.cons (.const (.int 0)) .nil))) .nil)) (.cons (.prim .idx (.cons (.var 3) (.cons (.const (.int 1)) .nil))) (.cons (.prim (.blt .abs) (.cons (.prim .idx (.cons (.var 4) (.cons (.const (.int 0)) .nil))) .nil)) (.cons (.prim .idx (.cons (.var 4) (.cons (.const (.int 1)) .nil))) .nil))))) (.cons (.const (.int 1000)) .nil)))) (.cons (.ifs (.andE (.var 7) (.one (.prim (.cmp .NotIn) (.cons (.var 2) (.cons (.prim .tup (.cons (.var 5) (.cons (.var 6) .nil))) .nil)))))
    (.cons (.asg (.name 8) (.call 10 (.cons (.prim (.bin .Mult) (.cons (.prim .idx (.cons (.var 3) (.cons (.const (.int 0)) .nil))) (.cons (.prim .idx (.cons (.var 4) (.cons (.const (.int 0)) .nil))) .nil))) (.cons (.prim (.bin .Mult) (.cons (.prim .idx (.cons (.var 3) (.cons (.const (.int 1)) .nil))) (.cons (.prim .idx (.cons (.var 4) (.cons (.const (.int 1)) .nil))) .nil))) .nil)))) (.cons (.ifs (.prim (.cmp .NotEq) (.cons (.call 199 (.cons (.var 8) (.cons (.var 2) .nil))) (.cons (.prim (.bin .Mod) (.cons (.prim (.blt .int) (.cons (.prim (.bin .Mult) (.cons (.var 5) (.cons (.var 6) .nil))) .nil)) (.cons (.var 2) .nil))) .nil)))
    (.cons (.ret (.const (.bl false))) .nil)
    .nil) .nil))
    .nil) (.cons (.asg (.name 9) (.prim (.bin .Mult) (.cons (.prim (.bin .Mult) (.cons (.var 2) (.cons (.call 1 (.cons (.var 0) (.cons (.const (.int 99)) .nil))) .nil))) (.cons (.ite (.prim (.cmp .Lt) (.cons (.prim .idx (.cons (.var 3) (.cons (.const (.int 0)) .nil))) (.cons (.const (.int 0)) .nil))) (.const (.int 1)) (.prim .neg (.cons (.const (.int 1)) .nil))) .nil)))) (.cons (.asg (.name 10) (.ite (.prim (.cmp .NotEq) (.cons (.var 3) (.cons (.prim .tup (.cons (.const (.int 1)) (.cons (.const (.int 0)) .nil))) .nil))) (.call 10 (.cons (.prim (.bin .Add) (.cons (.prim .idx (.cons (.var 3) (.cons (.const (.int 0)) .nil))) (.cons (.var 9) .nil))) (.cons (.prim .idx (.cons (.var 3) (.cons (.const (.int 1)) .nil))) .nil))) (.prim .tup (.cons (.const (.int 1)) (.cons (.var 2) .nil))))) (.cons (.ret (.prim (.cmp .Eq) (.cons (.call 199 (.cons (.var 10) (.cons (.var 2) .nil))) (.cons (.var 5) .nil)))) .nil))))))))), none, false⟩

/-- number 204 -/
def f_law_40 : Fn := ⟨"law", ["script"], ["script", "spot", "pool", "turn"], true,
  (.cons (.fors (.name 1) .range (.cons (.prim (.blt .max2) (.cons (.const (.int 1)) (.cons (.prim (.blt .min2) (.cons (.const (.int 8)) (.cons (.prim (.blt .len) (.cons (.var 0) .nil)) .nil))) .nil))) .nil)
    (.cons (.asg (.name 2) (.call 0 (.cons (.var 0) (.cons (.var 1) .nil)))) (.cons (.fors (.name 3) .range (.cons (.const (.int 20)) .nil)
    (.cons (.ifs (.notE (.call 203 (.cons (.var 2) .nil)))
    (.cons (.ret (.const (.bl false))) .nil)
    .nil) .nil)) .nil))) (.cons (.ret (.const (.bl true))) .nil)), none, false⟩

/-- number 240 -/
def f_touched : Fn := ⟨"touched", ["relation"], ["relation", "a", "b", "c", "d", "e", "f", "g", "constant", "with_x", "with_y", "square_x", "with_both", "square_y"], false,
  (.cons (.asg (.tup (.cons (.name 1) (.cons (.name 2) (.cons (.name 3) (.cons (.name 4) (.cons (.name 5) (.cons (.name 6) .nil))))))) (.fld [1] (.var 0) "kept_numbers")) (.cons (.asg (.name 7) (.prim (.bin .Sub) (.cons (.var 4) (.cons (.prim (.bin .Mult) (.cons (.const (.int 2)) (.cons (.var 3) .nil))) .nil)))) (.cons (.par3 8 9 10 (.cons (.prim (.bin .Sub) (.cons (.prim (.bin .Mult) (.cons (.prim (.bin .Mult) (.cons (.const (.int 4)) (.cons (.var 3) .nil))) (.cons (.var 6) .nil))) (.cons (.prim (.bin .Mult) (.cons (.var 5) (.cons (.var 5) .nil))) .nil))) (.cons (.prim (.bin .Sub) (.cons (.prim (.bin .Mult) (.cons (.prim (.bin .Mult) (.cons (.const (.int 2)) (.cons (.var 2) .nil))) (.cons (.var 6) .nil))) (.cons (.prim (.bin .Mult) (.cons (.var 5) (.cons (.var 7) .nil))) .nil))) (.cons (.prim (.bin .Sub) (.cons (.prim (.bin .Mult) (.cons (.var 2) (.cons (.var 5) .nil))) (.cons (.prim (.bin .Mult) (.cons (.prim (.bin .Mult) (.cons (.const (.int 2)) (.cons (.var 3) .nil))) (.cons (.var 7) .nil))) .nil))) .nil)))) (.cons (.par3 11 12 13 (.cons (.prim (.bin .Sub) (.cons (.prim (.bin .Mult) (.cons (.prim (.bin .Mult) (.cons (.const (.int 4)) (.cons (.var 1) .nil))) (.cons (.var 6) .nil))) (.cons (.prim (.bin .Mult) (.cons (.var 7) (.cons (.var 7) .nil))) .nil))) (.cons (.prim (.bin .Sub) (.cons (.prim (.bin .Mult) (.cons (.prim (.bin .Mult) (.cons (.const (.int 2)) (.cons (.var 1) .nil))) (.cons (.var 5) .nil))) (.cons (.prim (.bin .Mult) (.cons (.var 2) (.cons (.var 7) .nil))) .nil))) (.cons (.prim (.bin .Sub) (.cons (.prim (.bin .Mult) (.cons (.prim (.bin .Mult) (.cons (.const (.int 4)) (.cons (.var 1) .nil))) (.cons (.var 3) .nil))) (.cons (.prim (.bin .Mult) (.cons (.var 2) (.cons (.var 2) .nil))) .nil))) .nil)))) (.cons (.ret (.call 27 (.cons (.prim .lst (.cons (.var 11) (.cons (.prim (.bin .Mult) (.cons (.const (.int 2)) (.cons (.var 12) .nil))) (.cons (.var 13) (.cons (.prim (.bin .Mult) (.cons (.const (.int 2)) (.cons (.var 9) .nil))) (.cons (.prim (.bin .Mult) (.cons (.const (.int 2)) (.cons (.var 10) .nil))) (.cons (.var 8) .nil))))))) .nil))) .nil))))), none, false⟩

/-- number 241 -/
def f_law_lesser : Fn := ⟨"_law_lesser", ["table_here", "row", "column"], ["table_here", "row", "column", "rest", "spot", "line"], false,
  (.cons (.setc 3 (.comp (.prim (.bin .Add) (.cons (.prim (.slc false true) (.cons (.var 5) (.cons (.var 2) .nil))) (.cons (.prim (.slc true false) (.cons (.var 5) (.cons (.prim (.bin .Add) (.cons (.var 2) (.cons (.const (.int 1)) .nil))) .nil))) .nil))) (.tup (.cons (.name 4) (.cons (.name 5) .nil))) .enum (.cons (.var 0) .nil) (.cons (.prim (.cmp .NotEq) (.cons (.var 4) (.cons (.var 1) .nil))) .nil) [("spot", 4), ("line", 5)])) (.cons (.ret (.prim (.bin .Mult) (.cons (.prim (.bin .Sub) (.cons (.prim (.bin .Mult) (.cons (.prim .idx (.cons (.prim .idx (.cons (.var 3) (.cons (.const (.int 0)) .nil))) (.cons (.const (.int 0)) .nil))) (.cons (.prim .idx (.cons (.prim .idx (.cons (.var 3) (.cons (.const (.int 1)) .nil))) (.cons (.const (.int 1)) .nil))) .nil))) (.cons (.prim (.bin .Mult) (.cons (.prim .idx (.cons (.prim .idx (.cons (.var 3) (.cons (.const (.int 0)) .nil))) (.cons (.const (.int 1)) .nil))) (.cons (.prim .idx (.cons (.prim .idx (.cons (.var 3) (.cons (.const (.int 1)) .nil))) (.cons (.const (.int 0)) .nil))) .nil))) .nil))) (.cons (.prim .idx (.cons (.prim .lst (.cons (.const (.int 1)) (.cons (.prim .neg (.cons (.const (.int 1)) .nil)) .nil))) (.cons (.prim (.bin .Mod) (.cons (.prim (.blt .int) (.cons (.prim (.bin .Add) (.cons (.var 1) (.cons (.var 2) .nil))) .nil)) (.cons (.const (.int 2)) .nil))) .nil))) .nil)))) .nil)), none, false⟩

/-- number 242 -/
def f_law_due_2 : Fn := ⟨"_law_due", ["numbers_here"], ["numbers_here", "a", "b", "c", "d", "e", "f", "rest", "table_here", "least", "row", "column", "found"], false,
  (.cons (.asg (.tup (.cons (.name 1) (.cons (.name 2) (.cons (.name 3) (.cons (.name 4) (.cons (.name 5) (.cons (.name 6) .nil))))))) (.var 0)) (.cons (.asg (.name 7) (.prim (.bin .Sub) (.cons (.var 4) (.cons (.prim (.bin .Mult) (.cons (.const (.int 2)) (.cons (.var 3) .nil))) .nil)))) (.cons (.asg (.name 8) (.prim .lst (.cons (.prim .lst (.cons (.prim (.bin .Mult) (.cons (.const (.int 2)) (.cons (.var 3) .nil))) (.cons (.prim (.bin .Sub) (.cons (.const (.int 0)) (.cons (.var 5) .nil))) (.cons (.prim (.bin .Sub) (.cons (.const (.int 0)) (.cons (.var 2) .nil))) .nil)))) (.cons (.prim .lst (.cons (.prim (.bin .Sub) (.cons (.const (.int 0)) (.cons (.var 5) .nil))) (.cons (.prim (.bin .Mult) (.cons (.const (.int 2)) (.cons (.var 6) .nil))) (.cons (.var 7) .nil)))) (.cons (.prim .lst (.cons (.prim (.bin .Sub) (.cons (.const (.int 0)) (.cons (.var 2) .nil))) (.cons (.var 7) (.cons (.prim (.bin .Mult) (.cons (.const (.int 2)) (.cons (.var 1) .nil))) .nil)))) .nil))))) (.cons (.setc 9 (.comp (.comp (.call 241 (.cons (.var 8) (.cons (.var 10) (.cons (.var 11) .nil)))) (.name 11) .range (.cons (.const (.int 3)) .nil) .nil [("column", 11)]) (.name 10) .range (.cons (.const (.int 3)) .nil) .nil [("row", 10)])) (.cons (.asg (.name 12) (.prim .lst (.cons (.prim .idx (.cons (.prim .idx (.cons (.var 9) (.cons (.const (.int 0)) .nil))) (.cons (.const (.int 0)) .nil))) (.cons (.prim (.bin .Mult) (.cons (.const (.int 2)) (.cons (.prim .idx (.cons (.prim .idx (.cons (.var 9) (.cons (.const (.int 0)) .nil))) (.cons (.const (.int 1)) .nil))) .nil))) (.cons (.prim .idx (.cons (.prim .idx (.cons (.var 9) (.cons (.const (.int 1)) .nil))) (.cons (.const (.int 1)) .nil))) (.cons (.prim (.bin .Mult) (.cons (.const (.int 2)) (.cons (.prim .idx (.cons (.prim .idx (.cons (.var 9) (.cons (.const (.int 0)) .nil))) (.cons (.const (.int 2)) .nil))) .nil))) (.cons (.prim (.bin .Mult) (.cons (.const (.int 2)) (.cons (.prim .idx (.cons (.prim .idx (.cons (.var 9) (.cons (.const (.int 1)) .nil))) (.cons (.const (.int 2)) .nil))) .nil))) (.cons (.prim .idx (.cons (.prim .idx (.cons (.var 9) (.cons (.const (.int 2)) .nil))) (.cons (.const (.int 2)) .nil))) .nil)))))))) (.cons (.ret (.call 30 (.cons (.var 12) .nil))) .nil)))))), none, false⟩

/-- number 243 -/
def f_law_meets : Fn := ⟨"_law_meets", ["curve", "line"], ["curve", "line", "u", "v", "w", "a", "b", "c", "d", "e", "f", "high", "half", "last"], false,
  (.cons (.asg (.tup (.cons (.name 2) (.cons (.name 3) (.cons (.name 4) .nil)))) (.var 1)) (.cons (.asg (.tup (.cons (.name 5) (.cons (.name 6) (.cons (.name 7) (.cons (.name 8) (.cons (.name 9) (.cons (.name 10) .nil))))))) (.var 0)) (.cons (.ifs (.prim (.cmp .NotEq) (.cons (.var 3) (.cons (.const (.int 0)) .nil)))
    (.cons (.asg (.name 11) (.prim (.bin .Add) (.cons (.prim (.bin .Sub) (.cons (.prim (.bin .Mult) (.cons (.prim (.bin .Mult) (.cons (.var 5) (.cons (.var 3) .nil))) (.cons (.var 3) .nil))) (.cons (.prim (.bin .Mult) (.cons (.prim (.bin .Mult) (.cons (.var 6) (.cons (.var 2) .nil))) (.cons (.var 3) .nil))) .nil))) (.cons (.prim (.bin .Mult) (.cons (.prim (.bin .Mult) (.cons (.var 7) (.cons (.var 2) .nil))) (.cons (.var 2) .nil))) .nil)))) (.cons (.asg (.name 12) (.prim (.bin .Sub) (.cons (.prim (.bin .Mult) (.cons (.prim (.bin .Mult) (.cons (.prim (.bin .Mult) (.cons (.const (.int 2)) (.cons (.var 7) .nil))) (.cons (.var 2) .nil))) (.cons (.var 4) .nil))) (.cons (.prim (.bin .Mult) (.cons (.prim (.bin .Mult) (.cons (.var 6) (.cons (.var 3) .nil))) (.cons (.var 4) .nil))) .nil)))) (.cons (.asg (.name 12) (.prim (.bin .Sub) (.cons (.prim (.bin .Add) (.cons (.var 12) (.cons (.prim (.bin .Mult) (.cons (.prim (.bin .Mult) (.cons (.var 8) (.cons (.var 3) .nil))) (.cons (.var 3) .nil))) .nil))) (.cons (.prim (.bin .Mult) (.cons (.prim (.bin .Mult) (.cons (.var 9) (.cons (.var 2) .nil))) (.cons (.var 3) .nil))) .nil)))) (.cons (.asg (.name 13) (.prim (.bin .Add) (.cons (.prim (.bin .Sub) (.cons (.prim (.bin .Mult) (.cons (.prim (.bin .Mult) (.cons (.var 7) (.cons (.var 4) .nil))) (.cons (.var 4) .nil))) (.cons (.prim (.bin .Mult) (.cons (.prim (.bin .Mult) (.cons (.var 9) (.cons (.var 3) .nil))) (.cons (.var 4) .nil))) .nil))) (.cons (.prim (.bin .Mult) (.cons (.prim (.bin .Mult) (.cons (.var 10) (.cons (.var 3) .nil))) (.cons (.var 3) .nil))) .nil)))) (.cons (.ret (.prim (.cmp .Eq) (.cons (.prim (.bin .Mult) (.cons (.var 12) (.cons (.var 12) .nil))) (.cons (.prim (.bin .Mult) (.cons (.prim (.bin .Mult) (.cons (.const (.int 4)) (.cons (.var 11) .nil))) (.cons (.var 13) .nil))) .nil)))) .nil)))))
    .nil) (.cons (.ifs (.prim (.cmp .Eq) (.cons (.var 2) (.cons (.const (.int 0)) .nil)))
    (.cons (.ret (.prim (.cmp .Eq) (.cons (.prim (.bin .Mult) (.cons (.var 6) (.cons (.var 6) .nil))) (.cons (.prim (.bin .Mult) (.cons (.prim (.bin .Mult) (.cons (.const (.int 4)) (.cons (.var 5) .nil))) (.cons (.var 7) .nil))) .nil)))) .nil)
    .nil) (.cons (.asg (.name 12) (.prim (.bin .Sub) (.cons (.prim (.bin .Mult) (.cons (.prim (.bin .Mult) (.cons (.var 9) (.cons (.var 2) .nil))) (.cons (.var 2) .nil))) (.cons (.prim (.bin .Mult) (.cons (.prim (.bin .Mult) (.cons (.var 6) (.cons (.var 2) .nil))) (.cons (.var 4) .nil))) .nil)))) (.cons (.asg (.name 13) (.prim (.bin .Add) (.cons (.prim (.bin .Sub) (.cons (.prim (.bin .Mult) (.cons (.prim (.bin .Mult) (.cons (.var 5) (.cons (.var 4) .nil))) (.cons (.var 4) .nil))) (.cons (.prim (.bin .Mult) (.cons (.prim (.bin .Mult) (.cons (.var 8) (.cons (.var 2) .nil))) (.cons (.var 4) .nil))) .nil))) (.cons (.prim (.bin .Mult) (.cons (.prim (.bin .Mult) (.cons (.var 10) (.cons (.var 2) .nil))) (.cons (.var 2) .nil))) .nil)))) (.cons (.ret (.prim (.cmp .Eq) (.cons (.prim (.bin .Mult) (.cons (.var 12) (.cons (.var 12) .nil))) (.cons (.prim (.bin .Mult) (.cons (.prim (.bin .Mult) (.cons (.prim (.bin .Mult) (.cons (.prim (.bin .Mult) (.cons (.const (.int 4)) (.cons (.var 7) .nil))) (.cons (.var 2) .nil))) (.cons (.var 2) .nil))) (.cons (.var 13) .nil))) .nil)))) .nil))))))), none, false⟩

/-- number 244 -/
def f_law_right_47 : Fn := ⟨"_law_right", ["pool"], ["pool", "numbers_here", "left", "right", "made", "due", "told", "line", "one_here", "two_here", "p", "q", "r", "s"], true,
  (.cons (.asg (.tup (.cons (.name 1) (.cons (.name 2) (.cons (.name 3) .nil)))) (.call 39 (.cons (.var 0) .nil))) (.cons (.par2 4 5 (.cons (.call 357 (.cons (.var 1) .nil)) (.cons (.call 242 (.cons (.var 1) .nil)) .nil))) (.cons (.asg (.name 6) (.call 240 (.cons (.var 4) .nil))) (.cons (.ifs (.prim (.cmp .NotEq) (.cons (.prim .repr (.cons (.prim .lst (.cons (.var 6) (.cons (.callk 240 .nil ["relation"] (.cons (.var 4) .nil) [0]) .nil))) .nil)) (.cons (.prim .repr (.cons (.prim .lst (.cons (.var 5) (.cons (.var 5) .nil))) .nil)) .nil)))
    (.cons (.ret (.const (.bl false))) .nil)
    .nil) (.cons (.asg (.name 7) (.call 34 (.cons (.var 1) (.cons (.var 2) (.cons (.var 3) (.cons (.const (.int 7)) .nil)))))) (.cons (.fors (.tup (.cons (.name 8) (.cons (.name 9) .nil))) .zip (.cons (.var 7) (.cons (.prim (.slc true false) (.cons (.var 7) (.cons (.const (.int 1)) .nil))) .nil))
    (.cons (.asg (.tup (.cons (.tup (.cons (.name 10) (.cons (.name 11) .nil))) (.cons (.tup (.cons (.name 12) (.cons (.name 13) .nil))) .nil))) (.prim .tup (.cons (.var 8) (.cons (.var 9) .nil)))) (.cons (.ifs (.notE (.call 243 (.cons (.var 6) (.cons (.prim .lst (.cons (.prim (.bin .Add) (.cons (.prim (.bin .Mult) (.cons (.var 10) (.cons (.var 13) .nil))) (.cons (.prim (.bin .Mult) (.cons (.var 12) (.cons (.var 11) .nil))) .nil))) (.cons (.prim (.bin .Sub) (.cons (.const (.int 0)) (.cons (.prim (.bin .Mult) (.cons (.var 11) (.cons (.var 13) .nil))) .nil))) (.cons (.prim (.bin .Sub) (.cons (.const (.int 0)) (.cons (.prim (.bin .Mult) (.cons (.var 10) (.cons (.var 12) .nil))) .nil))) .nil)))) .nil))))
    (.cons (.ret (.const (.bl false))) .nil)
    .nil) .nil))) (.cons (.expr (.meth .app (.var 6) (.cons (.const (.int 0)) .nil))) (.cons (.ret (.prim (.cmp .Eq) (.cons (.call 240 (.cons (.var 4) .nil)) (.cons (.var 5) .nil)))) .nil)))))))), none, false⟩

/-- number 245 -/
def f_law_great_right : Fn := ⟨"_law_great_right", ["pool"], ["pool", "numbers_here", "turn", "some"], false,
  (.cons (.setc 1 (.comp (.prim (.bin .Sub) (.cons (.call 1 (.cons (.var 0) (.cons (.prim (.bin .Add) (.cons (.prim (.bin .Mult) (.cons (.const (.int 2)) (.cons (.prim (.bin .Pow) (.cons (.const (.int 10)) (.cons (.const (.int 8)) .nil))) .nil))) (.cons (.const (.int 1)) .nil))) .nil))) (.cons (.prim (.bin .Pow) (.cons (.const (.int 10)) (.cons (.const (.int 8)) .nil))) .nil))) (.name 2) .range (.cons (.const (.int 6)) .nil) .nil [("turn", 2)])) (.cons (.ifs (.orE (.prim (.cmp .Eq) (.cons (.comp (.var 3) (.name 3) .seq (.cons (.var 1) .nil) (.cons (.prim (.cmp .NotEq) (.cons (.var 3) (.cons (.const (.int 0)) .nil))) .nil) [("some", 3)]) (.cons (.prim .lst .nil) .nil))) (.one (.notE (.call 36 (.cons (.var 1) .nil)))))
    (.cons (.ret (.const (.bl true))) .nil)
    .nil) (.cons (.ret (.prim (.cmp .Eq) (.cons (.call 240 (.cons (.call 357 (.cons (.var 1) .nil)) .nil)) (.cons (.call 242 (.cons (.var 1) .nil)) .nil)))) .nil))), none, false⟩

/-- number 246 -/
def f_law_47 : Fn := ⟨"law", ["script"], ["script", "spot", "pool", "turn"], true,
  (.cons (.fors (.name 1) .range (.cons (.prim (.blt .max2) (.cons (.const (.int 1)) (.cons (.prim (.blt .min2) (.cons (.const (.int 6)) (.cons (.prim (.blt .len) (.cons (.var 0) .nil)) .nil))) .nil))) .nil)
    (.cons (.asg (.name 2) (.call 0 (.cons (.var 0) (.cons (.var 1) .nil)))) (.cons (.fors (.name 3) .range (.cons (.const (.int 4)) .nil)
    (.cons (.ifs (.orE (.notE (.call 244 (.cons (.var 2) .nil))) (.one (.notE (.call 245 (.cons (.var 2) .nil)))))
    (.cons (.ret (.const (.bl false))) .nil)
    .nil) .nil)) .nil))) (.cons (.ret (.const (.bl true))) .nil)), none, false⟩

/-- number 247 -/
def f_touching : Fn := ⟨"touching", ["relation", "first", "second"], ["relation", "first", "second", "a", "b", "c", "d", "e", "f", "g", "product", "cross", "bottom", "x", "y"], false,
  (.cons (.expr (.call 59 (.cons (.var 0) (.cons (.var 1) (.cons (.var 2) .nil))))) (.cons (.asg (.tup (.cons (.name 3) (.cons (.name 4) (.cons (.name 5) (.cons (.name 6) (.cons (.name 7) (.cons (.name 8) .nil))))))) (.fld [1] (.var 0) "kept_numbers")) (.cons (.asg (.name 9) (.prim (.bin .Sub) (.cons (.var 6) (.cons (.prim (.bin .Mult) (.cons (.const (.int 2)) (.cons (.var 5) .nil))) .nil)))) (.cons (.asg (.tup (.cons (.name 10) (.cons (.name 11) (.cons (.name 12) .nil)))) (.call 235 (.cons (.var 1) (.cons (.var 2) .nil)))) (.cons (.asg (.name 13) (.prim (.bin .Sub) (.cons (.prim (.bin .Sub) (.cons (.prim (.bin .Mult) (.cons (.prim .neg (.cons (.var 4) .nil)) (.cons (.var 10) .nil))) (.cons (.prim (.bin .Mult) (.cons (.prim (.bin .Mult) (.cons (.const (.int 2)) (.cons (.var 5) .nil))) (.cons (.var 11) .nil))) .nil))) (.cons (.prim (.bin .Mult) (.cons (.var 7) (.cons (.var 12) .nil))) .nil)))) (.cons (.asg (.name 14) (.prim (.bin .Add) (.cons (.prim (.bin .Add) (.cons (.prim (.bin .Mult) (.cons (.var 9) (.cons (.var 10) .nil))) (.cons (.prim (.bin .Mult) (.cons (.var 7) (.cons (.var 11) .nil))) .nil))) (.cons (.prim (.bin .Mult) (.cons (.prim (.bin .Mult) (.cons (.const (.int 2)) (.cons (.var 8) .nil))) (.cons (.var 12) .nil))) .nil)))) (.cons (.ret (.call 27 (.cons (.prim .lst (.cons (.var 13) (.cons (.var 14) (.cons (.prim (.bin .Add) (.cons (.prim (.bin .Add) (.cons (.prim (.bin .Mult) (.cons (.prim (.bin .Mult) (.cons (.const (.int 2)) (.cons (.var 3) .nil))) (.cons (.var 10) .nil))) (.cons (.prim (.bin .Mult) (.cons (.var 4) (.cons (.var 11) .nil))) .nil))) (.cons (.prim (.bin .Mult) (.cons (.var 9) (.cons (.var 12) .nil))) .nil))) .nil)))) .nil))) .nil))))))), none, false⟩

/-- number 248 -/
def f_law_slopes : Fn := ⟨"_law_slopes", ["curve", "spot"], ["curve", "spot", "a", "b", "c", "d", "e", "f", "x", "y", "z"], false,
  (.cons (.asg (.tup (.cons (.name 2) (.cons (.name 3) (.cons (.name 4) (.cons (.name 5) (.cons (.name 6) (.cons (.name 7) .nil))))))) (.var 0)) (.cons (.asg (.tup (.cons (.name 8) (.cons (.name 9) (.cons (.name 10) .nil)))) (.var 1)) (.cons (.ret (.prim .lst (.cons (.prim (.bin .Add) (.cons (.prim (.bin .Add) (.cons (.prim (.bin .Mult) (.cons (.prim (.bin .Mult) (.cons (.const (.int 2)) (.cons (.var 2) .nil))) (.cons (.var 8) .nil))) (.cons (.prim (.bin .Mult) (.cons (.var 3) (.cons (.var 9) .nil))) .nil))) (.cons (.prim (.bin .Mult) (.cons (.var 5) (.cons (.var 10) .nil))) .nil))) (.cons (.prim (.bin .Add) (.cons (.prim (.bin .Add) (.cons (.prim (.bin .Mult) (.cons (.var 3) (.cons (.var 8) .nil))) (.cons (.prim (.bin .Mult) (.cons (.prim (.bin .Mult) (.cons (.const (.int 2)) (.cons (.var 4) .nil))) (.cons (.var 9) .nil))) .nil))) (.cons (.prim (.bin .Mult) (.cons (.var 6) (.cons (.var 10) .nil))) .nil))) (.cons (.prim (.bin .Add) (.cons (.prim (.bin .Add) (.cons (.prim (.bin .Mult) (.cons (.var 5) (.cons (.var 8) .nil))) (.cons (.prim (.bin .Mult) (.cons (.var 6) (.cons (.var 9) .nil))) .nil))) (.cons (.prim (.bin .Mult) (.cons (.prim (.bin .Mult) (.cons (.const (.int 2)) (.cons (.var 7) .nil))) (.cons (.var 10) .nil))) .nil))) .nil))))) .nil))), none, false⟩

/-- number 249 -/
def f_law_are_times : Fn := ⟨"_law_are_times", ["one_here", "two_here"], ["one_here", "two_here", "a", "b", "c", "d", "e", "f"], false,
  (.cons (.asg (.tup (.cons (.name 2) (.cons (.name 3) (.cons (.name 4) .nil)))) (.var 0)) (.cons (.asg (.tup (.cons (.name 5) (.cons (.name 6) (.cons (.name 7) .nil)))) (.var 1)) (.cons (.ifs (.prim (.cmp .NotEq) (.cons (.prim .lst (.cons (.prim (.bin .Sub) (.cons (.prim (.bin .Mult) (.cons (.var 3) (.cons (.var 7) .nil))) (.cons (.prim (.bin .Mult) (.cons (.var 4) (.cons (.var 6) .nil))) .nil))) (.cons (.prim (.bin .Sub) (.cons (.prim (.bin .Mult) (.cons (.var 4) (.cons (.var 5) .nil))) (.cons (.prim (.bin .Mult) (.cons (.var 2) (.cons (.var 7) .nil))) .nil))) (.cons (.prim (.bin .Sub) (.cons (.prim (.bin .Mult) (.cons (.var 2) (.cons (.var 6) .nil))) (.cons (.prim (.bin .Mult) (.cons (.var 3) (.cons (.var 5) .nil))) .nil))) .nil)))) (.cons (.prim .lst (.cons (.const (.int 0)) (.cons (.const (.int 0)) (.cons (.const (.int 0)) .nil)))) .nil)))
    (.cons (.ret (.const (.bl false))) .nil)
    .nil) (.cons (.ret (.andE (.prim (.cmp .NotEq) (.cons (.var 0) (.cons (.prim .lst (.cons (.const (.int 0)) (.cons (.const (.int 0)) (.cons (.const (.int 0)) .nil)))) .nil))) (.one (.prim (.cmp .NotEq) (.cons (.var 1) (.cons (.prim .lst (.cons (.const (.int 0)) (.cons (.const (.int 0)) (.cons (.const (.int 0)) .nil)))) .nil)))))) .nil)))), none, false⟩

/-- number 250 -/
def f_law_right_48 : Fn := ⟨"_law_right", ["pool"], ["pool", "numbers_here", "left", "right", "made", "line", "curve", "here", "there", "slopes", "told", "edge", "some", "more"], true,
  (.cons (.asg (.tup (.cons (.name 1) (.cons (.name 2) (.cons (.name 3) .nil)))) (.prim .idx (.cons (.prim .lst (.cons (.call 39 (.cons (.var 0) .nil)) (.cons (.call 40 (.cons (.var 0) .nil)) .nil))) (.cons (.call 1 (.cons (.var 0) (.cons (.const (.int 2)) .nil))) .nil)))) (.cons (.asg (.name 4) (.call 357 (.cons (.var 1) .nil))) (.cons (.asg (.name 5) (.call 61 (.cons (.var 4) (.cons (.var 2) (.cons (.var 3) (.cons (.const (.int 5)) .nil)))))) (.cons (.asg (.name 6) (.call 240 (.cons (.var 4) .nil))) (.cons (.fors (.tup (.cons (.name 7) (.cons (.name 8) .nil))) .zip (.cons (.var 5) (.cons (.prim (.slc true false) (.cons (.var 5) (.cons (.const (.int 1)) .nil))) .nil))
    (.cons (.par2 10 11 (.cons (.call 247 (.cons (.var 4) (.cons (.var 7) (.cons (.var 8) .nil)))) (.cons (.call 236 (.cons (.var 7) (.cons (.var 8) .nil))) .nil))) (.cons (.ifs (.prim (.cmp .NotEq) (.cons (.prim .repr (.cons (.prim .lst (.cons (.var 10) (.cons (.callk 247 .nil ["second", "first", "relation"] (.cons (.var 7) (.cons (.var 8) (.cons (.var 4) .nil))) [2, 1, 0]) .nil))) .nil)) (.cons (.prim .repr (.cons (.prim (.bin .Mult) (.cons (.prim .lst (.cons (.call 30 (.cons (.var 10) .nil)) .nil)) (.cons (.const (.int 2)) .nil))) .nil)) .nil)))
    (.cons (.ret (.const (.bl false))) .nil)
    .nil) (.cons (.ifs (.prim (.cmp .NotEq) (.cons (.prim (.blt .sum) (.cons (.comp (.prim (.bin .Mult) (.cons (.var 12) (.cons (.var 13) .nil))) (.tup (.cons (.name 12) (.cons (.name 13) .nil))) .zip (.cons (.var 10) (.cons (.var 11) .nil)) .nil [("some", 12), ("more", 13)]) .nil)) (.cons (.const (.int 0)) .nil)))
    (.cons (.ret (.const (.bl false))) .nil)
    .nil) (.cons (.asg (.name 9) (.call 248 (.cons (.var 6) (.cons (.var 10) .nil)))) (.cons (.ifs (.orE (.prim (.cmp .NotEq) (.cons (.prim (.blt .sum) (.cons (.comp (.prim (.bin .Mult) (.cons (.var 12) (.cons (.var 13) .nil))) (.tup (.cons (.name 12) (.cons (.name 13) .nil))) .zip (.cons (.var 10) (.cons (.var 9) .nil)) .nil [("some", 12), ("more", 13)]) .nil)) (.cons (.const (.int 0)) .nil))) (.one (.notE (.call 249 (.cons (.var 9) (.cons (.var 11) .nil))))))
    (.cons (.ret (.const (.bl false))) .nil)
    .nil) (.cons (.expr (.meth .app (.var 10) (.cons (.const (.int 0)) .nil))) (.cons (.ifs (.prim (.cmp .NotEq) (.cons (.call 247 (.cons (.var 4) (.cons (.var 7) (.cons (.var 8) .nil)))) (.cons (.prim (.slc false true) (.cons (.var 10) (.cons (.const (.int 3)) .nil))) .nil)))
    (.cons (.ret (.const (.bl false))) .nil)
    .nil) .nil)))))))) (.cons (.ret (.const (.bl true))) .nil)))))), none, false⟩

/-- number 251 -/
def f_law_48 : Fn := ⟨"law", ["script"], ["script", "spot", "pool", "turn"], true,
  (.cons (.fors (.name 1) .range (.cons (.prim (.blt .max2) (.cons (.const (.int 1)) (.cons (.prim (.blt .min2) (.cons (.const (.int 6)) (.cons (.prim (.blt .len) (.cons (.var 0) .nil)) .nil))) .nil))) .nil)
    (.cons (.asg (.name 2) (.call 0 (.cons (.var 0) (.cons (.var 1) .nil)))) (.cons (.fors (.name 3) .range (.cons (.const (.int 4)) .nil)
    (.cons (.ifs (.notE (.call 250 (.cons (.var 2) .nil)))
    (.cons (.ret (.const (.bl false))) .nil)
    .nil) .nil)) .nil))) (.cons (.ret (.const (.bl true))) .nil)), none, false⟩

/-- number 317 -/
def f_law_on : Fn := ⟨"_law_on", ["curve", "spot"], ["curve", "spot", "a", "b", "c", "d", "e", "f", "x", "y", "z", "found"], false,
  (.cons (.asg (.tup (.cons (.name 2) (.cons (.name 3) (.cons (.name 4) (.cons (.name 5) (.cons (.name 6) (.cons (.name 7) .nil))))))) (.var 0)) (.cons (.asg (.tup (.cons (.name 8) (.cons (.name 9) (.cons (.name 10) .nil)))) (.var 1)) (.cons (.asg (.name 11) (.prim (.bin .Add) (.cons (.prim (.bin .Mult) (.cons (.prim (.bin .Mult) (.cons (.var 2) (.cons (.var 8) .nil))) (.cons (.var 8) .nil))) (.cons (.prim (.bin .Mult) (.cons (.prim (.bin .Mult) (.cons (.var 3) (.cons (.var 8) .nil))) (.cons (.var 9) .nil))) .nil)))) (.cons (.asg (.name 11) (.prim (.bin .Add) (.cons (.prim (.bin .Add) (.cons (.var 11) (.cons (.prim (.bin .Mult) (.cons (.prim (.bin .Mult) (.cons (.var 4) (.cons (.var 9) .nil))) (.cons (.var 9) .nil))) .nil))) (.cons (.prim (.bin .Mult) (.cons (.prim (.bin .Mult) (.cons (.var 5) (.cons (.var 8) .nil))) (.cons (.var 10) .nil))) .nil)))) (.cons (.ret (.prim (.bin .Add) (.cons (.prim (.bin .Add) (.cons (.var 11) (.cons (.prim (.bin .Mult) (.cons (.prim (.bin .Mult) (.cons (.var 6) (.cons (.var 9) .nil))) (.cons (.var 10) .nil))) .nil))) (.cons (.prim (.bin .Mult) (.cons (.prim (.bin .Mult) (.cons (.var 7) (.cons (.var 10) .nil))) (.cons (.var 10) .nil))) .nil)))) .nil))))), none, false⟩

/-- number 318 -/
def f_law_slope : Fn := ⟨"_law_slope", ["curve", "spot"], ["curve", "spot", "a", "b", "c", "d", "e", "f", "x", "y", "z", "found"], false,
  (.cons (.asg (.tup (.cons (.name 2) (.cons (.name 3) (.cons (.name 4) (.cons (.name 5) (.cons (.name 6) (.cons (.name 7) .nil))))))) (.var 0)) (.cons (.asg (.tup (.cons (.name 8) (.cons (.name 9) (.cons (.name 10) .nil)))) (.var 1)) (.cons (.asg (.name 11) (.prim .lst (.cons (.prim (.bin .Add) (.cons (.prim (.bin .Add) (.cons (.prim (.bin .Mult) (.cons (.prim (.bin .Mult) (.cons (.const (.int 2)) (.cons (.var 2) .nil))) (.cons (.var 8) .nil))) (.cons (.prim (.bin .Mult) (.cons (.var 3) (.cons (.var 9) .nil))) .nil))) (.cons (.prim (.bin .Mult) (.cons (.var 5) (.cons (.var 10) .nil))) .nil))) (.cons (.prim (.bin .Add) (.cons (.prim (.bin .Add) (.cons (.prim (.bin .Mult) (.cons (.var 3) (.cons (.var 8) .nil))) (.cons (.prim (.bin .Mult) (.cons (.prim (.bin .Mult) (.cons (.const (.int 2)) (.cons (.var 4) .nil))) (.cons (.var 9) .nil))) .nil))) (.cons (.prim (.bin .Mult) (.cons (.var 6) (.cons (.var 10) .nil))) .nil))) .nil)))) (.cons (.ret (.prim (.bin .Add) (.cons (.var 11) (.cons (.prim .lst (.cons (.prim (.bin .Add) (.cons (.prim (.bin .Add) (.cons (.prim (.bin .Mult) (.cons (.var 5) (.cons (.var 8) .nil))) (.cons (.prim (.bin .Mult) (.cons (.var 6) (.cons (.var 9) .nil))) .nil))) (.cons (.prim (.bin .Mult) (.cons (.prim (.bin .Mult) (.cons (.const (.int 2)) (.cons (.var 7) .nil))) (.cons (.var 10) .nil))) .nil))) .nil)) .nil)))) .nil)))), none, false⟩

/-- number 319 -/
def f_law_corner : Fn := ⟨"_law_corner", ["one_here"], ["one_here", "top", "bottom"], false,
  (.cons (.asg (.tup (.cons (.name 1) (.cons (.name 2) .nil))) (.var 0)) (.cons (.ret (.prim .lst (.cons (.prim (.bin .Mult) (.cons (.var 1) (.cons (.var 2) .nil))) (.cons (.prim (.bin .Mult) (.cons (.var 1) (.cons (.var 1) .nil))) (.cons (.prim (.bin .Mult) (.cons (.var 2) (.cons (.var 2) .nil))) .nil))))) .nil)), none, false⟩

/-- number 320 -/
def f_law_along : Fn := ⟨"_law_along", ["line", "spot"], ["line", "spot", "some", "mate"], false,
  (.cons (.ret (.prim (.blt .sum) (.cons (.comp (.prim (.bin .Mult) (.cons (.var 2) (.cons (.var 3) .nil))) (.tup (.cons (.name 2) (.cons (.name 3) .nil))) .zip (.cons (.var 0) (.cons (.var 1) .nil)) .nil [("some", 2), ("mate", 3)]) .nil))) .nil), none, false⟩

/-- number 321 -/
def f_law_touches : Fn := ⟨"_law_touches", ["curve", "line"], ["curve", "line", "a", "b", "c", "d", "e", "f", "x", "y", "z", "total"], false,
  (.cons (.asg (.tup (.cons (.name 2) (.cons (.name 3) (.cons (.name 4) (.cons (.name 5) (.cons (.name 6) (.cons (.name 7) .nil))))))) (.var 0)) (.cons (.asg (.tup (.cons (.name 8) (.cons (.name 9) (.cons (.name 10) .nil)))) (.var 1)) (.cons (.asg (.name 11) (.prim (.bin .Mult) (.cons (.prim (.bin .Mult) (.cons (.var 8) (.cons (.var 8) .nil))) (.cons (.prim (.bin .Sub) (.cons (.prim (.bin .Mult) (.cons (.prim (.bin .Mult) (.cons (.const (.int 4)) (.cons (.var 4) .nil))) (.cons (.var 7) .nil))) (.cons (.prim (.bin .Mult) (.cons (.var 6) (.cons (.var 6) .nil))) .nil))) .nil)))) (.cons (.asg (.name 11) (.prim (.bin .Add) (.cons (.var 11) (.cons (.prim (.bin .Mult) (.cons (.prim (.bin .Mult) (.cons (.var 9) (.cons (.var 9) .nil))) (.cons (.prim (.bin .Sub) (.cons (.prim (.bin .Mult) (.cons (.prim (.bin .Mult) (.cons (.const (.int 4)) (.cons (.var 2) .nil))) (.cons (.var 7) .nil))) (.cons (.prim (.bin .Mult) (.cons (.var 5) (.cons (.var 5) .nil))) .nil))) .nil))) .nil)))) (.cons (.asg (.name 11) (.prim (.bin .Add) (.cons (.var 11) (.cons (.prim (.bin .Mult) (.cons (.prim (.bin .Mult) (.cons (.var 10) (.cons (.var 10) .nil))) (.cons (.prim (.bin .Sub) (.cons (.prim (.bin .Mult) (.cons (.prim (.bin .Mult) (.cons (.const (.int 4)) (.cons (.var 2) .nil))) (.cons (.var 4) .nil))) (.cons (.prim (.bin .Mult) (.cons (.var 3) (.cons (.var 3) .nil))) .nil))) .nil))) .nil)))) (.cons (.asg (.name 11) (.prim (.bin .Add) (.cons (.var 11) (.cons (.prim (.bin .Mult) (.cons (.prim (.bin .Mult) (.cons (.prim (.bin .Mult) (.cons (.const (.int 2)) (.cons (.var 8) .nil))) (.cons (.var 9) .nil))) (.cons (.prim (.bin .Sub) (.cons (.prim (.bin .Mult) (.cons (.var 5) (.cons (.var 6) .nil))) (.cons (.prim (.bin .Mult) (.cons (.prim (.bin .Mult) (.cons (.const (.int 2)) (.cons (.var 3) .nil))) (.cons (.var 7) .nil))) .nil))) .nil))) .nil)))) (.cons (.asg (.name 11) (.prim (.bin .Add) (.cons (.var 11) (.cons (.prim (.bin .Mult) (.cons (.prim (.bin .Mult) (.cons (.prim (.bin .Mult) (.cons (.const (.int 2)) (.cons (.var 8) .nil))) (.cons (.var 10) .nil))) (.cons (.prim (.bin .Sub) (.cons (.prim (.bin .Mult) (.cons (.var 3) (.cons (.var 6) .nil))) (.cons (.prim (.bin .Mult) (.cons (.prim (.bin .Mult) (.cons (.const (.int 2)) (.cons (.var 4) .nil))) (.cons (.var 5) .nil))) .nil))) .nil))) .nil)))) (.cons (.ret (.prim (.cmp .Eq) (.cons (.prim (.bin .Add) (.cons (.var 11) (.cons (.prim (.bin .Mult) (.cons (.prim (.bin .Mult) (.cons (.prim (.bin .Mult) (.cons (.const (.int 2)) (.cons (.var 9) .nil))) (.cons (.var 10) .nil))) (.cons (.prim (.bin .Sub) (.cons (.prim (.bin .Mult) (.cons (.var 3) (.cons (.var 5) .nil))) (.cons (.prim (.bin .Mult) (.cons (.prim (.bin .Mult) (.cons (.const (.int 2)) (.cons (.var 2) .nil))) (.cons (.var 6) .nil))) .nil))) .nil))) .nil))) (.cons (.const (.int 0)) .nil)))) .nil)))))))), none, false⟩

/-- number 322 -/
def f_law_side_right_0 : Fn := ⟨"_law_side_right", ["made", "curve", "left", "right"], ["made", "curve", "left", "right", "line", "spot", "slope"], false,
  (.cons (.asg (.name 4) (.callk 236 .nil ["first", "second"] (.cons (.var 2) (.cons (.var 3) .nil)) [0, 1])) (.cons (.ifs (.orE (.prim (.cmp .NotEq) (.cons (.var 4) (.cons (.call 30 (.cons (.var 4) .nil)) .nil))) (.one (.prim (.cmp .NotEq) (.cons (.var 4) (.cons (.call 236 (.cons (.var 3) (.cons (.var 2) .nil))) .nil)))))
    (.cons (.ret (.const (.bl false))) .nil)
    .nil) (.cons (.ifs (.orE (.prim (.cmp .NotEq) (.cons (.call 320 (.cons (.var 4) (.cons (.call 319 (.cons (.var 2) .nil)) .nil))) (.cons (.const (.int 0)) .nil))) (.one (.prim (.cmp .NotEq) (.cons (.call 320 (.cons (.var 4) (.cons (.call 319 (.cons (.var 3) .nil)) .nil))) (.cons (.const (.int 0)) .nil)))))
    (.cons (.ret (.const (.bl false))) .nil)
    .nil) (.cons (.asg (.name 5) (.callk 247 .nil ["relation", "first", "second"] (.cons (.var 0) (.cons (.var 2) (.cons (.var 3) .nil))) [0, 1, 2])) (.cons (.ifs (.orE (.prim (.cmp .NotEq) (.cons (.var 5) (.cons (.call 30 (.cons (.var 5) .nil)) .nil))) (.orE (.prim (.cmp .NotEq) (.cons (.call 320 (.cons (.var 4) (.cons (.var 5) .nil))) (.cons (.const (.int 0)) .nil))) (.one (.prim (.cmp .NotEq) (.cons (.call 317 (.cons (.var 1) (.cons (.var 5) .nil))) (.cons (.const (.int 0)) .nil))))))
    (.cons (.ret (.const (.bl false))) .nil)
    .nil) (.cons (.asg (.name 6) (.call 318 (.cons (.var 1) (.cons (.var 5) .nil)))) (.cons (.ifs (.orE (.andE (.prim (.cmp .NotEq) (.cons (.var 6) (.cons (.prim .lst (.cons (.const (.int 0)) (.cons (.const (.int 0)) (.cons (.const (.int 0)) .nil)))) .nil))) (.one (.prim (.cmp .NotEq) (.cons (.call 30 (.cons (.var 6) .nil)) (.cons (.var 4) .nil))))) (.one (.notE (.call 321 (.cons (.var 1) (.cons (.var 4) .nil))))))
    (.cons (.ret (.const (.bl false))) .nil)
    .nil) (.cons (.ret (.prim (.cmp .Eq) (.cons (.call 247 (.cons (.var 0) (.cons (.var 3) (.cons (.var 2) .nil)))) (.cons (.var 5) .nil)))) .nil)))))))), none, false⟩

/-- number 323 -/
def f_law_right_60 : Fn := ⟨"_law_right", ["pool"], ["pool", "numbers_here", "left", "right", "made", "curve", "some", "line", "at", "spots", "first_spot", "second_spot", "holds_here"], false,
  (.cons (.asg (.tup (.cons (.name 1) (.cons (.name 2) (.cons (.name 3) .nil)))) (.call 39 (.cons (.var 0) .nil))) (.cons (.asg (.name 4) (.call 357 (.cons (.var 1) .nil))) (.cons (.asg (.name 5) (.callk 240 .nil ["relation"] (.cons (.var 4) .nil) [0])) (.cons (.ifs (.orE (.prim (.cmp .NotEq) (.cons (.var 5) (.cons (.call 30 (.cons (.var 5) .nil)) .nil))) (.one (.prim (.cmp .NotEq) (.cons (.call 240 (.cons (.make 1 354 (.cons (.comp (.prim (.bin .Sub) (.cons (.const (.int 0)) (.cons (.var 6) .nil))) (.name 6) .seq (.cons (.var 1) .nil) .nil [("some", 6)]) .nil)) .nil)) (.cons (.var 5) .nil)))))
    (.cons (.ret (.const (.bl false))) .nil)
    .nil) (.cons (.asg (.name 7) (.call 61 (.cons (.var 4) (.cons (.var 2) (.cons (.var 3) (.cons (.const (.int 6)) .nil)))))) (.cons (.fors (.name 8) .range (.cons (.const (.int 5)) .nil)
    (.cons (.ifs (.notE (.call 322 (.cons (.var 4) (.cons (.var 5) (.cons (.prim .idx (.cons (.var 7) (.cons (.var 8) .nil))) (.cons (.prim .idx (.cons (.var 7) (.cons (.prim (.bin .Add) (.cons (.var 8) (.cons (.const (.int 1)) .nil))) .nil))) .nil))))))
    (.cons (.ret (.const (.bl false))) .nil)
    .nil) .nil)) (.cons (.asg (.name 9) (.prim (.bin .Add) (.cons (.prim .lst (.cons (.prim .tup (.cons (.const (.int 0)) (.cons (.const (.int 1)) .nil))) (.cons (.prim .tup (.cons (.const (.int 1)) (.cons (.const (.int 1)) .nil))) (.cons (.prim .tup (.cons (.prim .neg (.cons (.const (.int 1)) .nil)) (.cons (.const (.int 2)) .nil))) (.cons (.prim .tup (.cons (.const (.int 1)) (.cons (.const (.int 0)) .nil))) (.cons (.prim .tup (.cons (.const (.int 3)) (.cons (.const (.int 1)) .nil))) .nil)))))) (.cons (.prim (.slc false true) (.cons (.var 7) (.cons (.const (.int 3)) .nil))) .nil)))) (.cons (.fors (.name 10) .seq (.cons (.var 9) .nil)
    (.cons (.fors (.name 11) .seq (.cons (.var 9) .nil)
    (.cons (.asg (.name 12) (.prim (.cmp .Eq) (.cons (.call 31 (.cons (.var 1) (.cons (.var 10) (.cons (.var 11) .nil)))) (.cons (.const (.int 0)) .nil)))) (.cons (.ifs (.prim (.cmp .NotEq) (.cons (.call 321 (.cons (.var 5) (.cons (.call 236 (.cons (.var 10) (.cons (.var 11) .nil))) .nil))) (.cons (.var 12) .nil)))
    (.cons (.ret (.const (.bl false))) .nil)
    .nil) .nil))) .nil)) (.cons (.ret (.prim (.cmp .Eq) (.cons (.call 236 (.cons (.prim .tup (.cons (.const (.int 1)) (.cons (.const (.int 0)) .nil))) (.cons (.prim .tup (.cons (.const (.int 1)) (.cons (.const (.int 0)) .nil))) .nil))) (.cons (.prim .lst (.cons (.const (.int 0)) (.cons (.const (.int 0)) (.cons (.const (.int 1)) .nil)))) .nil)))) .nil))))))))), none, false⟩

/-- number 324 -/
def f_law_60 : Fn := ⟨"law", ["script"], ["script", "spot", "pool", "turn"], false,
  (.cons (.fors (.name 1) .range (.cons (.prim (.blt .max2) (.cons (.const (.int 1)) (.cons (.prim (.blt .min2) (.cons (.const (.int 6)) (.cons (.prim (.blt .len) (.cons (.var 0) .nil)) .nil))) .nil))) .nil)
    (.cons (.asg (.name 2) (.call 0 (.cons (.var 0) (.cons (.var 1) .nil)))) (.cons (.fors (.name 3) .range (.cons (.const (.int 2)) .nil)
    (.cons (.ifs (.notE (.call 323 (.cons (.var 2) .nil)))
    (.cons (.ret (.const (.bl false))) .nil)
    .nil) .nil)) .nil))) (.cons (.ret (.const (.bl true))) .nil)), none, false⟩

end CC
namespace CC
open PySem L2
theorem sp_common_divisor {T : Nat → Option Fn} {k : Nat} (h6 : T 6 = some f_common_divisor) (a b : Int) (S : Store) : wpF T (k + 1) 6 [.int a, .int b] S (fun d S1 => d = .int (Int.gcd a b) ∧ S1 = S) fun _ _ => False := by
  rw [wF h6]
  simp only [f_common_divisor, sd_cons, sd_nil, sd_zero, List.length_cons, List.length_nil, w_var, w_const, w_glob, w_prim, w_meth, w_cut, w_not, w_and, w_or, w_one, w_ite, w_chain, w_call, w_callk, wa_nil, wa_cons, wt_name, wt_tup, wts_nil, wts_cons, wt_sub, ws_nil, ws_cons, w_expr, w_asg, w_setc, w_par2, w_par3, w_aug, w_ret, w_retN, w_ifs, w_never, seqD_tup, tgsLen, p_add, p_sub, p_mul, p_div, p_mod, p_pow, p_neg, p_eq, p_ne, p_lt, p_le, p_gt, p_ge, p_abs, p_int, p_max, p_min, p_tup, p_lst, p_ixT, p_lenT, truth_bl, onV_some, onB_some, onN_some, onD_bl, onO_some, onL_some, on2_eq, on3_eq, onC_nil, onC_one, onAug_sub, onAug_add, onAug_mul, List.getElem?_cons_zero, List.getElem?_cons_succ, List.set_cons_zero, List.set_cons_succ, wipeD, List.map_cons, List.map_nil, true_and, and_true, decide_eq_true_eq, Bool.not_eq_true', decide_eq_false_iff_not, Nat.reduceAdd, Nat.zero_add, atI_0, atI_1, atI_2, p_eqT2, p_neT2, p_isT, p_isI, p_isB, reduceIte, reduceCtorEq, Int.cast_ofNat_Int, not_true_eq_false, not_false_eq_true, eq_self, if_false, if_true, Bool.true_eq_false, Bool.false_eq_true, Bool.not_true, Bool.not_false, Bool.and_true, Bool.true_and, Bool.and_false, Bool.false_and, p_inT2, p_neS, p_eqS]
  refine wp_while (wpF_mono _ _) (fun m σ S1 => ∃ x y : Nat, σ = [some (.int x), some (.int y)] ∧ S1 = S ∧ m = y ∧ Nat.gcd x y = Int.gcd a b) b.natAbs ⟨a.natAbs, b.natAbs, rfl, rfl, rfl, rfl⟩ fun m σ S1 h => ?_
  obtain ⟨x, y, rfl, rfl, rfl, h⟩ := h
  simp only [sd_cons, sd_nil, sd_zero, List.length_cons, List.length_nil, w_var, w_const, w_glob, w_prim, w_meth, w_cut, w_not, w_and, w_or, w_one, w_ite, w_chain, w_call, w_callk, wa_nil, wa_cons, wt_name, wt_tup, wts_nil, wts_cons, wt_sub, ws_nil, ws_cons, w_expr, w_asg, w_setc, w_par2, w_par3, w_aug, w_ret, w_retN, w_ifs, w_never, seqD_tup, tgsLen, p_add, p_sub, p_mul, p_div, p_mod, p_pow, p_neg, p_eq, p_ne, p_lt, p_le, p_gt, p_ge, p_abs, p_int, p_max, p_min, p_tup, p_lst, p_ixT, p_lenT, truth_bl, onV_some, onB_some, onN_some, onD_bl, onO_some, onL_some, on2_eq, on3_eq, onC_nil, onC_one, onAug_sub, onAug_add, onAug_mul, List.getElem?_cons_zero, List.getElem?_cons_succ, List.set_cons_zero, List.set_cons_succ, wipeD, List.map_cons, List.map_nil, true_and, and_true, decide_eq_true_eq, Bool.not_eq_true', decide_eq_false_iff_not, Nat.reduceAdd, Nat.zero_add, atI_0, atI_1, atI_2, p_eqT2, p_neT2, p_isT, p_isI, p_isB, reduceIte, reduceCtorEq, Int.cast_ofNat_Int, not_true_eq_false, not_false_eq_true, eq_self, if_false, if_true, Bool.true_eq_false, Bool.false_eq_true, Bool.not_true, Bool.not_false, Bool.and_true, Bool.true_and, Bool.and_false, Bool.false_and, p_inT2, p_neS, p_eqS]
  split
  · rename_i hm
    refine ⟨hm, x % m, Nat.mod_lt _ (by omega), m, x % m, by rw [fmod_nat], rfl, ?_⟩
    rw [← h, Nat.gcd_comm x m, Nat.gcd_rec m x, Nat.gcd_comm]
  · rename_i hm
    have : m = 0 := by omega
    subst this
    rw [← h, Nat.gcd_zero_right]
/-- a list's numbers -/
def gcds (ns : List Int) : Nat := ns.foldl (fun d n => Int.gcd d n) 0
def lead (ns : List Int) : Int := (ns.filter (· ≠ 0)).headD 0
def dvd (ns : List Int) : List Int := ns.map fun n => n.fdiv (if 0 < lead ns then (gcds ns : Int) else -(gcds ns : Int))
theorem gcds_take {ns : List Int} {i : Nat} {n : Int} (h : ns[i]? = some n) : gcds (ns.take (i + 1)) = Int.gcd (gcds (ns.take i)) n := by
  unfold gcds
  rw [List.take_add_one, h]
  simp [List.foldl_append]
theorem gcds_go : ∀ (ns : List Int) (d : Nat), (ns.foldl (fun d n => Int.gcd d n) d = 0 ↔ d = 0 ∧ ∀ n ∈ ns, n = 0) ∧ (ns.foldl (fun d n => Int.gcd d n) d) ∣ d ∧ ∀ n ∈ ns, ((ns.foldl (fun d n => Int.gcd d n) d : Nat) : Int) ∣ n
  | [], d => ⟨by simp, Nat.dvd_refl _, fun _ h => nomatch h⟩
  | a :: r, d => by
    obtain ⟨h1, h2, h3⟩ := gcds_go r (Int.gcd d a)
    rw [List.foldl_cons]
    refine ⟨?_, Nat.dvd_trans h2 ?_, fun n hn => ?_⟩
    · rw [h1, Int.gcd_eq_zero_iff]
      simp only [List.mem_cons, forall_eq_or_imp]
      constructor
      · rintro ⟨⟨a1, a2⟩, a3⟩
        exact ⟨by omega, a2, a3⟩
      · rintro ⟨a1, a2, a3⟩
        exact ⟨⟨by omega, a2⟩, a3⟩
    · have := Int.gcd_dvd_left (d : Int) a
      exact Int.natCast_dvd_natCast.mp this
    · rcases List.mem_cons.mp hn with e | e
      · subst e
        exact Int.dvd_trans (Int.natCast_dvd_natCast.mpr h2) (Int.gcd_dvd_right _ _)
      · exact h3 n e
theorem gcds_ne {ns : List Int} (h : ∃ n ∈ ns, n ≠ 0) : gcds ns ≠ 0 := fun e => by
  obtain ⟨n, hn, h0⟩ := h
  exact h0 (((gcds_go ns 0).1.mp e).2 n hn)
theorem gcds_dvd {ns : List Int} {n : Int} (h : n ∈ ns) : (gcds ns : Int) ∣ n := (gcds_go ns 0).2.2 n h
theorem gcds_bd {ns : List Int} {b : Nat} (hb : ∀ n ∈ ns, Bd b n) (h : ∃ n ∈ ns, n ≠ 0) : Bd b (gcds ns : Int) := by
  obtain ⟨n, hn, h0⟩ := h
  have h1 : gcds ns ∣ n.natAbs := by
    have := Int.natAbs_dvd_natAbs.mpr (gcds_dvd hn)
    simpa using this
  have h2 := Nat.le_of_dvd (by omega) h1
  have h3 := hb n hn
  unfold Bd at *
  simp only [Int.natAbs_natCast]
  omega
theorem sp_divided {T : Nat → Option Fn} {k : Nat} (h6 : T 6 = some f_common_divisor) (h27 : T 27 = some f_divided) (l : Nat) (ns : List Int) (S : Store) (hl : seqAt S l = some (ns.map D.int)) (hne : ∃ n ∈ ns, n ≠ 0) (hb : ∀ n ∈ ns, Bd 9000 n) (hz : ns.length ≤ sizeLine) :
    wpF T (k + 2) 27 [.ref l] S (fun d S1 => ∃ r, d = .ref r ∧ Gr S S1 ∧ S.length ≤ r ∧ S1[r]? = some (.lst ((dvd ns).map D.int))) fun _ _ => False := by
  rw [wF h27]
  simp only [f_divided, sd_cons, sd_nil, sd_zero, List.length_cons, List.length_nil, w_var, w_const, w_glob, w_prim, w_meth, w_cut, w_not, w_and, w_or, w_one, w_ite, w_chain, w_call, w_callk, wa_nil, wa_cons, wt_name, wt_tup, wts_nil, wts_cons, wt_sub, ws_nil, ws_cons, w_expr, w_asg, w_setc, w_par2, w_par3, w_aug, w_ret, w_retN, w_ifs, w_never, seqD_tup, tgsLen, p_add, p_sub, p_mul, p_div, p_mod, p_pow, p_neg, p_eq, p_ne, p_lt, p_le, p_gt, p_ge, p_abs, p_int, p_max, p_min, p_tup, p_lst, p_ixT, p_lenT, truth_bl, onV_some, onB_some, onN_some, onD_bl, onO_some, onL_some, on2_eq, on3_eq, onC_nil, onC_one, onAug_sub, onAug_add, onAug_mul, List.getElem?_cons_zero, List.getElem?_cons_succ, List.set_cons_zero, List.set_cons_succ, wipeD, List.map_cons, List.map_nil, true_and, and_true, decide_eq_true_eq, Bool.not_eq_true', decide_eq_false_iff_not, Nat.reduceAdd, Nat.zero_add, atI_0, atI_1, atI_2, p_eqT2, p_neT2, p_isT, p_isI, p_isB, reduceIte, reduceCtorEq, Int.cast_ofNat_Int, not_true_eq_false, not_false_eq_true, eq_self, if_false, if_true, Bool.true_eq_false, Bool.false_eq_true, Bool.not_true, Bool.not_false, Bool.and_true, Bool.true_and, Bool.and_false, Bool.false_and, p_inT2, p_neS, p_eqS]
  refine wp_for (wpF_mono _ _) ?_
  simp only [sd_cons, sd_nil, sd_zero, List.length_cons, List.length_nil, w_var, w_const, w_glob, w_prim, w_meth, w_cut, w_not, w_and, w_or, w_one, w_ite, w_chain, w_call, w_callk, wa_nil, wa_cons, wt_name, wt_tup, wts_nil, wts_cons, wt_sub, ws_nil, ws_cons, w_expr, w_asg, w_setc, w_par2, w_par3, w_aug, w_ret, w_retN, w_ifs, w_never, seqD_tup, tgsLen, p_add, p_sub, p_mul, p_div, p_mod, p_pow, p_neg, p_eq, p_ne, p_lt, p_le, p_gt, p_ge, p_abs, p_int, p_max, p_min, p_tup, p_lst, p_ixT, p_lenT, truth_bl, onV_some, onB_some, onN_some, onD_bl, onO_some, onL_some, on2_eq, on3_eq, onC_nil, onC_one, onAug_sub, onAug_add, onAug_mul, List.getElem?_cons_zero, List.getElem?_cons_succ, List.set_cons_zero, List.set_cons_succ, wipeD, List.map_cons, List.map_nil, true_and, and_true, decide_eq_true_eq, Bool.not_eq_true', decide_eq_false_iff_not, Nat.reduceAdd, Nat.zero_add, atI_0, atI_1, atI_2, p_eqT2, p_neT2, p_isT, p_isI, p_isB, reduceIte, reduceCtorEq, Int.cast_ofNat_Int, not_true_eq_false, not_false_eq_true, eq_self, if_false, if_true, Bool.true_eq_false, Bool.false_eq_true, Bool.not_true, Bool.not_false, Bool.and_true, Bool.true_and, Bool.and_false, Bool.false_and, p_inT2, p_neS, p_eqS, iterR, seqD, hl, holdOf]
  refine ⟨_, _, rfl, trivial, fun i σ S1 => ∃ z, σ = [some (.ref l), some (.int (gcds (ns.take i))), z, none, none] ∧ S1 = S, ⟨none, rfl, rfl⟩, fun i σ S1 _ hi => ?_, fun i x σ S1 hx hi => ?_, fun σ S1 hi => ?_⟩
  · obtain ⟨z, rfl, rfl⟩ := hi
    exact ok_one hl
  · obtain ⟨z, rfl, rfl⟩ := hi
    obtain ⟨n, hn, rfl⟩ := get_ints hx
    simp only [sd_cons, sd_nil, sd_zero, List.length_cons, List.length_nil, w_var, w_const, w_glob, w_prim, w_meth, w_cut, w_not, w_and, w_or, w_one, w_ite, w_chain, w_call, w_callk, wa_nil, wa_cons, wt_name, wt_tup, wts_nil, wts_cons, wt_sub, ws_nil, ws_cons, w_expr, w_asg, w_setc, w_par2, w_par3, w_aug, w_ret, w_retN, w_ifs, w_never, seqD_tup, tgsLen, p_add, p_sub, p_mul, p_div, p_mod, p_pow, p_neg, p_eq, p_ne, p_lt, p_le, p_gt, p_ge, p_abs, p_int, p_max, p_min, p_tup, p_lst, p_ixT, p_lenT, truth_bl, onV_some, onB_some, onN_some, onD_bl, onO_some, onL_some, on2_eq, on3_eq, onC_nil, onC_one, onAug_sub, onAug_add, onAug_mul, List.getElem?_cons_zero, List.getElem?_cons_succ, List.set_cons_zero, List.set_cons_succ, wipeD, List.map_cons, List.map_nil, true_and, and_true, decide_eq_true_eq, Bool.not_eq_true', decide_eq_false_iff_not, Nat.reduceAdd, Nat.zero_add, atI_0, atI_1, atI_2, p_eqT2, p_neT2, p_isT, p_isI, p_isB, reduceIte, reduceCtorEq, Int.cast_ofNat_Int, not_true_eq_false, not_false_eq_true, eq_self, if_false, if_true, Bool.true_eq_false, Bool.false_eq_true, Bool.not_true, Bool.not_false, Bool.and_true, Bool.true_and, Bool.and_false, Bool.false_and, p_inT2, p_neS, p_eqS]
    refine use (sp_common_divisor h6 _ _ _) fun d S2 hd => ?_
    obtain ⟨rfl, rfl⟩ := hd
    exact ⟨_, by rw [gcds_take hn], rfl⟩
  · obtain ⟨z, rfl, rfl⟩ := hi
    rw [List.length_map, List.take_length]
    refine wp_comp (wpF_mono _ _) ?_
    simp only [sd_cons, sd_nil, sd_zero, List.length_cons, List.length_nil, w_var, w_const, w_glob, w_prim, w_meth, w_cut, w_not, w_and, w_or, w_one, w_ite, w_chain, w_call, w_callk, wa_nil, wa_cons, wt_name, wt_tup, wts_nil, wts_cons, wt_sub, ws_nil, ws_cons, w_expr, w_asg, w_setc, w_par2, w_par3, w_aug, w_ret, w_retN, w_ifs, w_never, seqD_tup, tgsLen, p_add, p_sub, p_mul, p_div, p_mod, p_pow, p_neg, p_eq, p_ne, p_lt, p_le, p_gt, p_ge, p_abs, p_int, p_max, p_min, p_tup, p_lst, p_ixT, p_lenT, truth_bl, onV_some, onB_some, onN_some, onD_bl, onO_some, onL_some, on2_eq, on3_eq, onC_nil, onC_one, onAug_sub, onAug_add, onAug_mul, List.getElem?_cons_zero, List.getElem?_cons_succ, List.set_cons_zero, List.set_cons_succ, wipeD, List.map_cons, List.map_nil, true_and, and_true, decide_eq_true_eq, Bool.not_eq_true', decide_eq_false_iff_not, Nat.reduceAdd, Nat.zero_add, atI_0, atI_1, atI_2, p_eqT2, p_neT2, p_isT, p_isI, p_isB, reduceIte, reduceCtorEq, Int.cast_ofNat_Int, not_true_eq_false, not_false_eq_true, eq_self, if_false, if_true, Bool.true_eq_false, Bool.false_eq_true, Bool.not_true, Bool.not_false, Bool.and_true, Bool.true_and, Bool.and_false, Bool.false_and, p_inT2, p_neS, p_eqS, iterR, seqD, hl, holdOf]
    refine ⟨_, _, rfl, trivial, ok_one hl, by rw [List.length_map]; exact hz, fun x => match x with
      | .int n => if n ≠ 0 then some (.int n) else none
      | _ => none, fun i x S2 hx hg => ?_, fun S2 hg h2 => ?_⟩
    · obtain ⟨n, hn, rfl⟩ := get_ints hx
      simp only [sd_cons, sd_nil, sd_zero, List.length_cons, List.length_nil, w_var, w_const, w_glob, w_prim, w_meth, w_cut, w_not, w_and, w_or, w_one, w_ite, w_chain, w_call, w_callk, wa_nil, wa_cons, wt_name, wt_tup, wts_nil, wts_cons, wt_sub, ws_nil, ws_cons, w_expr, w_asg, w_setc, w_par2, w_par3, w_aug, w_ret, w_retN, w_ifs, w_never, seqD_tup, tgsLen, p_add, p_sub, p_mul, p_div, p_mod, p_pow, p_neg, p_eq, p_ne, p_lt, p_le, p_gt, p_ge, p_abs, p_int, p_max, p_min, p_tup, p_lst, p_ixT, p_lenT, truth_bl, onV_some, onB_some, onN_some, onD_bl, onO_some, onL_some, on2_eq, on3_eq, onC_nil, onC_one, onAug_sub, onAug_add, onAug_mul, List.getElem?_cons_zero, List.getElem?_cons_succ, List.set_cons_zero, List.set_cons_succ, wipeD, List.map_cons, List.map_nil, true_and, and_true, decide_eq_true_eq, Bool.not_eq_true', decide_eq_false_iff_not, Nat.reduceAdd, Nat.zero_add, atI_0, atI_1, atI_2, p_eqT2, p_neT2, p_isT, p_isI, p_isB, reduceIte, reduceCtorEq, Int.cast_ofNat_Int, not_true_eq_false, not_false_eq_true, eq_self, if_false, if_true, Bool.true_eq_false, Bool.false_eq_true, Bool.not_true, Bool.not_false, Bool.and_true, Bool.true_and, Bool.and_false, Bool.false_and, p_inT2, p_neS, p_eqS]
      by_cases h0 : n = 0
      · simp [h0, Gr.refl]
      · simp [h0, Gr.refl]
    · rw [filter_some (fun n : Int => decide (n ≠ 0)) _ D.int (fun n => by by_cases h : n = 0 <;> simp [h])] at h2
      obtain ⟨m, ms, hm⟩ : ∃ m ms, ns.filter (· ≠ 0) = m :: ms := by
        obtain ⟨n, h1, h3⟩ := hne
        exact List.exists_cons_of_ne_nil (List.ne_nil_of_mem (List.mem_filter.mpr ⟨h1, by simpa using h3⟩))
      rw [hm] at h2
      refine p_ixL (seqAt_lst h2) (atI_0 _ _) ?_
      have hlead : lead ns = m := by
        unfold lead
        rw [hm]
        rfl
      simp only [sd_cons, sd_nil, sd_zero, List.length_cons, List.length_nil, w_var, w_const, w_glob, w_prim, w_meth, w_cut, w_not, w_and, w_or, w_one, w_ite, w_chain, w_call, w_callk, wa_nil, wa_cons, wt_name, wt_tup, wts_nil, wts_cons, wt_sub, ws_nil, ws_cons, w_expr, w_asg, w_setc, w_par2, w_par3, w_aug, w_ret, w_retN, w_ifs, w_never, seqD_tup, tgsLen, p_add, p_sub, p_mul, p_div, p_mod, p_pow, p_neg, p_eq, p_ne, p_lt, p_le, p_gt, p_ge, p_abs, p_int, p_max, p_min, p_tup, p_lst, p_ixT, p_lenT, truth_bl, onV_some, onB_some, onN_some, onD_bl, onO_some, onL_some, on2_eq, on3_eq, onC_nil, onC_one, onAug_sub, onAug_add, onAug_mul, List.getElem?_cons_zero, List.getElem?_cons_succ, List.set_cons_zero, List.set_cons_succ, wipeD, List.map_cons, List.map_nil, true_and, and_true, decide_eq_true_eq, Bool.not_eq_true', decide_eq_false_iff_not, Nat.reduceAdd, Nat.zero_add, atI_0, atI_1, atI_2, p_eqT2, p_neT2, p_isT, p_isI, p_isB, reduceIte, reduceCtorEq, Int.cast_ofNat_Int, not_true_eq_false, not_false_eq_true, eq_self, if_false, if_true, Bool.true_eq_false, Bool.false_eq_true, Bool.not_true, Bool.not_false, Bool.and_true, Bool.true_and, Bool.and_false, Bool.false_and, p_inT2, p_neS, p_eqS]
      have hg0 : gcds ns ≠ 0 := gcds_ne hne
      have fin : ∀ (g : Int) (S3 : Store), g = (if 0 < lead ns then (gcds ns : Int) else -(gcds ns : Int)) → Gr S1 S3 → wpE false (wpF T (k + 1)) ((Ex.prim (Prim.bin Operator.FloorDiv) (Exs.cons (Ex.var 2) (Exs.cons (Ex.var 4) Exs.nil))).comp (Tg.name 2) ItK.seq (Exs.cons (Ex.var 0) Exs.nil) Exs.nil [(Str.ofString "number", 2)])
          [some (D.ref l), some (D.int (gcds ns)), z, some (D.int m), some (D.int g)] S3 (fun d S2 => ∃ r, d = D.ref r ∧ Gr S1 S2 ∧ S1.length ≤ r ∧ S2[r]? = some (O.lst (List.map D.int (dvd ns)))) fun x S1 => False := fun g S3 eg hg3 => by
        have hgb : Bd 9000 g := by
          have := gcds_bd hb hne
          rw [eg]
          split
          · exact this
          · exact this.neg
        refine wp_comp (wpF_mono _ _) ?_
        simp only [sd_cons, sd_nil, sd_zero, List.length_cons, List.length_nil, w_var, w_const, w_glob, w_prim, w_meth, w_cut, w_not, w_and, w_or, w_one, w_ite, w_chain, w_call, w_callk, wa_nil, wa_cons, wt_name, wt_tup, wts_nil, wts_cons, wt_sub, ws_nil, ws_cons, w_expr, w_asg, w_setc, w_par2, w_par3, w_aug, w_ret, w_retN, w_ifs, w_never, seqD_tup, tgsLen, p_add, p_sub, p_mul, p_div, p_mod, p_pow, p_neg, p_eq, p_ne, p_lt, p_le, p_gt, p_ge, p_abs, p_int, p_max, p_min, p_tup, p_lst, p_ixT, p_lenT, truth_bl, onV_some, onB_some, onN_some, onD_bl, onO_some, onL_some, on2_eq, on3_eq, onC_nil, onC_one, onAug_sub, onAug_add, onAug_mul, List.getElem?_cons_zero, List.getElem?_cons_succ, List.set_cons_zero, List.set_cons_succ, wipeD, List.map_cons, List.map_nil, true_and, and_true, decide_eq_true_eq, Bool.not_eq_true', decide_eq_false_iff_not, Nat.reduceAdd, Nat.zero_add, atI_0, atI_1, atI_2, p_eqT2, p_neT2, p_isT, p_isI, p_isB, reduceIte, reduceCtorEq, Int.cast_ofNat_Int, not_true_eq_false, not_false_eq_true, eq_self, if_false, if_true, Bool.true_eq_false, Bool.false_eq_true, Bool.not_true, Bool.not_false, Bool.and_true, Bool.true_and, Bool.and_false, Bool.false_and, p_inT2, p_neS, p_eqS, iterR, seqD, hg3.seq hl, holdOf]
        refine ⟨_, _, rfl, trivial, ok_one (hg3.seq hl), by rw [List.length_map]; exact hz, fun x => match x with
          | .int n => some (.int (n.fdiv g))
          | _ => none, fun i x S4 hx hg4 => ?_, fun S4 hg4 h4 => ?_⟩
        · obtain ⟨n, hn, rfl⟩ := get_ints hx
          simp only [sd_cons, sd_nil, sd_zero, List.length_cons, List.length_nil, w_var, w_const, w_glob, w_prim, w_meth, w_cut, w_not, w_and, w_or, w_one, w_ite, w_chain, w_call, w_callk, wa_nil, wa_cons, wt_name, wt_tup, wts_nil, wts_cons, wt_sub, ws_nil, ws_cons, w_expr, w_asg, w_setc, w_par2, w_par3, w_aug, w_ret, w_retN, w_ifs, w_never, seqD_tup, tgsLen, p_add, p_sub, p_mul, p_div, p_mod, p_pow, p_neg, p_eq, p_ne, p_lt, p_le, p_gt, p_ge, p_abs, p_int, p_max, p_min, p_tup, p_lst, p_ixT, p_lenT, truth_bl, onV_some, onB_some, onN_some, onD_bl, onO_some, onL_some, on2_eq, on3_eq, onC_nil, onC_one, onAug_sub, onAug_add, onAug_mul, List.getElem?_cons_zero, List.getElem?_cons_succ, List.set_cons_zero, List.set_cons_succ, wipeD, List.map_cons, List.map_nil, true_and, and_true, decide_eq_true_eq, Bool.not_eq_true', decide_eq_false_iff_not, Nat.reduceAdd, Nat.zero_add, atI_0, atI_1, atI_2, p_eqT2, p_neT2, p_isT, p_isI, p_isB, reduceIte, reduceCtorEq, Int.cast_ofNat_Int, not_true_eq_false, not_false_eq_true, eq_self, if_false, if_true, Bool.true_eq_false, Bool.false_eq_true, Bool.not_true, Bool.not_false, Bool.and_true, Bool.true_and, Bool.and_false, Bool.false_and, p_inT2, p_neS, p_eqS]
          refine ⟨⟨?_, hgb.divOk (Nat.le_refl _)⟩, Gr.refl _⟩
          rw [eg]
          split <;> omega
        · rw [map_some (fun n : Int => n.fdiv g) _ D.int D.int (fun n => rfl)] at h4
          refine ⟨_, rfl, hg3.trans hg4, hg3.len, ?_⟩
          rw [h4]
          unfold dvd
          rw [← eg]
      split
      · exact fin _ S2 (by rw [hlead, if_pos (by assumption)]) hg
      · exact fin _ S2 (by rw [hlead, if_neg (by assumption)]) hg

/-! ### points -/
def ptOf (a b : Int) : Int × Int := if b = 0 then (1, 0) else (a.fdiv (if 0 < b then (Int.gcd a b : Int) else -(Int.gcd a b : Int)), b.fdiv (if 0 < b then (Int.gcd a b : Int) else -(Int.gcd a b : Int)))
def ptD (p : Int × Int) : D := .tup [.int p.1, .int p.2]
theorem gcd_bd {n : Nat} {a b : Int} (ha : Bd n a) (h : b ≠ 0) (hb : Bd n b) : Bd n (Int.gcd a b : Int) := by
  have h1 : Int.gcd a b ≤ b.natAbs := Int.gcd_le_natAbs_right a h
  unfold Bd at *
  simp only [Int.natAbs_natCast]
  omega
theorem gcd_ne {a b : Int} (h : b ≠ 0) : (Int.gcd a b : Int) ≠ 0 := by
  have : Int.gcd a b ≠ 0 := fun e => h (Int.gcd_eq_zero_iff.mp e).2
  omega
theorem sp_point_of {T : Nat → Option Fn} {k : Nat} (h6 : T 6 = some f_common_divisor) (h7 : T 7 = some f_point_of) (a b : Int) (S : Store) (ha : Bd 9000 a) (hb : Bd 9000 b) :
    wpF T (k + 2) 7 [.int a, .int b] S (fun d S1 => d = ptD (ptOf a b) ∧ S1 = S) fun _ _ => False := by
  rw [wF h7]
  simp only [f_point_of, sd_cons, sd_nil, sd_zero, List.length_cons, List.length_nil, w_var, w_const, w_glob, w_prim, w_meth, w_cut, w_not, w_and, w_or, w_one, w_ite, w_chain, w_call, w_callk, wa_nil, wa_cons, wt_name, wt_tup, wts_nil, wts_cons, wt_sub, ws_nil, ws_cons, w_expr, w_asg, w_setc, w_par2, w_par3, w_aug, w_ret, w_retN, w_ifs, w_never, seqD_tup, tgsLen, p_add, p_sub, p_mul, p_div, p_mod, p_pow, p_neg, p_eq, p_ne, p_lt, p_le, p_gt, p_ge, p_abs, p_int, p_max, p_min, p_tup, p_lst, p_ixT, p_lenT, truth_bl, onV_some, onB_some, onN_some, onD_bl, onO_some, onL_some, on2_eq, on3_eq, onC_nil, onC_one, onAug_sub, onAug_add, onAug_mul, List.getElem?_cons_zero, List.getElem?_cons_succ, List.set_cons_zero, List.set_cons_succ, wipeD, List.map_cons, List.map_nil, true_and, and_true, decide_eq_true_eq, Bool.not_eq_true', decide_eq_false_iff_not, Nat.reduceAdd, Nat.zero_add, atI_0, atI_1, atI_2, p_eqT2, p_neT2, p_isT, p_isI, p_isB, reduceIte, reduceCtorEq, Int.cast_ofNat_Int, not_true_eq_false, not_false_eq_true, eq_self, if_false, if_true, Bool.true_eq_false, Bool.false_eq_true, Bool.not_true, Bool.not_false, Bool.and_true, Bool.true_and, Bool.and_false, Bool.false_and, p_inT2, p_neS, p_eqS]
  split
  · rename_i h
    unfold ptOf
    rw [if_pos h]
    rfl
  · rename_i h
    refine use (sp_common_divisor h6 _ _ _) fun d S2 hd => ?_
    obtain ⟨rfl, rfl⟩ := hd
    have g0 := gcd_ne (a := a) h
    have gb := gcd_bd ha h hb
    have dv : ∀ g : Int, Bd 9000 g → g ≠ 0 → ∀ i : Int, (g ≠ 0 ∧ DivOk i g) := fun g h1 h2 i => ⟨h2, h1.divOk (Nat.le_refl _)⟩
    simp only [sd_cons, sd_nil, sd_zero, List.length_cons, List.length_nil, w_var, w_const, w_glob, w_prim, w_meth, w_cut, w_not, w_and, w_or, w_one, w_ite, w_chain, w_call, w_callk, wa_nil, wa_cons, wt_name, wt_tup, wts_nil, wts_cons, wt_sub, ws_nil, ws_cons, w_expr, w_asg, w_setc, w_par2, w_par3, w_aug, w_ret, w_retN, w_ifs, w_never, seqD_tup, tgsLen, p_add, p_sub, p_mul, p_div, p_mod, p_pow, p_neg, p_eq, p_ne, p_lt, p_le, p_gt, p_ge, p_abs, p_int, p_max, p_min, p_tup, p_lst, p_ixT, p_lenT, truth_bl, onV_some, onB_some, onN_some, onD_bl, onO_some, onL_some, on2_eq, on3_eq, onC_nil, onC_one, onAug_sub, onAug_add, onAug_mul, List.getElem?_cons_zero, List.getElem?_cons_succ, List.set_cons_zero, List.set_cons_succ, wipeD, List.map_cons, List.map_nil, true_and, and_true, decide_eq_true_eq, Bool.not_eq_true', decide_eq_false_iff_not, Nat.reduceAdd, Nat.zero_add, atI_0, atI_1, atI_2, p_eqT2, p_neT2, p_isT, p_isI, p_isB, reduceIte, reduceCtorEq, Int.cast_ofNat_Int, not_true_eq_false, not_false_eq_true, eq_self, if_false, if_true, Bool.true_eq_false, Bool.false_eq_true, Bool.not_true, Bool.not_false, Bool.and_true, Bool.true_and, Bool.and_false, Bool.false_and, p_inT2, p_neS, p_eqS]
    unfold ptOf
    rw [if_neg h]
    split
    · rename_i hp
      exact ⟨dv _ gb g0 _, dv _ gb g0 _, by decide, rfl⟩
    · rename_i hp
      have gn : -(Int.gcd a b : Int) ≠ 0 := by omega
      exact ⟨dv _ gb.neg gn _, dv _ gb.neg gn _, by decide, rfl⟩
theorem sp_is_integer {T : Nat → Option Fn} {k : Nat} (h8 : T 8 = some f_is_integer) (a : Int) (S : Store) : wpF T (k + 1) 8 [.int a] S (fun d S1 => d = .bl true ∧ S1 = S) fun _ _ => False := by
  rw [wF h8]
  simp only [f_is_integer, sd_cons, sd_nil, sd_zero, List.length_cons, List.length_nil, w_var, w_const, w_glob, w_prim, w_meth, w_cut, w_not, w_and, w_or, w_one, w_ite, w_chain, w_call, w_callk, wa_nil, wa_cons, wt_name, wt_tup, wts_nil, wts_cons, wt_sub, ws_nil, ws_cons, w_expr, w_asg, w_setc, w_par2, w_par3, w_aug, w_ret, w_retN, w_ifs, w_never, seqD_tup, tgsLen, p_add, p_sub, p_mul, p_div, p_mod, p_pow, p_neg, p_eq, p_ne, p_lt, p_le, p_gt, p_ge, p_abs, p_int, p_max, p_min, p_tup, p_lst, p_ixT, p_lenT, truth_bl, onV_some, onB_some, onN_some, onD_bl, onO_some, onL_some, on2_eq, on3_eq, onC_nil, onC_one, onAug_sub, onAug_add, onAug_mul, List.getElem?_cons_zero, List.getElem?_cons_succ, List.set_cons_zero, List.set_cons_succ, wipeD, List.map_cons, List.map_nil, true_and, and_true, decide_eq_true_eq, Bool.not_eq_true', decide_eq_false_iff_not, Nat.reduceAdd, Nat.zero_add, atI_0, atI_1, atI_2, p_eqT2, p_neT2, p_isT, p_isI, p_isB, reduceIte, reduceCtorEq, Int.cast_ofNat_Int, not_true_eq_false, not_false_eq_true, eq_self, if_false, if_true, Bool.true_eq_false, Bool.false_eq_true, Bool.not_true, Bool.not_false, Bool.and_true, Bool.true_and, Bool.and_false, Bool.false_and, p_inT2, p_neS, p_eqS]
def isPt (p q : Int) : Bool := !(decide (p = 0) && decide (q = 0)) && (decide ((ptOf p q).1 = p) && decide ((ptOf p q).2 = q))
theorem sp_is_point {T : Nat → Option Fn} {k : Nat} (h6 : T 6 = some f_common_divisor) (h7 : T 7 = some f_point_of) (h8 : T 8 = some f_is_integer) (h9 : T 9 = some f_is_point) (p q : Int) (S : Store) (hp : Bd 9000 p) (hq : Bd 9000 q) :
    wpF T (k + 3) 9 [.tup [.int p, .int q]] S (fun d S1 => d = .bl (isPt p q) ∧ Gr S S1) fun _ _ => False := by
  rw [wF h9]
  simp only [f_is_point, sd_cons, sd_nil, sd_zero, List.length_cons, List.length_nil, w_var, w_const, w_glob, w_prim, w_meth, w_cut, w_not, w_and, w_or, w_one, w_ite, w_chain, w_call, w_callk, wa_nil, wa_cons, wt_name, wt_tup, wts_nil, wts_cons, wt_sub, ws_nil, ws_cons, w_expr, w_asg, w_setc, w_par2, w_par3, w_aug, w_ret, w_retN, w_ifs, w_never, seqD_tup, tgsLen, p_add, p_sub, p_mul, p_div, p_mod, p_pow, p_neg, p_eq, p_ne, p_lt, p_le, p_gt, p_ge, p_abs, p_int, p_max, p_min, p_tup, p_lst, p_ixT, p_lenT, truth_bl, onV_some, onB_some, onN_some, onD_bl, onO_some, onL_some, on2_eq, on3_eq, onC_nil, onC_one, onAug_sub, onAug_add, onAug_mul, List.getElem?_cons_zero, List.getElem?_cons_succ, List.set_cons_zero, List.set_cons_succ, wipeD, List.map_cons, List.map_nil, true_and, and_true, decide_eq_true_eq, Bool.not_eq_true', decide_eq_false_iff_not, Nat.reduceAdd, Nat.zero_add, atI_0, atI_1, atI_2, p_eqT2, p_neT2, p_isT, p_isI, p_isB, reduceIte, reduceCtorEq, Int.cast_ofNat_Int, not_true_eq_false, not_false_eq_true, eq_self, if_false, if_true, Bool.true_eq_false, Bool.false_eq_true, Bool.not_true, Bool.not_false, Bool.and_true, Bool.true_and, Bool.and_false, Bool.false_and, p_inT2, p_neS, p_eqS]
  refine wp_comp (wpF_mono _ _) ?_
  simp only [sd_cons, sd_nil, sd_zero, List.length_cons, List.length_nil, w_var, w_const, w_glob, w_prim, w_meth, w_cut, w_not, w_and, w_or, w_one, w_ite, w_chain, w_call, w_callk, wa_nil, wa_cons, wt_name, wt_tup, wts_nil, wts_cons, wt_sub, ws_nil, ws_cons, w_expr, w_asg, w_setc, w_par2, w_par3, w_aug, w_ret, w_retN, w_ifs, w_never, seqD_tup, tgsLen, p_add, p_sub, p_mul, p_div, p_mod, p_pow, p_neg, p_eq, p_ne, p_lt, p_le, p_gt, p_ge, p_abs, p_int, p_max, p_min, p_tup, p_lst, p_ixT, p_lenT, truth_bl, onV_some, onB_some, onN_some, onD_bl, onO_some, onL_some, on2_eq, on3_eq, onC_nil, onC_one, onAug_sub, onAug_add, onAug_mul, List.getElem?_cons_zero, List.getElem?_cons_succ, List.set_cons_zero, List.set_cons_succ, wipeD, List.map_cons, List.map_nil, true_and, and_true, decide_eq_true_eq, Bool.not_eq_true', decide_eq_false_iff_not, Nat.reduceAdd, Nat.zero_add, atI_0, atI_1, atI_2, p_eqT2, p_neT2, p_isT, p_isI, p_isB, reduceIte, reduceCtorEq, Int.cast_ofNat_Int, not_true_eq_false, not_false_eq_true, eq_self, if_false, if_true, Bool.true_eq_false, Bool.false_eq_true, Bool.not_true, Bool.not_false, Bool.and_true, Bool.true_and, Bool.and_false, Bool.false_and, p_inT2, p_neS, p_eqS, iterR, seqD, holdOf]
  refine ⟨_, _, rfl, trivial, ok_nil, (by decide : 2 ≤ sizeLine), fun x => match x with
    | .int n => some (.bl true)
    | _ => none, fun i x S2 hx hg => ?_, fun S2 hg h2 => ?_⟩
  · obtain ⟨n, hn, rfl⟩ := get_ints (ns := [p, q]) hx
    simp only [sd_cons, sd_nil, sd_zero, List.length_cons, List.length_nil, w_var, w_const, w_glob, w_prim, w_meth, w_cut, w_not, w_and, w_or, w_one, w_ite, w_chain, w_call, w_callk, wa_nil, wa_cons, wt_name, wt_tup, wts_nil, wts_cons, wt_sub, ws_nil, ws_cons, w_expr, w_asg, w_setc, w_par2, w_par3, w_aug, w_ret, w_retN, w_ifs, w_never, seqD_tup, tgsLen, p_add, p_sub, p_mul, p_div, p_mod, p_pow, p_neg, p_eq, p_ne, p_lt, p_le, p_gt, p_ge, p_abs, p_int, p_max, p_min, p_tup, p_lst, p_ixT, p_lenT, truth_bl, onV_some, onB_some, onN_some, onD_bl, onO_some, onL_some, on2_eq, on3_eq, onC_nil, onC_one, onAug_sub, onAug_add, onAug_mul, List.getElem?_cons_zero, List.getElem?_cons_succ, List.set_cons_zero, List.set_cons_succ, wipeD, List.map_cons, List.map_nil, true_and, and_true, decide_eq_true_eq, Bool.not_eq_true', decide_eq_false_iff_not, Nat.reduceAdd, Nat.zero_add, atI_0, atI_1, atI_2, p_eqT2, p_neT2, p_isT, p_isI, p_isB, reduceIte, reduceCtorEq, Int.cast_ofNat_Int, not_true_eq_false, not_false_eq_true, eq_self, if_false, if_true, Bool.true_eq_false, Bool.false_eq_true, Bool.not_true, Bool.not_false, Bool.and_true, Bool.true_and, Bool.and_false, Bool.false_and, p_inT2, p_neS, p_eqS]
    refine use (sp_is_integer h8 _ _) fun d S3 hd => ?_
    obtain ⟨rfl, rfl⟩ := hd
    exact ⟨rfl, Gr.refl _⟩
  · refine p_all (bs := [true, true]) (seqAt_lst h2) ?_
    simp only [sd_cons, sd_nil, sd_zero, List.length_cons, List.length_nil, w_var, w_const, w_glob, w_prim, w_meth, w_cut, w_not, w_and, w_or, w_one, w_ite, w_chain, w_call, w_callk, wa_nil, wa_cons, wt_name, wt_tup, wts_nil, wts_cons, wt_sub, ws_nil, ws_cons, w_expr, w_asg, w_setc, w_par2, w_par3, w_aug, w_ret, w_retN, w_ifs, w_never, seqD_tup, tgsLen, p_add, p_sub, p_mul, p_div, p_mod, p_pow, p_neg, p_eq, p_ne, p_lt, p_le, p_gt, p_ge, p_abs, p_int, p_max, p_min, p_tup, p_lst, p_ixT, p_lenT, truth_bl, onV_some, onB_some, onN_some, onD_bl, onO_some, onL_some, on2_eq, on3_eq, onC_nil, onC_one, onAug_sub, onAug_add, onAug_mul, List.getElem?_cons_zero, List.getElem?_cons_succ, List.set_cons_zero, List.set_cons_succ, wipeD, List.map_cons, List.map_nil, true_and, and_true, decide_eq_true_eq, Bool.not_eq_true', decide_eq_false_iff_not, Nat.reduceAdd, Nat.zero_add, atI_0, atI_1, atI_2, p_eqT2, p_neT2, p_isT, p_isI, p_isB, reduceIte, reduceCtorEq, Int.cast_ofNat_Int, not_true_eq_false, not_false_eq_true, eq_self, if_false, if_true, Bool.true_eq_false, Bool.false_eq_true, Bool.not_true, Bool.not_false, Bool.and_true, Bool.true_and, Bool.and_false, Bool.false_and, p_inT2, p_neS, p_eqS, List.all_cons, List.all_nil, id]
    refine ⟨by decide, ?_⟩
    split
    · rename_i h0
      refine use (sp_point_of h6 h7 _ _ _ hp hq) fun d S3 hd => ?_
      obtain ⟨rfl, rfl⟩ := hd
      simp only [sd_cons, sd_nil, sd_zero, List.length_cons, List.length_nil, w_var, w_const, w_glob, w_prim, w_meth, w_cut, w_not, w_and, w_or, w_one, w_ite, w_chain, w_call, w_callk, wa_nil, wa_cons, wt_name, wt_tup, wts_nil, wts_cons, wt_sub, ws_nil, ws_cons, w_expr, w_asg, w_setc, w_par2, w_par3, w_aug, w_ret, w_retN, w_ifs, w_never, seqD_tup, tgsLen, p_add, p_sub, p_mul, p_div, p_mod, p_pow, p_neg, p_eq, p_ne, p_lt, p_le, p_gt, p_ge, p_abs, p_int, p_max, p_min, p_tup, p_lst, p_ixT, p_lenT, truth_bl, onV_some, onB_some, onN_some, onD_bl, onO_some, onL_some, on2_eq, on3_eq, onC_nil, onC_one, onAug_sub, onAug_add, onAug_mul, List.getElem?_cons_zero, List.getElem?_cons_succ, List.set_cons_zero, List.set_cons_succ, wipeD, List.map_cons, List.map_nil, true_and, and_true, decide_eq_true_eq, Bool.not_eq_true', decide_eq_false_iff_not, Nat.reduceAdd, Nat.zero_add, atI_0, atI_1, atI_2, p_eqT2, p_neT2, p_isT, p_isI, p_isB, reduceIte, reduceCtorEq, Int.cast_ofNat_Int, not_true_eq_false, not_false_eq_true, eq_self, if_false, if_true, Bool.true_eq_false, Bool.false_eq_true, Bool.not_true, Bool.not_false, Bool.and_true, Bool.true_and, Bool.and_false, Bool.false_and, p_inT2, p_neS, p_eqS, ptD]
      refine ⟨?_, hg⟩
      unfold isPt
      rw [h0]
      rfl
    · rename_i h0
      refine ⟨?_, hg⟩
      unfold isPt
      have : (decide (p = 0) && decide (q = 0)) = true := by
        cases e : (decide (p = 0) && decide (q = 0))
        · exact absurd e h0
        · rfl
      rw [this]
      rfl
theorem sp_check_point {T : Nat → Option Fn} {k : Nat} (h6 : T 6 = some f_common_divisor) (h7 : T 7 = some f_point_of) (h8 : T 8 = some f_is_integer) (h9 : T 9 = some f_is_point) (h19 : T 19 = some f_check_point) (p q : Int) (S : Store) (hp : Bd 9000 p) (hq : Bd 9000 q) (h : isPt p q = true) :
    wpF T (k + 4) 19 [.tup [.int p, .int q]] S (fun d S1 => d = .non ∧ Gr S S1) fun _ _ => False := by
  rw [wF h19]
  simp only [f_check_point, sd_cons, sd_nil, sd_zero, List.length_cons, List.length_nil, w_var, w_const, w_glob, w_prim, w_meth, w_cut, w_not, w_and, w_or, w_one, w_ite, w_chain, w_call, w_callk, wa_nil, wa_cons, wt_name, wt_tup, wts_nil, wts_cons, wt_sub, ws_nil, ws_cons, w_expr, w_asg, w_setc, w_par2, w_par3, w_aug, w_ret, w_retN, w_ifs, w_never, seqD_tup, tgsLen, p_add, p_sub, p_mul, p_div, p_mod, p_pow, p_neg, p_eq, p_ne, p_lt, p_le, p_gt, p_ge, p_abs, p_int, p_max, p_min, p_tup, p_lst, p_ixT, p_lenT, truth_bl, onV_some, onB_some, onN_some, onD_bl, onO_some, onL_some, on2_eq, on3_eq, onC_nil, onC_one, onAug_sub, onAug_add, onAug_mul, List.getElem?_cons_zero, List.getElem?_cons_succ, List.set_cons_zero, List.set_cons_succ, wipeD, List.map_cons, List.map_nil, true_and, and_true, decide_eq_true_eq, Bool.not_eq_true', decide_eq_false_iff_not, Nat.reduceAdd, Nat.zero_add, atI_0, atI_1, atI_2, p_eqT2, p_neT2, p_isT, p_isI, p_isB, reduceIte, reduceCtorEq, Int.cast_ofNat_Int, not_true_eq_false, not_false_eq_true, eq_self, if_false, if_true, Bool.true_eq_false, Bool.false_eq_true, Bool.not_true, Bool.not_false, Bool.and_true, Bool.true_and, Bool.and_false, Bool.false_and, p_inT2, p_neS, p_eqS]
  refine use (sp_is_point h6 h7 h8 h9 _ _ _ hp hq) fun d S3 hd => ?_
  obtain ⟨rfl, hg⟩ := hd
  simp only [sd_cons, sd_nil, sd_zero, List.length_cons, List.length_nil, w_var, w_const, w_glob, w_prim, w_meth, w_cut, w_not, w_and, w_or, w_one, w_ite, w_chain, w_call, w_callk, wa_nil, wa_cons, wt_name, wt_tup, wts_nil, wts_cons, wt_sub, ws_nil, ws_cons, w_expr, w_asg, w_setc, w_par2, w_par3, w_aug, w_ret, w_retN, w_ifs, w_never, seqD_tup, tgsLen, p_add, p_sub, p_mul, p_div, p_mod, p_pow, p_neg, p_eq, p_ne, p_lt, p_le, p_gt, p_ge, p_abs, p_int, p_max, p_min, p_tup, p_lst, p_ixT, p_lenT, truth_bl, onV_some, onB_some, onN_some, onD_bl, onO_some, onL_some, on2_eq, on3_eq, onC_nil, onC_one, onAug_sub, onAug_add, onAug_mul, List.getElem?_cons_zero, List.getElem?_cons_succ, List.set_cons_zero, List.set_cons_succ, wipeD, List.map_cons, List.map_nil, true_and, and_true, decide_eq_true_eq, Bool.not_eq_true', decide_eq_false_iff_not, Nat.reduceAdd, Nat.zero_add, atI_0, atI_1, atI_2, p_eqT2, p_neT2, p_isT, p_isI, p_isB, reduceIte, reduceCtorEq, Int.cast_ofNat_Int, not_true_eq_false, not_false_eq_true, eq_self, if_false, if_true, Bool.true_eq_false, Bool.false_eq_true, Bool.not_true, Bool.not_false, Bool.and_true, Bool.true_and, Bool.and_false, Bool.false_and, p_inT2, p_neS, p_eqS, h]
  exact hg

/-! ### the pool of a law -/
def Pool (S : Store) (r n : Nat) : Prop := ∃ a b c : Int, S[r]? = some (.lst [.int a, .int b, .int c]) ∧ 0 ≤ b ∧ b < 2 ^ 62 ∧ 0 ≤ c ∧ c ≤ n
theorem Pool.gr {S S1 : Store} {r n : Nat} (h : Pool S r n) (g : Gr S S1) : Pool S1 r n := by
  obtain ⟨a, b, c, h1, h2⟩ := h
  exact ⟨a, b, c, g _ _ h1, h2⟩
theorem Pool.mono {S : Store} {r m n : Nat} (h : Pool S r m) (g : m ≤ n) : Pool S r n := by
  obtain ⟨a, b, c, h1, h2, h3, h4, h5⟩ := h
  exact ⟨a, b, c, h1, h2, h3, h4, by omega⟩
theorem sp_pool {T : Nat → Option Fn} {k : Nat} (h0 : T 0 = some f_law_pool) (l j : Nat) (ns : List Int) (S : Store) (hl : seqAt S l = some (ns.map D.int)) (hj : j < 100) :
    wpF T (k + 1) 0 [.ref l, .int j] S (fun d S1 => d = .ref S.length ∧ Gr S S1 ∧ Pool S1 S.length 0) fun _ _ => False := by
  rw [wF h0]
  simp only [f_law_pool, sd_cons, sd_nil, sd_zero, List.length_cons, List.length_nil, w_var, w_const, w_glob, w_prim, w_meth, w_cut, w_not, w_and, w_or, w_one, w_ite, w_chain, w_call, w_callk, wa_nil, wa_cons, wt_name, wt_tup, wts_nil, wts_cons, wt_sub, ws_nil, ws_cons, w_expr, w_asg, w_setc, w_par2, w_par3, w_aug, w_ret, w_retN, w_ifs, w_never, seqD_tup, tgsLen, p_add, p_sub, p_mul, p_div, p_mod, p_pow, p_neg, p_eq, p_ne, p_lt, p_le, p_gt, p_ge, p_abs, p_int, p_max, p_min, p_tup, p_lst, p_ixT, p_lenT, truth_bl, onV_some, onB_some, onN_some, onD_bl, onO_some, onL_some, on2_eq, on3_eq, onC_nil, onC_one, onAug_sub, onAug_add, onAug_mul, List.getElem?_cons_zero, List.getElem?_cons_succ, List.set_cons_zero, List.set_cons_succ, wipeD, List.map_cons, List.map_nil, true_and, and_true, decide_eq_true_eq, Bool.not_eq_true', decide_eq_false_iff_not, Nat.reduceAdd, Nat.zero_add, atI_0, atI_1, atI_2, p_eqT2, p_neT2, p_isT, p_isI, p_isB, reduceIte, reduceCtorEq, Int.cast_ofNat_Int, not_true_eq_false, not_false_eq_true, eq_self, if_false, if_true, Bool.true_eq_false, Bool.false_eq_true, Bool.not_true, Bool.not_false, Bool.and_true, Bool.true_and, Bool.and_false, Bool.false_and, p_inT2, p_neS, p_eqS]
  refine p_lenL hl ?_
  have mo : IntMulOk 7368787 ((j : Int) + 1) := Bd.mulOk (m := 30) (n := 30) (Bd.of (by decide) (by decide)) (Bd.of (by omega) (by omega)) (by decide) (by decide)
  have pw : (0 : Int) ≤ 18 ∧ (Builtin.Int.intBits 10 : Int) * 18 ≤ 2 ^ 27 := by decide
  have fin : ∀ a c : Int, Gr S (S ++ [O.lst [.int a, .int (c.fmod 2305843009213693951 + 7368787 * ((j : Int) + 1)), .int 0]]) ∧ Pool (S ++ [O.lst [.int a, .int (c.fmod 2305843009213693951 + 7368787 * ((j : Int) + 1)), .int 0]]) S.length 0 := fun a c => by
    have h1 := Int.fmod_nonneg_of_pos c (b := 2305843009213693951) (by decide)
    have h2 := Int.fmod_lt_of_pos c (b := 2305843009213693951) (by decide)
    exact ⟨Gr.push _ _, a, c.fmod 2305843009213693951 + 7368787 * ((j : Int) + 1), 0, by simp, by omega, by omega, by decide, by decide⟩
  simp only [sd_cons, sd_nil, sd_zero, List.length_cons, List.length_nil, w_var, w_const, w_glob, w_prim, w_meth, w_cut, w_not, w_and, w_or, w_one, w_ite, w_chain, w_call, w_callk, wa_nil, wa_cons, wt_name, wt_tup, wts_nil, wts_cons, wt_sub, ws_nil, ws_cons, w_expr, w_asg, w_setc, w_par2, w_par3, w_aug, w_ret, w_retN, w_ifs, w_never, seqD_tup, tgsLen, p_add, p_sub, p_mul, p_div, p_mod, p_pow, p_neg, p_eq, p_ne, p_lt, p_le, p_gt, p_ge, p_abs, p_int, p_max, p_min, p_tup, p_lst, p_ixT, p_lenT, truth_bl, onV_some, onB_some, onN_some, onD_bl, onO_some, onL_some, on2_eq, on3_eq, onC_nil, onC_one, onAug_sub, onAug_add, onAug_mul, List.getElem?_cons_zero, List.getElem?_cons_succ, List.set_cons_zero, List.set_cons_succ, wipeD, List.map_cons, List.map_nil, true_and, and_true, decide_eq_true_eq, Bool.not_eq_true', decide_eq_false_iff_not, Nat.reduceAdd, Nat.zero_add, atI_0, atI_1, atI_2, p_eqT2, p_neT2, p_isT, p_isI, p_isB, reduceIte, reduceCtorEq, Int.cast_ofNat_Int, not_true_eq_false, not_false_eq_true, eq_self, if_false, if_true, Bool.true_eq_false, Bool.false_eq_true, Bool.not_true, Bool.not_false, Bool.and_true, Bool.true_and, Bool.and_false, Bool.false_and, p_inT2, p_neS, p_eqS]
  split
  · rename_i h
    rw [List.length_map] at h
    obtain ⟨n, hn⟩ : ∃ n, ns[j]? = some n := ⟨_, List.getElem?_eq_getElem (by omega)⟩
    refine p_ixL hl (atI_nat (v := .int n) (by rw [List.getElem?_map, hn]; rfl)) ?_
    simp only [sd_cons, sd_nil, sd_zero, List.length_cons, List.length_nil, w_var, w_const, w_glob, w_prim, w_meth, w_cut, w_not, w_and, w_or, w_one, w_ite, w_chain, w_call, w_callk, wa_nil, wa_cons, wt_name, wt_tup, wts_nil, wts_cons, wt_sub, ws_nil, ws_cons, w_expr, w_asg, w_setc, w_par2, w_par3, w_aug, w_ret, w_retN, w_ifs, w_never, seqD_tup, tgsLen, p_add, p_sub, p_mul, p_div, p_mod, p_pow, p_neg, p_eq, p_ne, p_lt, p_le, p_gt, p_ge, p_abs, p_int, p_max, p_min, p_tup, p_lst, p_ixT, p_lenT, truth_bl, onV_some, onB_some, onN_some, onD_bl, onO_some, onL_some, on2_eq, on3_eq, onC_nil, onC_one, onAug_sub, onAug_add, onAug_mul, List.getElem?_cons_zero, List.getElem?_cons_succ, List.set_cons_zero, List.set_cons_succ, wipeD, List.map_cons, List.map_nil, true_and, and_true, decide_eq_true_eq, Bool.not_eq_true', decide_eq_false_iff_not, Nat.reduceAdd, Nat.zero_add, atI_0, atI_1, atI_2, p_eqT2, p_neT2, p_isT, p_isI, p_isB, reduceIte, reduceCtorEq, Int.cast_ofNat_Int, not_true_eq_false, not_false_eq_true, eq_self, if_false, if_true, Bool.true_eq_false, Bool.false_eq_true, Bool.not_true, Bool.not_false, Bool.and_true, Bool.true_and, Bool.and_false, Bool.false_and, p_inT2, p_neS, p_eqS]
    exact ⟨pw, by decide, mo, by decide, fin _ _⟩
  · exact ⟨pw, by decide, mo, by decide, fin _ _⟩
theorem fmod_bd {a b : Int} (h : 0 < b) : 0 ≤ a.fmod b ∧ a.fmod b < b := ⟨Int.fmod_nonneg_of_pos a h, Int.fmod_lt_of_pos a h⟩
theorem sp_draw {T : Nat → Option Fn} {k : Nat} (h1 : T 1 = some f_law_draw) (r n : Nat) (s : Int) (S : Store) (hp : Pool S r n) (hn : n ≤ 2 ^ 40) (h0 : 0 < s) (hs : s < 2 ^ 1000) :
    wpF T (k + 1) 1 [.ref r, .int s] S (fun d S1 => ∃ v, d = .int v ∧ 0 ≤ v ∧ v < s ∧ GrX r S S1 ∧ Pool S1 r (n + 1)) fun _ _ => False := by
  obtain ⟨a, b, c, hr, b1, b2, c1, c2⟩ := hp
  rw [wF h1]
  simp only [f_law_draw, sd_cons, sd_nil, sd_zero, List.length_cons, List.length_nil, w_var, w_const, w_glob, w_prim, w_meth, w_cut, w_not, w_and, w_or, w_one, w_ite, w_chain, w_call, w_callk, wa_nil, wa_cons, wt_name, wt_tup, wts_nil, wts_cons, wt_sub, ws_nil, ws_cons, w_expr, w_asg, w_setc, w_par2, w_par3, w_aug, w_ret, w_retN, w_ifs, w_never, seqD_tup, tgsLen, p_add, p_sub, p_mul, p_div, p_mod, p_pow, p_neg, p_eq, p_ne, p_lt, p_le, p_gt, p_ge, p_abs, p_int, p_max, p_min, p_tup, p_lst, p_ixT, p_lenT, truth_bl, onV_some, onB_some, onN_some, onD_bl, onO_some, onL_some, on2_eq, on3_eq, onC_nil, onC_one, onAug_sub, onAug_add, onAug_mul, List.getElem?_cons_zero, List.getElem?_cons_succ, List.set_cons_zero, List.set_cons_succ, wipeD, List.map_cons, List.map_nil, true_and, and_true, decide_eq_true_eq, Bool.not_eq_true', decide_eq_false_iff_not, Nat.reduceAdd, Nat.zero_add, atI_0, atI_1, atI_2, p_eqT2, p_neT2, p_isT, p_isI, p_isB, reduceIte, reduceCtorEq, Int.cast_ofNat_Int, not_true_eq_false, not_false_eq_true, eq_self, if_false, if_true, Bool.true_eq_false, Bool.false_eq_true, Bool.not_true, Bool.not_false, Bool.and_true, Bool.true_and, Bool.and_false, Bool.false_and, p_inT2, p_neS, p_eqS]
  have sq := seqAt_lst hr
  refine p_ixL sq (atI_0 _ _) ?_
  simp only [sd_cons, sd_nil, sd_zero, List.length_cons, List.length_nil, w_var, w_const, w_glob, w_prim, w_meth, w_cut, w_not, w_and, w_or, w_one, w_ite, w_chain, w_call, w_callk, wa_nil, wa_cons, wt_name, wt_tup, wts_nil, wts_cons, wt_sub, ws_nil, ws_cons, w_expr, w_asg, w_setc, w_par2, w_par3, w_aug, w_ret, w_retN, w_ifs, w_never, seqD_tup, tgsLen, p_add, p_sub, p_mul, p_div, p_mod, p_pow, p_neg, p_eq, p_ne, p_lt, p_le, p_gt, p_ge, p_abs, p_int, p_max, p_min, p_tup, p_lst, p_ixT, p_lenT, truth_bl, onV_some, onB_some, onN_some, onD_bl, onO_some, onL_some, on2_eq, on3_eq, onC_nil, onC_one, onAug_sub, onAug_add, onAug_mul, List.getElem?_cons_zero, List.getElem?_cons_succ, List.set_cons_zero, List.set_cons_succ, wipeD, List.map_cons, List.map_nil, true_and, and_true, decide_eq_true_eq, Bool.not_eq_true', decide_eq_false_iff_not, Nat.reduceAdd, Nat.zero_add, atI_0, atI_1, atI_2, p_eqT2, p_neT2, p_isT, p_isI, p_isB, reduceIte, reduceCtorEq, Int.cast_ofNat_Int, not_true_eq_false, not_false_eq_true, eq_self, if_false, if_true, Bool.true_eq_false, Bool.false_eq_true, Bool.not_true, Bool.not_false, Bool.and_true, Bool.true_and, Bool.and_false, Bool.false_and, p_inT2, p_neS, p_eqS]
  split
  · refine p_ixL sq (atI_0 _ _) ?_
    simp only [sd_cons, sd_nil, sd_zero, List.length_cons, List.length_nil, w_var, w_const, w_glob, w_prim, w_meth, w_cut, w_not, w_and, w_or, w_one, w_ite, w_chain, w_call, w_callk, wa_nil, wa_cons, wt_name, wt_tup, wts_nil, wts_cons, wt_sub, ws_nil, ws_cons, w_expr, w_asg, w_setc, w_par2, w_par3, w_aug, w_ret, w_retN, w_ifs, w_never, seqD_tup, tgsLen, p_add, p_sub, p_mul, p_div, p_mod, p_pow, p_neg, p_eq, p_ne, p_lt, p_le, p_gt, p_ge, p_abs, p_int, p_max, p_min, p_tup, p_lst, p_ixT, p_lenT, truth_bl, onV_some, onB_some, onN_some, onD_bl, onO_some, onL_some, on2_eq, on3_eq, onC_nil, onC_one, onAug_sub, onAug_add, onAug_mul, List.getElem?_cons_zero, List.getElem?_cons_succ, List.set_cons_zero, List.set_cons_succ, wipeD, List.map_cons, List.map_nil, true_and, and_true, decide_eq_true_eq, Bool.not_eq_true', decide_eq_false_iff_not, Nat.reduceAdd, Nat.zero_add, atI_0, atI_1, atI_2, p_eqT2, p_neT2, p_isT, p_isI, p_isB, reduceIte, reduceCtorEq, Int.cast_ofNat_Int, not_true_eq_false, not_false_eq_true, eq_self, if_false, if_true, Bool.true_eq_false, Bool.false_eq_true, Bool.not_true, Bool.not_false, Bool.and_true, Bool.true_and, Bool.and_false, Bool.false_and, p_inT2, p_neS, p_eqS]
    refine ⟨by omega, p_ixL sq (atI_0 _ _) ?_⟩
    simp only [sd_cons, sd_nil, sd_zero, List.length_cons, List.length_nil, w_var, w_const, w_glob, w_prim, w_meth, w_cut, w_not, w_and, w_or, w_one, w_ite, w_chain, w_call, w_callk, wa_nil, wa_cons, wt_name, wt_tup, wts_nil, wts_cons, wt_sub, ws_nil, ws_cons, w_expr, w_asg, w_setc, w_par2, w_par3, w_aug, w_ret, w_retN, w_ifs, w_never, seqD_tup, tgsLen, p_add, p_sub, p_mul, p_div, p_mod, p_pow, p_neg, p_eq, p_ne, p_lt, p_le, p_gt, p_ge, p_abs, p_int, p_max, p_min, p_tup, p_lst, p_ixT, p_lenT, truth_bl, onV_some, onB_some, onN_some, onD_bl, onO_some, onL_some, on2_eq, on3_eq, onC_nil, onC_one, onAug_sub, onAug_add, onAug_mul, List.getElem?_cons_zero, List.getElem?_cons_succ, List.set_cons_zero, List.set_cons_succ, wipeD, List.map_cons, List.map_nil, true_and, and_true, decide_eq_true_eq, Bool.not_eq_true', decide_eq_false_iff_not, Nat.reduceAdd, Nat.zero_add, atI_0, atI_1, atI_2, p_eqT2, p_neT2, p_isT, p_isI, p_isB, reduceIte, reduceCtorEq, Int.cast_ofNat_Int, not_true_eq_false, not_false_eq_true, eq_self, if_false, if_true, Bool.true_eq_false, Bool.false_eq_true, Bool.not_true, Bool.not_false, Bool.and_true, Bool.true_and, Bool.and_false, Bool.false_and, p_inT2, p_neS, p_eqS]
    have sb : Bd 1000 s := Bd.of (by omega) hs
    refine ⟨⟨by omega, sb.divOk (by decide)⟩, onSet_eq hr (j := 0) (ixN_nat (n := 3) (i := 0) (by decide)) ⟨_, rfl, (fmod_bd h0).1, (fmod_bd h0).2, GrX.set _ _ _, _, b, c, set_get hr, b1, b2, c1, by omega⟩⟩
  · refine p_ixL sq (atI_2 _ _ _ _) ?_
    simp only [sd_cons, sd_nil, sd_zero, List.length_cons, List.length_nil, w_var, w_const, w_glob, w_prim, w_meth, w_cut, w_not, w_and, w_or, w_one, w_ite, w_chain, w_call, w_callk, wa_nil, wa_cons, wt_name, wt_tup, wts_nil, wts_cons, wt_sub, ws_nil, ws_cons, w_expr, w_asg, w_setc, w_par2, w_par3, w_aug, w_ret, w_retN, w_ifs, w_never, seqD_tup, tgsLen, p_add, p_sub, p_mul, p_div, p_mod, p_pow, p_neg, p_eq, p_ne, p_lt, p_le, p_gt, p_ge, p_abs, p_int, p_max, p_min, p_tup, p_lst, p_ixT, p_lenT, truth_bl, onV_some, onB_some, onN_some, onD_bl, onO_some, onL_some, on2_eq, on3_eq, onC_nil, onC_one, onAug_sub, onAug_add, onAug_mul, List.getElem?_cons_zero, List.getElem?_cons_succ, List.set_cons_zero, List.set_cons_succ, wipeD, List.map_cons, List.map_nil, true_and, and_true, decide_eq_true_eq, Bool.not_eq_true', decide_eq_false_iff_not, Nat.reduceAdd, Nat.zero_add, atI_0, atI_1, atI_2, p_eqT2, p_neT2, p_isT, p_isI, p_isB, reduceIte, reduceCtorEq, Int.cast_ofNat_Int, not_true_eq_false, not_false_eq_true, eq_self, if_false, if_true, Bool.true_eq_false, Bool.false_eq_true, Bool.not_true, Bool.not_false, Bool.and_true, Bool.true_and, Bool.and_false, Bool.false_and, p_inT2, p_neS, p_eqS]
    refine onSet_eq hr (j := 2) (ixN_nat (n := 3) (i := 2) (by decide)) ?_
    have hr2 : (S.set r (.lst ([D.int a, .int b, .int c].set 2 (.int (c + 1)))))[r]? = some (.lst [.int a, .int b, .int (c + 1)]) := set_get hr
    have sq2 := seqAt_lst hr2
    refine p_ixL sq2 (atI_1 _ _ _) (p_ixL sq2 (atI_2 _ _ _ _) ?_)
    have bb : Bd 62 b := Bd.of (by omega) b2
    have bc : Bd 41 (c + 1) := Bd.of (by omega) (by omega)
    have k1 : Bd 30 (15485863 : Int) := Bd.of (by decide) (by decide)
    have k2 : Bd 30 (32452843 : Int) := Bd.of (by decide) (by decide)
    simp only [sd_cons, sd_nil, sd_zero, List.length_cons, List.length_nil, w_var, w_const, w_glob, w_prim, w_meth, w_cut, w_not, w_and, w_or, w_one, w_ite, w_chain, w_call, w_callk, wa_nil, wa_cons, wt_name, wt_tup, wts_nil, wts_cons, wt_sub, ws_nil, ws_cons, w_expr, w_asg, w_setc, w_par2, w_par3, w_aug, w_ret, w_retN, w_ifs, w_never, seqD_tup, tgsLen, p_add, p_sub, p_mul, p_div, p_mod, p_pow, p_neg, p_eq, p_ne, p_lt, p_le, p_gt, p_ge, p_abs, p_int, p_max, p_min, p_tup, p_lst, p_ixT, p_lenT, truth_bl, onV_some, onB_some, onN_some, onD_bl, onO_some, onL_some, on2_eq, on3_eq, onC_nil, onC_one, onAug_sub, onAug_add, onAug_mul, List.getElem?_cons_zero, List.getElem?_cons_succ, List.set_cons_zero, List.set_cons_succ, wipeD, List.map_cons, List.map_nil, true_and, and_true, decide_eq_true_eq, Bool.not_eq_true', decide_eq_false_iff_not, Nat.reduceAdd, Nat.zero_add, atI_0, atI_1, atI_2, p_eqT2, p_neT2, p_isT, p_isI, p_isB, reduceIte, reduceCtorEq, Int.cast_ofNat_Int, not_true_eq_false, not_false_eq_true, eq_self, if_false, if_true, Bool.true_eq_false, Bool.false_eq_true, Bool.not_true, Bool.not_false, Bool.and_true, Bool.true_and, Bool.and_false, Bool.false_and, p_inT2, p_neS, p_eqS]
    have m1 := fmod_bd (a := (b + 15485863 * (c + 1)) ^ Int.toNat 3) (b := 162259276829213363391578010288127) (by decide)
    have bm : Bd 110 (((b + 15485863 * (c + 1)) ^ Int.toNat 3).fmod 162259276829213363391578010288127) := Bd.of (by omega) (by omega)
    refine ⟨k1.mulOk bc (by decide) (by decide), ⟨by decide, (bb.add (k1.mul bc)).powOk (by decide) (by decide)⟩, by decide, p_ixL sq2 (atI_2 _ _ _ _) ?_⟩
    simp only [sd_cons, sd_nil, sd_zero, List.length_cons, List.length_nil, w_var, w_const, w_glob, w_prim, w_meth, w_cut, w_not, w_and, w_or, w_one, w_ite, w_chain, w_call, w_callk, wa_nil, wa_cons, wt_name, wt_tup, wts_nil, wts_cons, wt_sub, ws_nil, ws_cons, w_expr, w_asg, w_setc, w_par2, w_par3, w_aug, w_ret, w_retN, w_ifs, w_never, seqD_tup, tgsLen, p_add, p_sub, p_mul, p_div, p_mod, p_pow, p_neg, p_eq, p_ne, p_lt, p_le, p_gt, p_ge, p_abs, p_int, p_max, p_min, p_tup, p_lst, p_ixT, p_lenT, truth_bl, onV_some, onB_some, onN_some, onD_bl, onO_some, onL_some, on2_eq, on3_eq, onC_nil, onC_one, onAug_sub, onAug_add, onAug_mul, List.getElem?_cons_zero, List.getElem?_cons_succ, List.set_cons_zero, List.set_cons_succ, wipeD, List.map_cons, List.map_nil, true_and, and_true, decide_eq_true_eq, Bool.not_eq_true', decide_eq_false_iff_not, Nat.reduceAdd, Nat.zero_add, atI_0, atI_1, atI_2, p_eqT2, p_neT2, p_isT, p_isI, p_isB, reduceIte, reduceCtorEq, Int.cast_ofNat_Int, not_true_eq_false, not_false_eq_true, eq_self, if_false, if_true, Bool.true_eq_false, Bool.false_eq_true, Bool.not_true, Bool.not_false, Bool.and_true, Bool.true_and, Bool.and_false, Bool.false_and, p_inT2, p_neS, p_eqS]
    refine ⟨k2.mulOk bc (by decide) (by decide), ⟨by decide, (bm.add (k2.mul bc)).powOk (by decide) (by decide)⟩, by decide, ⟨by decide, (Bd.of (n := 30) (by decide) (by decide)).divOk (by decide)⟩, by omega, ⟨_, rfl, (fmod_bd h0).1, (fmod_bd h0).2, GrX.set _ _ _, a, b, c + 1, set_get hr, b1, b2, by omega, by omega⟩⟩

theorem sp_law_low {T : Nat → Option Fn} {k : Nat} (h10 : T 10 = some f_law_low) (a b : Int) (S : Store) (ha : Bd 9000 a) (hb : Bd 9000 b) :
    wpF T (k + 1) 10 [.int a, .int b] S (fun d S1 => d = ptD (ptOf a b) ∧ S1 = S) fun _ _ => False := by
  rw [wF h10]
  simp only [f_law_low, sd_cons, sd_nil, sd_zero, List.length_cons, List.length_nil, w_var, w_const, w_glob, w_prim, w_meth, w_cut, w_not, w_and, w_or, w_one, w_ite, w_chain, w_call, w_callk, wa_nil, wa_cons, wt_name, wt_tup, wts_nil, wts_cons, wt_sub, ws_nil, ws_cons, w_expr, w_asg, w_setc, w_par2, w_par3, w_aug, w_ret, w_retN, w_ifs, w_never, seqD_tup, tgsLen, p_add, p_sub, p_mul, p_div, p_mod, p_pow, p_neg, p_eq, p_ne, p_lt, p_le, p_gt, p_ge, p_abs, p_int, p_max, p_min, p_tup, p_lst, p_ixT, p_lenT, truth_bl, onV_some, onB_some, onN_some, onD_bl, onO_some, onL_some, on2_eq, on3_eq, onC_nil, onC_one, onAug_sub, onAug_add, onAug_mul, List.getElem?_cons_zero, List.getElem?_cons_succ, List.set_cons_zero, List.set_cons_succ, wipeD, List.map_cons, List.map_nil, true_and, and_true, decide_eq_true_eq, Bool.not_eq_true', decide_eq_false_iff_not, Nat.reduceAdd, Nat.zero_add, atI_0, atI_1, atI_2, p_eqT2, p_neT2, p_isT, p_isI, p_isB, reduceIte, reduceCtorEq, Int.cast_ofNat_Int, not_true_eq_false, not_false_eq_true, eq_self, if_false, if_true, Bool.true_eq_false, Bool.false_eq_true, Bool.not_true, Bool.not_false, Bool.and_true, Bool.true_and, Bool.and_false, Bool.false_and, p_inT2, p_neS, p_eqS]
  split
  · rename_i h
    unfold ptOf
    rw [if_pos h]
    exact ⟨by decide, rfl⟩
  · rename_i h
    refine wp_while (wpF_mono _ _) (fun m σ S1 => ∃ x y : Nat, σ = [some (.int a), some (.int b), some (.int x), some (.int y)] ∧ S1 = S ∧ m = y ∧ Nat.gcd x y = Int.gcd a b) b.natAbs ⟨a.natAbs, b.natAbs, rfl, rfl, rfl, rfl⟩ fun m σ S1 hi => ?_
    obtain ⟨x, y, rfl, rfl, rfl, hi⟩ := hi
    simp only [sd_cons, sd_nil, sd_zero, List.length_cons, List.length_nil, w_var, w_const, w_glob, w_prim, w_meth, w_cut, w_not, w_and, w_or, w_one, w_ite, w_chain, w_call, w_callk, wa_nil, wa_cons, wt_name, wt_tup, wts_nil, wts_cons, wt_sub, ws_nil, ws_cons, w_expr, w_asg, w_setc, w_par2, w_par3, w_aug, w_ret, w_retN, w_ifs, w_never, seqD_tup, tgsLen, p_add, p_sub, p_mul, p_div, p_mod, p_pow, p_neg, p_eq, p_ne, p_lt, p_le, p_gt, p_ge, p_abs, p_int, p_max, p_min, p_tup, p_lst, p_ixT, p_lenT, truth_bl, onV_some, onB_some, onN_some, onD_bl, onO_some, onL_some, on2_eq, on3_eq, onC_nil, onC_one, onAug_sub, onAug_add, onAug_mul, List.getElem?_cons_zero, List.getElem?_cons_succ, List.set_cons_zero, List.set_cons_succ, wipeD, List.map_cons, List.map_nil, true_and, and_true, decide_eq_true_eq, Bool.not_eq_true', decide_eq_false_iff_not, Nat.reduceAdd, Nat.zero_add, atI_0, atI_1, atI_2, p_eqT2, p_neT2, p_isT, p_isI, p_isB, reduceIte, reduceCtorEq, Int.cast_ofNat_Int, not_true_eq_false, not_false_eq_true, eq_self, if_false, if_true, Bool.true_eq_false, Bool.false_eq_true, Bool.not_true, Bool.not_false, Bool.and_true, Bool.true_and, Bool.and_false, Bool.false_and, p_inT2, p_neS, p_eqS]
    split
    · rename_i hm
      refine ⟨hm, x % m, Nat.mod_lt _ (by omega), m, x % m, by rw [fmod_nat], rfl, ?_⟩
      rw [← hi, Nat.gcd_comm x m, Nat.gcd_rec m x, Nat.gcd_comm]
    · rename_i hm
      have : m = 0 := by omega
      subst this
      rw [Nat.gcd_zero_right] at hi
      subst hi
      have g0 := gcd_ne (a := a) h
      have gb := gcd_bd ha h hb
      have dv : ∀ g : Int, Bd 9000 g → g ≠ 0 → ∀ i : Int, (g ≠ 0 ∧ DivOk i g) := fun g h1 h2 i => ⟨h2, h1.divOk (Nat.le_refl _)⟩
      unfold ptOf
      rw [if_neg h]
      split
      · exact ⟨dv _ gb g0 _, dv _ gb g0 _, by decide, rfl⟩
      · have e : (0 : Int) - (Int.gcd a b : Int) = -(Int.gcd a b : Int) := by omega
        have gn : -(Int.gcd a b : Int) ≠ 0 := by omega
        rw [e]
        exact ⟨dv _ gb.neg gn _, dv _ gb.neg gn _, by decide, rfl⟩
theorem lead_of {ns : List Int} (hne : ∃ n ∈ ns, n ≠ 0) : ∃ m ms, ns.filter (· ≠ 0) = m :: ms ∧ lead ns = m ∧ m ≠ 0 := by
  obtain ⟨n, h1, h3⟩ := hne
  obtain ⟨m, ms, hm⟩ := List.exists_cons_of_ne_nil (List.ne_nil_of_mem ((List.mem_filter (p := fun n : Int => decide (n ≠ 0))).mpr ⟨h1, by simpa using h3⟩))
  refine ⟨m, ms, hm, ?_, ?_⟩
  · unfold lead
    rw [hm]
    rfl
  · have : m ∈ ns.filter (· ≠ 0) := by rw [hm]; exact List.mem_cons_self
    simpa using (List.mem_filter.mp this).2
theorem sp_law_plain {T : Nat → Option Fn} {k : Nat} (h30 : T 30 = some f_law_plain) (l : Nat) (ns : List Int) (S : Store) (hl : seqAt S l = some (ns.map D.int)) (hne : ∃ n ∈ ns, n ≠ 0) (hb : ∀ n ∈ ns, Bd 9000 n) (hz : ns.length ≤ sizeLine) :
    wpF T (k + 1) 30 [.ref l] S (fun d S1 => ∃ r, d = .ref r ∧ Gr S S1 ∧ S.length ≤ r ∧ S1[r]? = some (.lst ((dvd ns).map D.int))) fun _ _ => False := by
  rw [wF h30]
  simp only [f_law_plain, sd_cons, sd_nil, sd_zero, List.length_cons, List.length_nil, w_var, w_const, w_glob, w_prim, w_meth, w_cut, w_not, w_and, w_or, w_one, w_ite, w_chain, w_call, w_callk, wa_nil, wa_cons, wt_name, wt_tup, wts_nil, wts_cons, wt_sub, ws_nil, ws_cons, w_expr, w_asg, w_setc, w_par2, w_par3, w_aug, w_ret, w_retN, w_ifs, w_never, seqD_tup, tgsLen, p_add, p_sub, p_mul, p_div, p_mod, p_pow, p_neg, p_eq, p_ne, p_lt, p_le, p_gt, p_ge, p_abs, p_int, p_max, p_min, p_tup, p_lst, p_ixT, p_lenT, truth_bl, onV_some, onB_some, onN_some, onD_bl, onO_some, onL_some, on2_eq, on3_eq, onC_nil, onC_one, onAug_sub, onAug_add, onAug_mul, List.getElem?_cons_zero, List.getElem?_cons_succ, List.set_cons_zero, List.set_cons_succ, wipeD, List.map_cons, List.map_nil, true_and, and_true, decide_eq_true_eq, Bool.not_eq_true', decide_eq_false_iff_not, Nat.reduceAdd, Nat.zero_add, atI_0, atI_1, atI_2, p_eqT2, p_neT2, p_isT, p_isI, p_isB, reduceIte, reduceCtorEq, Int.cast_ofNat_Int, not_true_eq_false, not_false_eq_true, eq_self, if_false, if_true, Bool.true_eq_false, Bool.false_eq_true, Bool.not_true, Bool.not_false, Bool.and_true, Bool.true_and, Bool.and_false, Bool.false_and, p_inT2, p_neS, p_eqS]
  refine wp_for (wpF_mono _ _) ?_
  simp only [sd_cons, sd_nil, sd_zero, List.length_cons, List.length_nil, w_var, w_const, w_glob, w_prim, w_meth, w_cut, w_not, w_and, w_or, w_one, w_ite, w_chain, w_call, w_callk, wa_nil, wa_cons, wt_name, wt_tup, wts_nil, wts_cons, wt_sub, ws_nil, ws_cons, w_expr, w_asg, w_setc, w_par2, w_par3, w_aug, w_ret, w_retN, w_ifs, w_never, seqD_tup, tgsLen, p_add, p_sub, p_mul, p_div, p_mod, p_pow, p_neg, p_eq, p_ne, p_lt, p_le, p_gt, p_ge, p_abs, p_int, p_max, p_min, p_tup, p_lst, p_ixT, p_lenT, truth_bl, onV_some, onB_some, onN_some, onD_bl, onO_some, onL_some, on2_eq, on3_eq, onC_nil, onC_one, onAug_sub, onAug_add, onAug_mul, List.getElem?_cons_zero, List.getElem?_cons_succ, List.set_cons_zero, List.set_cons_succ, wipeD, List.map_cons, List.map_nil, true_and, and_true, decide_eq_true_eq, Bool.not_eq_true', decide_eq_false_iff_not, Nat.reduceAdd, Nat.zero_add, atI_0, atI_1, atI_2, p_eqT2, p_neT2, p_isT, p_isI, p_isB, reduceIte, reduceCtorEq, Int.cast_ofNat_Int, not_true_eq_false, not_false_eq_true, eq_self, if_false, if_true, Bool.true_eq_false, Bool.false_eq_true, Bool.not_true, Bool.not_false, Bool.and_true, Bool.true_and, Bool.and_false, Bool.false_and, p_inT2, p_neS, p_eqS, iterR, seqD, hl, holdOf]
  refine ⟨_, _, rfl, trivial, fun i σ S1 => ∃ z1 z2 z3, σ = [some (.ref l), some (.int (gcds (ns.take i))), z1, z2, z3] ∧ S1 = S, ⟨none, none, none, rfl, rfl⟩, fun i σ S1 _ hi => ?_, fun i x σ S1 hx hi => ?_, fun σ S1 hi => ?_⟩
  · obtain ⟨z1, z2, z3, rfl, rfl⟩ := hi
    exact ok_one hl
  · obtain ⟨z1, z2, z3, rfl, rfl⟩ := hi
    obtain ⟨n, hn, rfl⟩ := get_ints hx
    simp only [sd_cons, sd_nil, sd_zero, List.length_cons, List.length_nil, w_var, w_const, w_glob, w_prim, w_meth, w_cut, w_not, w_and, w_or, w_one, w_ite, w_chain, w_call, w_callk, wa_nil, wa_cons, wt_name, wt_tup, wts_nil, wts_cons, wt_sub, ws_nil, ws_cons, w_expr, w_asg, w_setc, w_par2, w_par3, w_aug, w_ret, w_retN, w_ifs, w_never, seqD_tup, tgsLen, p_add, p_sub, p_mul, p_div, p_mod, p_pow, p_neg, p_eq, p_ne, p_lt, p_le, p_gt, p_ge, p_abs, p_int, p_max, p_min, p_tup, p_lst, p_ixT, p_lenT, truth_bl, onV_some, onB_some, onN_some, onD_bl, onO_some, onL_some, on2_eq, on3_eq, onC_nil, onC_one, onAug_sub, onAug_add, onAug_mul, List.getElem?_cons_zero, List.getElem?_cons_succ, List.set_cons_zero, List.set_cons_succ, wipeD, List.map_cons, List.map_nil, true_and, and_true, decide_eq_true_eq, Bool.not_eq_true', decide_eq_false_iff_not, Nat.reduceAdd, Nat.zero_add, atI_0, atI_1, atI_2, p_eqT2, p_neT2, p_isT, p_isI, p_isB, reduceIte, reduceCtorEq, Int.cast_ofNat_Int, not_true_eq_false, not_false_eq_true, eq_self, if_false, if_true, Bool.true_eq_false, Bool.false_eq_true, Bool.not_true, Bool.not_false, Bool.and_true, Bool.true_and, Bool.and_false, Bool.false_and, p_inT2, p_neS, p_eqS]
    refine wp_while (wpF_mono _ _) (fun m σ S2 => ∃ x y : Nat, σ = [some (.ref l), some (.int (gcds (ns.take i))), some (.int n), some (.int x), some (.int y)] ∧ S2 = S1 ∧ m = y ∧ Nat.gcd x y = gcds (ns.take (i + 1))) (gcds (ns.take i)) ⟨n.natAbs, gcds (ns.take i), rfl, rfl, rfl, ?_⟩ fun m σ S2 hi => ?_
    · rw [gcds_take hn]
      unfold Int.gcd
      rw [Nat.gcd_comm]
      simp
    · obtain ⟨x, y, rfl, rfl, rfl, hi⟩ := hi
      simp only [sd_cons, sd_nil, sd_zero, List.length_cons, List.length_nil, w_var, w_const, w_glob, w_prim, w_meth, w_cut, w_not, w_and, w_or, w_one, w_ite, w_chain, w_call, w_callk, wa_nil, wa_cons, wt_name, wt_tup, wts_nil, wts_cons, wt_sub, ws_nil, ws_cons, w_expr, w_asg, w_setc, w_par2, w_par3, w_aug, w_ret, w_retN, w_ifs, w_never, seqD_tup, tgsLen, p_add, p_sub, p_mul, p_div, p_mod, p_pow, p_neg, p_eq, p_ne, p_lt, p_le, p_gt, p_ge, p_abs, p_int, p_max, p_min, p_tup, p_lst, p_ixT, p_lenT, truth_bl, onV_some, onB_some, onN_some, onD_bl, onO_some, onL_some, on2_eq, on3_eq, onC_nil, onC_one, onAug_sub, onAug_add, onAug_mul, List.getElem?_cons_zero, List.getElem?_cons_succ, List.set_cons_zero, List.set_cons_succ, wipeD, List.map_cons, List.map_nil, true_and, and_true, decide_eq_true_eq, Bool.not_eq_true', decide_eq_false_iff_not, Nat.reduceAdd, Nat.zero_add, atI_0, atI_1, atI_2, p_eqT2, p_neT2, p_isT, p_isI, p_isB, reduceIte, reduceCtorEq, Int.cast_ofNat_Int, not_true_eq_false, not_false_eq_true, eq_self, if_false, if_true, Bool.true_eq_false, Bool.false_eq_true, Bool.not_true, Bool.not_false, Bool.and_true, Bool.true_and, Bool.and_false, Bool.false_and, p_inT2, p_neS, p_eqS]
      split
      · rename_i hm
        refine ⟨hm, x % m, Nat.mod_lt _ (by omega), m, x % m, by rw [fmod_nat], rfl, ?_⟩
        rw [← hi, Nat.gcd_comm x m, Nat.gcd_rec m x, Nat.gcd_comm]
      · rename_i hm
        have : m = 0 := by omega
        subst this
        rw [Nat.gcd_zero_right] at hi
        subst hi
        exact ⟨_, _, _, rfl⟩
  · obtain ⟨z1, z2, z3, rfl, rfl⟩ := hi
    rw [List.length_map, List.take_length]
    obtain ⟨m, ms, hm, hlead, hm0⟩ := lead_of hne
    refine wp_comp (wpF_mono _ _) ?_
    simp only [sd_cons, sd_nil, sd_zero, List.length_cons, List.length_nil, w_var, w_const, w_glob, w_prim, w_meth, w_cut, w_not, w_and, w_or, w_one, w_ite, w_chain, w_call, w_callk, wa_nil, wa_cons, wt_name, wt_tup, wts_nil, wts_cons, wt_sub, ws_nil, ws_cons, w_expr, w_asg, w_setc, w_par2, w_par3, w_aug, w_ret, w_retN, w_ifs, w_never, seqD_tup, tgsLen, p_add, p_sub, p_mul, p_div, p_mod, p_pow, p_neg, p_eq, p_ne, p_lt, p_le, p_gt, p_ge, p_abs, p_int, p_max, p_min, p_tup, p_lst, p_ixT, p_lenT, truth_bl, onV_some, onB_some, onN_some, onD_bl, onO_some, onL_some, on2_eq, on3_eq, onC_nil, onC_one, onAug_sub, onAug_add, onAug_mul, List.getElem?_cons_zero, List.getElem?_cons_succ, List.set_cons_zero, List.set_cons_succ, wipeD, List.map_cons, List.map_nil, true_and, and_true, decide_eq_true_eq, Bool.not_eq_true', decide_eq_false_iff_not, Nat.reduceAdd, Nat.zero_add, atI_0, atI_1, atI_2, p_eqT2, p_neT2, p_isT, p_isI, p_isB, reduceIte, reduceCtorEq, Int.cast_ofNat_Int, not_true_eq_false, not_false_eq_true, eq_self, if_false, if_true, Bool.true_eq_false, Bool.false_eq_true, Bool.not_true, Bool.not_false, Bool.and_true, Bool.true_and, Bool.and_false, Bool.false_and, p_inT2, p_neS, p_eqS, iterR, seqD, hl, holdOf]
    refine ⟨_, _, rfl, trivial, ok_one hl, by rw [List.length_map]; exact hz, fun x => match x with
      | .int n => if n ≠ 0 then some (.int n) else none
      | _ => none, fun i x S2 hx hg => ?_, fun S2 hg h2 => ?_⟩
    · obtain ⟨n, hn, rfl⟩ := get_ints hx
      simp only [sd_cons, sd_nil, sd_zero, List.length_cons, List.length_nil, w_var, w_const, w_glob, w_prim, w_meth, w_cut, w_not, w_and, w_or, w_one, w_ite, w_chain, w_call, w_callk, wa_nil, wa_cons, wt_name, wt_tup, wts_nil, wts_cons, wt_sub, ws_nil, ws_cons, w_expr, w_asg, w_setc, w_par2, w_par3, w_aug, w_ret, w_retN, w_ifs, w_never, seqD_tup, tgsLen, p_add, p_sub, p_mul, p_div, p_mod, p_pow, p_neg, p_eq, p_ne, p_lt, p_le, p_gt, p_ge, p_abs, p_int, p_max, p_min, p_tup, p_lst, p_ixT, p_lenT, truth_bl, onV_some, onB_some, onN_some, onD_bl, onO_some, onL_some, on2_eq, on3_eq, onC_nil, onC_one, onAug_sub, onAug_add, onAug_mul, List.getElem?_cons_zero, List.getElem?_cons_succ, List.set_cons_zero, List.set_cons_succ, wipeD, List.map_cons, List.map_nil, true_and, and_true, decide_eq_true_eq, Bool.not_eq_true', decide_eq_false_iff_not, Nat.reduceAdd, Nat.zero_add, atI_0, atI_1, atI_2, p_eqT2, p_neT2, p_isT, p_isI, p_isB, reduceIte, reduceCtorEq, Int.cast_ofNat_Int, not_true_eq_false, not_false_eq_true, eq_self, if_false, if_true, Bool.true_eq_false, Bool.false_eq_true, Bool.not_true, Bool.not_false, Bool.and_true, Bool.true_and, Bool.and_false, Bool.false_and, p_inT2, p_neS, p_eqS]
      by_cases h0 : n = 0
      · simp [h0, Gr.refl]
      · simp [h0, Gr.refl]
    · rw [filter_some (fun n : Int => decide (n ≠ 0)) _ D.int (fun n => by by_cases h : n = 0 <;> simp [h]), hm] at h2
      refine p_ixL (seqAt_lst h2) (atI_0 _ _) ?_
      simp only [sd_cons, sd_nil, sd_zero, List.length_cons, List.length_nil, w_var, w_const, w_glob, w_prim, w_meth, w_cut, w_not, w_and, w_or, w_one, w_ite, w_chain, w_call, w_callk, wa_nil, wa_cons, wt_name, wt_tup, wts_nil, wts_cons, wt_sub, ws_nil, ws_cons, w_expr, w_asg, w_setc, w_par2, w_par3, w_aug, w_ret, w_retN, w_ifs, w_never, seqD_tup, tgsLen, p_add, p_sub, p_mul, p_div, p_mod, p_pow, p_neg, p_eq, p_ne, p_lt, p_le, p_gt, p_ge, p_abs, p_int, p_max, p_min, p_tup, p_lst, p_ixT, p_lenT, truth_bl, onV_some, onB_some, onN_some, onD_bl, onO_some, onL_some, on2_eq, on3_eq, onC_nil, onC_one, onAug_sub, onAug_add, onAug_mul, List.getElem?_cons_zero, List.getElem?_cons_succ, List.set_cons_zero, List.set_cons_succ, wipeD, List.map_cons, List.map_nil, true_and, and_true, decide_eq_true_eq, Bool.not_eq_true', decide_eq_false_iff_not, Nat.reduceAdd, Nat.zero_add, atI_0, atI_1, atI_2, p_eqT2, p_neT2, p_isT, p_isI, p_isB, reduceIte, reduceCtorEq, Int.cast_ofNat_Int, not_true_eq_false, not_false_eq_true, eq_self, if_false, if_true, Bool.true_eq_false, Bool.false_eq_true, Bool.not_true, Bool.not_false, Bool.and_true, Bool.true_and, Bool.and_false, Bool.false_and, p_inT2, p_neS, p_eqS]
      have hg0 : gcds ns ≠ 0 := gcds_ne hne
      have fin : ∀ (g : Int) (S3 : Store), g = (if 0 < lead ns then (gcds ns : Int) else -(gcds ns : Int)) → Gr S1 S3 → wpE false (wpF T k) ((Ex.prim (Prim.bin Operator.FloorDiv) (Exs.cons (Ex.var 2) (Exs.cons (Ex.var 1) Exs.nil))).comp (Tg.name 2) ItK.seq (Exs.cons (Ex.var 0) Exs.nil) Exs.nil [(Str.ofString "some", 2)])
          [some (D.ref l), some (D.int g), z1, z2, z3] S3 (fun d S2 => ∃ r, d = D.ref r ∧ Gr S1 S2 ∧ S1.length ≤ r ∧ S2[r]? = some (O.lst (List.map D.int (dvd ns)))) fun x S1 => False := fun g S3 eg hg3 => by
        have hgb : Bd 9000 g := by
          have := gcds_bd hb hne
          rw [eg]
          split
          · exact this
          · exact this.neg
        refine wp_comp (wpF_mono _ _) ?_
        simp only [sd_cons, sd_nil, sd_zero, List.length_cons, List.length_nil, w_var, w_const, w_glob, w_prim, w_meth, w_cut, w_not, w_and, w_or, w_one, w_ite, w_chain, w_call, w_callk, wa_nil, wa_cons, wt_name, wt_tup, wts_nil, wts_cons, wt_sub, ws_nil, ws_cons, w_expr, w_asg, w_setc, w_par2, w_par3, w_aug, w_ret, w_retN, w_ifs, w_never, seqD_tup, tgsLen, p_add, p_sub, p_mul, p_div, p_mod, p_pow, p_neg, p_eq, p_ne, p_lt, p_le, p_gt, p_ge, p_abs, p_int, p_max, p_min, p_tup, p_lst, p_ixT, p_lenT, truth_bl, onV_some, onB_some, onN_some, onD_bl, onO_some, onL_some, on2_eq, on3_eq, onC_nil, onC_one, onAug_sub, onAug_add, onAug_mul, List.getElem?_cons_zero, List.getElem?_cons_succ, List.set_cons_zero, List.set_cons_succ, wipeD, List.map_cons, List.map_nil, true_and, and_true, decide_eq_true_eq, Bool.not_eq_true', decide_eq_false_iff_not, Nat.reduceAdd, Nat.zero_add, atI_0, atI_1, atI_2, p_eqT2, p_neT2, p_isT, p_isI, p_isB, reduceIte, reduceCtorEq, Int.cast_ofNat_Int, not_true_eq_false, not_false_eq_true, eq_self, if_false, if_true, Bool.true_eq_false, Bool.false_eq_true, Bool.not_true, Bool.not_false, Bool.and_true, Bool.true_and, Bool.and_false, Bool.false_and, p_inT2, p_neS, p_eqS, iterR, seqD, hg3.seq hl, holdOf]
        refine ⟨_, _, rfl, trivial, ok_one (hg3.seq hl), by rw [List.length_map]; exact hz, fun x => match x with
          | .int n => some (.int (n.fdiv g))
          | _ => none, fun i x S4 hx hg4 => ?_, fun S4 hg4 h4 => ?_⟩
        · obtain ⟨n, hn, rfl⟩ := get_ints hx
          simp only [sd_cons, sd_nil, sd_zero, List.length_cons, List.length_nil, w_var, w_const, w_glob, w_prim, w_meth, w_cut, w_not, w_and, w_or, w_one, w_ite, w_chain, w_call, w_callk, wa_nil, wa_cons, wt_name, wt_tup, wts_nil, wts_cons, wt_sub, ws_nil, ws_cons, w_expr, w_asg, w_setc, w_par2, w_par3, w_aug, w_ret, w_retN, w_ifs, w_never, seqD_tup, tgsLen, p_add, p_sub, p_mul, p_div, p_mod, p_pow, p_neg, p_eq, p_ne, p_lt, p_le, p_gt, p_ge, p_abs, p_int, p_max, p_min, p_tup, p_lst, p_ixT, p_lenT, truth_bl, onV_some, onB_some, onN_some, onD_bl, onO_some, onL_some, on2_eq, on3_eq, onC_nil, onC_one, onAug_sub, onAug_add, onAug_mul, List.getElem?_cons_zero, List.getElem?_cons_succ, List.set_cons_zero, List.set_cons_succ, wipeD, List.map_cons, List.map_nil, true_and, and_true, decide_eq_true_eq, Bool.not_eq_true', decide_eq_false_iff_not, Nat.reduceAdd, Nat.zero_add, atI_0, atI_1, atI_2, p_eqT2, p_neT2, p_isT, p_isI, p_isB, reduceIte, reduceCtorEq, Int.cast_ofNat_Int, not_true_eq_false, not_false_eq_true, eq_self, if_false, if_true, Bool.true_eq_false, Bool.false_eq_true, Bool.not_true, Bool.not_false, Bool.and_true, Bool.true_and, Bool.and_false, Bool.false_and, p_inT2, p_neS, p_eqS]
          refine ⟨⟨?_, hgb.divOk (Nat.le_refl _)⟩, Gr.refl _⟩
          rw [eg]
          split <;> omega
        · rw [map_some (fun n : Int => n.fdiv g) _ D.int D.int (fun n => rfl)] at h4
          refine ⟨_, rfl, hg3.trans hg4, hg3.len, ?_⟩
          rw [h4]
          unfold dvd
          rw [← eg]
      split
      · refine fin _ S2 ?_ hg
        rw [hlead, if_neg (by omega)]
        omega
      · exact fin _ S2 (by rw [hlead, if_pos (by omega)]) hg

/-! ### plain facts of points -/
theorem ptOf_spec {a b : Int} (h : b ≠ 0) : ∃ g p q : Int, g ≠ 0 ∧ a = p * g ∧ b = q * g ∧ 0 < q ∧ Int.gcd p q = 1 ∧ ptOf a b = (p, q) := by
  have g0 := gcd_ne (a := a) h
  obtain ⟨x, hx⟩ := Int.gcd_dvd_left a b
  obtain ⟨y, hy⟩ := Int.gcd_dvd_right a b
  have G0 : 0 < (Int.gcd a b : Int) := by omega
  have hc : Int.gcd x y = 1 := by
    have e : Int.gcd ((Int.gcd a b : Int) * x) ((Int.gcd a b : Int) * y) = Int.gcd a b := by rw [← hx, ← hy]
    rw [Int.gcd_mul_left] at e
    simp only [Int.natAbs_natCast] at e
    have : 0 < Int.gcd a b := by omega
    exact Nat.eq_of_mul_eq_mul_left this (by omega)
  by_cases hp : 0 < b
  · have hy0 : 0 < y := by
      rw [hy] at hp
      refine Int.not_le.mp fun z => ?_
      have := Int.mul_le_mul_of_nonneg_left z (Int.le_of_lt G0)
      rw [Int.mul_zero] at this
      omega
    refine ⟨Int.gcd a b, x, y, g0, by rw [Int.mul_comm]; exact hx, by rw [Int.mul_comm]; exact hy, hy0, hc, ?_⟩
    unfold ptOf
    rw [if_neg h, if_pos hp]
    have e1 : a.fdiv (Int.gcd a b : Int) = x := by
      conv => lhs; arg 1; rw [hx]
      exact Int.mul_fdiv_cancel_left x g0
    have e2 : b.fdiv (Int.gcd a b : Int) = y := by
      conv => lhs; arg 1; rw [hy]
      exact Int.mul_fdiv_cancel_left y g0
    rw [e1, e2]
  · have gn : -(Int.gcd a b : Int) ≠ 0 := by omega
    have hx' : a = -(Int.gcd a b : Int) * (-x) := by rw [Int.neg_mul_neg]; exact hx
    have hy' : b = -(Int.gcd a b : Int) * (-y) := by rw [Int.neg_mul_neg]; exact hy
    have hy0 : 0 < -y := by
      have : b < 0 := by omega
      rw [hy] at this
      have := Int.neg_of_mul_neg_right this (by omega)
      omega
    refine ⟨-(Int.gcd a b : Int), -x, -y, gn, by rw [Int.mul_comm]; exact hx', by rw [Int.mul_comm]; exact hy', hy0, by rw [Int.gcd_neg, Int.neg_gcd]; exact hc, ?_⟩
    unfold ptOf
    rw [if_neg h, if_neg hp]
    have e1 : a.fdiv (-(Int.gcd a b : Int)) = -x := by
      conv => lhs; arg 1; rw [hx']
      exact Int.mul_fdiv_cancel_left (-x) gn
    have e2 : b.fdiv (-(Int.gcd a b : Int)) = -y := by
      conv => lhs; arg 1; rw [hy']
      exact Int.mul_fdiv_cancel_left (-y) gn
    rw [e1, e2]
/-- a point: lowest terms, or the endless one -/
def Pt (p q : Int) : Prop := (0 < q ∧ Int.gcd p q = 1) ∨ (p = 1 ∧ q = 0)
theorem Pt.of (a b : Int) : Pt (ptOf a b).1 (ptOf a b).2 := by
  by_cases h : b = 0
  · subst h
    exact .inr ⟨rfl, rfl⟩
  · obtain ⟨g, p, q, _, _, _, h1, h2, e⟩ := ptOf_spec (a := a) h
    rw [e]
    exact .inl ⟨h1, h2⟩
theorem Pt.is {p q : Int} (h : Pt p q) : ptOf p q = (p, q) := by
  rcases h with ⟨h1, h2⟩ | ⟨rfl, rfl⟩
  · unfold ptOf
    rw [if_neg (by omega), if_pos h1, h2]
    simp
  · rfl
theorem Pt.isPt {p q : Int} (h : Pt p q) : isPt p q = true := by
  unfold CC.isPt
  rw [h.is]
  rcases h with ⟨h1, h2⟩ | ⟨rfl, rfl⟩
  · have : decide (q = 0) = false := decide_eq_false (by omega)
    simp [this]
  · rfl
theorem ptOf_bd {n : Nat} {a b : Int} (h : 0 < n) (ha : Bd n a) (hb : Bd n b) : Bd n (ptOf a b).1 ∧ Bd n (ptOf a b).2 := by
  unfold ptOf
  split
  · exact ⟨Bd.mono (m := 1) (Bd.of (by decide) (by decide)) h, Bd.mono (m := 1) (Bd.of (by decide) (by decide)) h⟩
  · exact ⟨ha.fdiv _, hb.fdiv _⟩
theorem cop_dvd {p q s : Int} (hg : Int.gcd p q = 1) (h : q ∣ p * s) : q ∣ s := by
  refine Int.natAbs_dvd_natAbs.mp (Nat.Coprime.dvd_of_dvd_mul_left (m := p.natAbs) ?_ ?_)
  · unfold Nat.Coprime
    rw [Nat.gcd_comm]
    exact hg
  · rw [← Int.natAbs_mul]
    exact Int.natAbs_dvd_natAbs.mpr h
/-- two points are the same if their cross is 0 -/
theorem Pt.cross {p q r s : Int} (h : Pt p q) (k : Pt r s) (e : p * s = r * q) : p = r ∧ q = s := by
  rcases h with ⟨h1, h2⟩ | ⟨rfl, rfl⟩
  · rcases k with ⟨k1, k2⟩ | ⟨rfl, rfl⟩
    · have d1 : q ∣ s := by
        have : q ∣ p * s := by rw [e]; exact Int.dvd_mul_left r q
        exact cop_dvd h2 this
      have d2 : s ∣ q := by
        have : s ∣ r * q := by rw [← e]; exact Int.dvd_mul_left p s
        exact cop_dvd k2 this
      have e1 : q = s := Int.dvd_antisymm (by omega) (by omega) d1 d2
      subst e1
      exact ⟨Int.eq_of_mul_eq_mul_right (by omega) e, rfl⟩
    · exfalso
      omega
  · rcases k with ⟨k1, k2⟩ | ⟨rfl, rfl⟩
    · exfalso
      omega
    · exact ⟨rfl, rfl⟩
/-- the numbers times one number -/
theorem dvd_smul {ns : List Int} {c : Int} (hc : c ≠ 0) (hne : ∃ n ∈ ns, n ≠ 0) : dvd (ns.map (c * ·)) = dvd ns := by
  have g : ∀ (ns : List Int) (d : Nat), (ns.map (c * ·)).foldl (fun d n => Int.gcd d n) (c.natAbs * d) = c.natAbs * ns.foldl (fun d n => Int.gcd d n) d := fun ns => by
    induction ns with
    | nil => intro d; rfl
    | cons n r ih =>
      intro d
      rw [List.map_cons, List.foldl_cons, List.foldl_cons]
      have : Int.gcd ((c.natAbs * d : Nat) : Int) (c * n) = c.natAbs * Int.gcd (d : Int) n := by
        unfold Int.gcd
        rw [Int.natAbs_mul]
        simp only [Int.natAbs_natCast]
        exact Nat.gcd_mul_left ..
      rw [this, ih]
  have gg : gcds (ns.map (c * ·)) = c.natAbs * gcds ns := by
    have := g ns 0
    rw [Nat.mul_zero] at this
    exact this
  have hl : lead (ns.map (c * ·)) = c * lead ns := by
    unfold lead
    have : (ns.map (c * ·)).filter (· ≠ 0) = (ns.filter (· ≠ 0)).map (c * ·) := by
      rw [List.filter_map]
      congr 1
      apply List.filter_congr
      intro x _
      simp [Int.mul_eq_zero, hc]
    rw [this]
    cases e : ns.filter (· ≠ 0) with
    | nil =>
      obtain ⟨m, ms, hm, _, _⟩ := lead_of hne
      rw [hm] at e
      cases e
    | cons m ms => rfl
  obtain ⟨m, ms, hm, hlead, hm0⟩ := lead_of hne
  have g0 : gcds ns ≠ 0 := gcds_ne hne
  have key : (if 0 < lead (ns.map (c * ·)) then (gcds (ns.map (c * ·)) : Int) else -(gcds (ns.map (c * ·)) : Int)) = c * (if 0 < lead ns then (gcds ns : Int) else -(gcds ns : Int)) := by
    rw [hl, gg, hlead]
    have e1 : ((c.natAbs * gcds ns : Nat) : Int) = (c.natAbs : Int) * (gcds ns : Int) := by simp
    rw [e1]
    rcases Int.lt_or_gt_of_ne hc with c1 | c1 <;> rcases Int.lt_or_gt_of_ne hm0 with m1 | m1
    · have : 0 < c * m := Int.mul_pos_of_neg_of_neg c1 m1
      rw [if_pos this, if_neg (by omega)]
      have : (c.natAbs : Int) = -c := by omega
      rw [this, Int.mul_neg, Int.neg_mul]
    · have : c * m < 0 := Int.mul_neg_of_neg_of_pos c1 m1
      rw [if_neg (by omega), if_pos m1]
      have : (c.natAbs : Int) = -c := by omega
      rw [this, Int.neg_mul, Int.neg_neg]
    · have : c * m < 0 := Int.mul_neg_of_pos_of_neg c1 m1
      rw [if_neg (by omega), if_neg (by omega)]
      have : (c.natAbs : Int) = c := by omega
      rw [this, Int.mul_neg]
    · have : 0 < c * m := Int.mul_pos c1 m1
      rw [if_pos this, if_pos m1]
      have : (c.natAbs : Int) = c := by omega
      rw [this]
  unfold dvd
  rw [key, List.map_map]
  apply List.map_congr_left
  intro n _
  rcases Int.lt_or_gt_of_ne hc with c1 | c1
  · have := Int.mul_fdiv_mul_of_pos (a := -c) n (if 0 < lead ns then (gcds ns : Int) else -(gcds ns : Int)) (by omega)
    rw [Int.neg_mul, Int.neg_mul, Int.neg_fdiv_neg] at this
    exact this
  · exact Int.mul_fdiv_mul_of_pos n _ c1
end CC
/-! Quartics with a double root: a common root of f and f'. -/
namespace CC
/-- one step of a polynomial's value (high first) at θ, θ (u, v) = (α u + κ v, β u + α v) -/
def evS (α β κ : Rat) (a : Rat × Rat) (c : Int) : Rat × Rat := (α * a.1 + κ * a.2 + (c : Rat), β * a.1 + α * a.2)
def ev (α β κ : Rat) (ns : List Int) : Rat × Rat := ns.foldl (evS α β κ) (0, 0)
theorem root4 (P Q R : Rat) (h : 4 * (P * P + 12 * R) * (P * P + 12 * R) * (P * P + 12 * R) = (72 * P * R - 27 * Q * Q - 2 * P * P * P) * (72 * P * R - 27 * Q * Q - 2 * P * P * P)) :
    (∃ t, t * t * t * t + P * t * t + Q * t + R = 0 ∧ 4 * t * t * t + 2 * P * t + Q = 0) ∨ (Q = 0 ∧ 4 * R = P * P) := by
  by_cases hQ : Q = 0
  · subst hQ
    have e : 432 * (R * ((P * P - 4 * R) * (P * P - 4 * R))) = 0 := by grind
    have e2 : R * ((P * P - 4 * R) * (P * P - 4 * R)) = 0 := by grind
    by_cases hR : R = 0
    · exact .inl ⟨0, by grind, by grind⟩
    · refine .inr ⟨rfl, ?_⟩
      have e3 : (P * P - 4 * R) * (P * P - 4 * R) = 0 := by
        rcases Rat.mul_eq_zero.mp e2 with z | z
        · exact absurd z hR
        · exact z
      rcases Rat.mul_eq_zero.mp e3 with z | z <;> grind
  · refine .inl ?_
    obtain ⟨w, w2, w3⟩ : ∃ w : Rat, w * w = P * P + 12 * R ∧ 2 * w * (P * P + 12 * R) = -(72 * P * R - 27 * Q * Q - 2 * P * P * P) := by
      generalize P * P + 12 * R = i at h ⊢
      generalize 72 * P * R - 27 * Q * Q - 2 * P * P * P = j at h ⊢
      by_cases hi : i = 0
      · subst hi
        have : j = 0 := by
          have e : j * j = 0 := by grind
          rcases Rat.mul_eq_zero.mp e with z | z <;> exact z
        exact ⟨0, by grind, by grind⟩
      · refine ⟨-j / (2 * i), ?_, ?_⟩
        · have e : (-j / (2 * i)) * (2 * i) = -j := Rat.div_mul_cancel (by grind)
          generalize -j / (2 * i) = w at e ⊢
          have e2 : 4 * (i * i) * (w * w - i) = 0 := by grind
          rcases Rat.mul_eq_zero.mp e2 with z | z
          · rcases Rat.mul_eq_zero.mp (show i * i = 0 by grind) with z | z <;> exact absurd z hi
          · grind
        · have e : (-j / (2 * i)) * (2 * i) = -j := Rat.div_mul_cancel (by grind)
          generalize -j / (2 * i) = w at e ⊢
          grind
    have k : 27 * (Q * Q) = 2 * (w - P) * ((w + 2 * P) * (w + 2 * P)) := by grind
    have hD : w + 2 * P ≠ 0 := fun z => by
      rw [z] at k
      have : Q * Q = 0 := by grind
      rcases Rat.mul_eq_zero.mp this with z | z <;> exact hQ z
    have ht : (-3 * Q / (2 * (w + 2 * P))) * (2 * (w + 2 * P)) = -3 * Q := Rat.div_mul_cancel (by grind)
    generalize -3 * Q / (2 * (w + 2 * P)) = t at ht
    have t2 : 6 * (t * t) = w - P := by
      have e : (w + 2 * P) * ((w + 2 * P) * (6 * (t * t) - (w - P))) = 0 := by grind
      rcases Rat.mul_eq_zero.mp e with z | z
      · exact absurd z hD
      · rcases Rat.mul_eq_zero.mp z with z | z
        · exact absurd z hD
        · grind
    have d1 : 4 * t * t * t + 2 * P * t + Q = 0 := by grind
    refine ⟨t, ?_, d1⟩
    grind
theorem rat0 {a x : Rat} (h : a ≠ 0) (e : a * x = 0) : x = 0 := by
  rcases Rat.mul_eq_zero.mp e with z | z
  · exact absurd z h
  · exact z
theorem root3 (P Q : Rat) (h : -4 * P * P * P = 27 * Q * Q) : ∃ t, t * t * t + P * t + Q = 0 ∧ 3 * t * t + P = 0 := by
  by_cases hP : P = 0
  · subst hP
    have : Q = 0 := by
      have e : Q * Q = 0 := by grind
      rcases Rat.mul_eq_zero.mp e with z | z <;> exact z
    exact ⟨0, by grind, by grind⟩
  · have ht : (-3 * Q / (2 * P)) * (2 * P) = -3 * Q := Rat.div_mul_cancel (by grind)
    generalize -3 * Q / (2 * P) = t at ht
    have t2 : 3 * t * t + P = 0 := by
      have e : P * (P * (3 * t * t + P)) = 0 := by grind
      exact rat0 hP (rat0 hP e)
    exact ⟨t, by grind, t2⟩
/-- a quartic and its derivative have a common root -/
theorem quart {a b c d e : Rat} (ha : a ≠ 0)
    (h : 4 * (12 * a * e - 3 * b * d + c * c) * (12 * a * e - 3 * b * d + c * c) * (12 * a * e - 3 * b * d + c * c) = (72 * a * c * e + 9 * b * c * d - 27 * a * d * d - 27 * b * b * e - 2 * c * c * c) * (72 * a * c * e + 9 * b * c * d - 27 * a * d * d - 27 * b * b * e - 2 * c * c * c)) :
    (∃ x, a * x * x * x * x + b * x * x * x + c * x * x + d * x + e = 0 ∧ 4 * a * x * x * x + 3 * b * x * x + 2 * c * x + d = 0) ∨
    ∃ al be k, 4 * a * al = -b ∧ 4 * a * be = 1 ∧ 8 * b * b * b - 32 * a * b * c + 64 * a * a * d = 0 ∧ 2 * k = -(16 * a * c - 6 * b * b) ∧ 4 * (256 * a * a * a * e - 64 * a * a * b * d + 16 * a * b * b * c - 3 * b * b * b * b) = (16 * a * c - 6 * b * b) * (16 * a * c - 6 * b * b) ∧ k = k ∧ al = al ∧ be = be := by
  have e1 : (16 * a * c - 6 * b * b) * (16 * a * c - 6 * b * b) + 12 * (256 * a * a * a * e - 64 * a * a * b * d + 16 * a * b * b * c - 3 * b * b * b * b) = 256 * a * a * (12 * a * e - 3 * b * d + c * c) := by grind
  have e2 : 72 * (16 * a * c - 6 * b * b) * (256 * a * a * a * e - 64 * a * a * b * d + 16 * a * b * b * c - 3 * b * b * b * b) - 27 * (8 * b * b * b - 32 * a * b * c + 64 * a * a * d) * (8 * b * b * b - 32 * a * b * c + 64 * a * a * d) - 2 * (16 * a * c - 6 * b * b) * (16 * a * c - 6 * b * b) * (16 * a * c - 6 * b * b) = 4096 * a * a * a * (72 * a * c * e + 9 * b * c * d - 27 * a * d * d - 27 * b * b * e - 2 * c * c * c) := by grind
  rcases root4 (16 * a * c - 6 * b * b) (8 * b * b * b - 32 * a * b * c + 64 * a * a * d) (256 * a * a * a * e - 64 * a * a * b * d + 16 * a * b * b * c - 3 * b * b * b * b) (by
      rw [e1, e2]
      generalize 12 * a * e - 3 * b * d + c * c = i at h
      generalize 72 * a * c * e + 9 * b * c * d - 27 * a * d * d - 27 * b * b * e - 2 * c * c * c = j at h
      grind) with ⟨t, h1, h2⟩ | ⟨h1, h2⟩
  · refine .inl ?_
    have ht : ((t - b) / (4 * a)) * (4 * a) = t - b := Rat.div_mul_cancel (by grind)
    generalize (t - b) / (4 * a) = x at ht
    have e3 : t = 4 * a * x + b := by grind
    subst e3
    clear e1 e2 h ht
    refine ⟨x, rat0 (x := a * x * x * x * x + b * x * x * x + c * x * x + d * x + e) ha (rat0 ha (rat0 ha ?_)), rat0 (x := 4 * a * x * x * x + 3 * b * x * x + 2 * c * x + d) ha (rat0 ha ?_)⟩
    · grind
    · grind
  · refine .inr ⟨-b / (4 * a), 1 / (4 * a), -(16 * a * c - 6 * b * b) / 2, ?_, ?_, h1, by grind, h2, rfl, rfl, rfl⟩
    · have : (-b / (4 * a)) * (4 * a) = -b := Rat.div_mul_cancel (by grind)
      grind
    · have : (1 / (4 * a)) * (4 * a) = 1 := Rat.div_mul_cancel (by grind)
      grind
end CC
/-! Euclid on lists of coefficients. -/
namespace CC
open L2 PySem
section
variable {g : Bool} {S : Store} {Q : Post}
theorem p_cat {l m : Nat} {a b : List D} (h1 : S[l]? = some (.lst a)) (h2 : S[m]? = some (.lst b)) (hz : a.length + b.length ≤ sizeLine) (q : Q (.ref S.length) (S ++ [.lst (a ++ b)])) : primW g (.bin .Add) [.ref l, .ref m] S Q := by
  unfold primW primR binR
  simp only [h1, h2, newL]
  exact ⟨hz, q⟩
theorem p_drop1 {l : Nat} {xs : List D} (h : seqAt S l = some xs) (q : Q (.ref S.length) (S ++ [.lst (xs.drop 1)])) : primW g (.slc true false) [.ref l, .int 1] S Q := by
  have e : cutD xs (some 1) none = xs.drop 1 := by
    unfold cutD
    rw [HT.sIx_none, show (some (1 : Int)) = some ((1 : Nat) : Int) from rfl, HT.sIx_nat]
    cases xs with
    | nil => rfl
    | cons x r => simp
  unfold primW primR slcR
  simp only [h, newL, e]
  exact ⟨trivial, q⟩
end
theorem zip_int (f : Int → Int → Int) (F : D → Option D) (h : ∀ a b : Int, F (.tup [.int a, .int b]) = some (.int (f a b))) : ∀ L P : List Int, (((L.map D.int).zip (P.map D.int)).map fun p => D.tup [p.1, p.2]).filterMap F = (List.zipWith f L P).map D.int
  | [], _ => by simp
  | _ :: _, [] => by simp
  | a :: L, b :: P => by
    simp only [List.map_cons, List.zip_cons_cons, List.filterMap_cons, h, List.zipWith_cons_cons, zip_int f F h L P]
theorem mem_zipW {f : Int → Int → Int} : ∀ {L P : List Int} {n : Int}, n ∈ List.zipWith f L P → ∃ a ∈ L, ∃ b ∈ P, n = f a b
  | a :: L, b :: P, n, h => by
    rw [List.zipWith_cons_cons] at h
    rcases List.mem_cons.mp h with rfl | h
    · exact ⟨a, List.mem_cons_self, b, List.mem_cons_self, rfl⟩
    · obtain ⟨x, hx, y, hy, e⟩ := mem_zipW h
      exact ⟨x, List.mem_cons_of_mem _ hx, y, List.mem_cons_of_mem _ hy, e⟩
  | [], _, n, h => by simp at h
  | _ :: _, [], n, h => by simp at h
/-- what Euclid's steps keep -/
structure ZP (Z : List Int → Prop) : Prop where
  comb : ∀ (x y : Int) (l r : List Int), l.length = r.length → Z l → Z r → Z (List.zipWith (fun a b => x * a - y * b) l r)
  pad : ∀ l k, Z l → Z (l ++ List.replicate k 0)
  tail : ∀ l, Z (0 :: l) → Z l
  dvd : ∀ l, (∃ n ∈ l, n ≠ 0) → Z l → Z (dvd l)
def cb (r : Nat) : Nat := if r = 4 then 230 else if r = 3 then 692 else if r = 2 then 2078 else 8315
def mx (r : Nat) : Nat := if r = 4 then 5 else 4
theorem dvd_bd {b : Nat} {ns : List Int} (h : ∀ n ∈ ns, Bd b n) : ∀ n ∈ dvd ns, Bd b n := fun n hn => by
  obtain ⟨m, hm, rfl⟩ := List.mem_map.mp hn
  exact (h m hm).fdiv _
theorem dvd_head {x : Int} {l : List Int} (h : x ≠ 0) : ∃ y r, dvd (x :: l) = y :: r ∧ y ≠ 0 ∧ r.length = l.length := by
  have hne : ∃ n ∈ x :: l, n ≠ 0 := ⟨x, List.mem_cons_self, h⟩
  have g0 := gcds_ne hne
  have hd := gcds_dvd (ns := x :: l) (n := x) List.mem_cons_self
  refine ⟨_, _, rfl, ?_, by simp⟩
  have key : ∀ g : Int, g ≠ 0 → g ∣ x → x.fdiv g ≠ 0 := fun g hg hd => by
    obtain ⟨k, rfl⟩ := hd
    rw [Int.mul_fdiv_cancel_left _ hg]
    rintro rfl
    simp at h
  split
  · exact key _ (by omega) hd
  · exact key _ (by omega) (Int.neg_dvd.mpr hd)
structure Ok (Z : List Int → Prop) (L R : List Int) : Prop where
  r1 : 1 ≤ R.length
  r4 : R.length ≤ 4
  lr : R.length < L.length
  lm : L.length ≤ mx R.length
  bl : ∀ n ∈ L, Bd (cb R.length) n
  br : ∀ n ∈ R, Bd (cb R.length) n
  hd : ∃ y r, R = y :: r ∧ y ≠ 0
  zl : Z L
  zr : Z R
theorem cb_le {a b : Nat} (h : a ≤ b) (hb : b ≤ 4) (ha : 1 ≤ a) : cb b ≤ cb a := by
  unfold cb
  have : b = 1 ∨ b = 2 ∨ b = 3 ∨ b = 4 := by omega
  have : a = 1 ∨ a = 2 ∨ a = 3 ∨ a = 4 := by omega
  rcases this with rfl | rfl | rfl | rfl <;> rcases ‹b = 1 ∨ _› with rfl | rfl | rfl | rfl <;> first | decide | omega
theorem cb_step {r : Nat} (h : 2 ≤ r) (h4 : r ≤ 4) : cb r + (mx r - (r - 1)) * (cb r + 1) ≤ cb (r - 1) := by
  have : r = 2 ∨ r = 3 ∨ r = 4 := by omega
  rcases this with rfl | rfl | rfl <;> decide
theorem mx_le (r : Nat) : mx r ≤ 5 ∧ 4 ≤ mx r := by
  unfold mx
  split <;> omega
theorem cb_top (r : Nat) : cb r ≤ 8315 := by
  unfold cb
  split
  · decide
  · split
    · decide
    · split <;> decide
theorem zipI_get {L P : List Int} {i : Nat} {d : D} (h : (((L.map D.int).zip (P.map D.int)).map fun p => D.tup [p.1, p.2])[i]? = some d) : ∃ u ∈ L, ∃ v ∈ P, d = .tup [.int u, .int v] := by
  rw [List.getElem?_map] at h
  cases e : ((L.map D.int).zip (P.map D.int))[i]? with
  | none => rw [e] at h; cases h
  | some q =>
    rw [e] at h
    cases h
    obtain ⟨h1, h2⟩ := List.getElem?_zip_eq_some.mp e
    obtain ⟨u, hu, e1⟩ := get_ints h1
    obtain ⟨v, hv, e2⟩ := get_ints h2
    refine ⟨u, List.mem_of_getElem? hu, v, List.mem_of_getElem? hv, ?_⟩
    dsimp only
    rw [e1, e2]
/-- the state of the loops -/
def stS (l : Nat) (zh zs : D) (ll lr : Nat) (z7 z8 z9 : Option D) : Sd := [some (.ref l), some zh, some zs, some (.ref ll), some (.ref lr), none, none, z7, z8, z9, none, none]
def Inv0 (Z : List Int → Prop) (l : Nat) (zh zs : D) (S0 : Store) (m : Nat) (σ : Sd) (S : Store) : Prop :=
  ∃ ll lr L R z7 z8 z9, σ = stS l zh zs ll lr z7 z8 z9 ∧ Gr S0 S ∧ S[ll]? = some (.lst (L.map D.int)) ∧ S[lr]? = some (.lst (R.map D.int)) ∧ Ok Z L R ∧ m = R.length
def Inv1 (Z : List Int → Prop) (l : Nat) (zh zs : D) (S0 : Store) (lr : Nat) (R : List Int) (m : Nat) (σ : Sd) (S : Store) : Prop :=
  ∃ ll L z7 z8 z9, σ = stS l zh zs ll lr z7 z8 z9 ∧ Gr S0 S ∧ S[ll]? = some (.lst (L.map D.int)) ∧ S[lr]? = some (.lst (R.map D.int)) ∧ m = L.length ∧ R.length ≤ m + 1 ∧ m ≤ mx R.length ∧ (∀ n ∈ L, Bd (cb R.length + (mx R.length - m) * (cb R.length + 1)) n) ∧ Z L
def Inv2 (Z : List Int → Prop) (l : Nat) (zh zs : D) (S0 : Store) (lr : Nat) (R : List Int) (m : Nat) (σ : Sd) (S : Store) : Prop :=
  ∃ ll L z7 z8 z9, σ = stS l zh zs ll lr z7 z8 z9 ∧ Gr S0 S ∧ S[ll]? = some (.lst (L.map D.int)) ∧ S[lr]? = some (.lst (R.map D.int)) ∧ m = L.length ∧ m < R.length ∧ (∀ n ∈ L, Bd (cb (R.length - 1)) n) ∧ Z L
/-- the loop's body, its parts -/
def eStep : Sms := (.cons (.asg (.tup (.cons (.name 8) (.cons (.name 9) .nil))) (.prim .tup (.cons (.prim .idx (.cons (.var 3) (.cons (.const (.int 0)) .nil))) (.cons (.prim .idx (.cons (.var 4) (.cons (.const (.int 0)) .nil))) .nil)))) (.cons (.asg (.name 7) (.prim (.bin .Add) (.cons (.var 4) (.cons (.prim (.bin .Mult) (.cons (.prim .lst (.cons (.const (.int 0)) .nil)) (.cons (.prim (.bin .Sub) (.cons (.prim (.blt .len) (.cons (.var 3) .nil)) (.cons (.prim (.blt .len) (.cons (.var 4) .nil)) .nil))) .nil))) .nil)))) (.cons (.asg (.name 3) (.prim (.slc true false) (.cons (.comp (.prim (.bin .Sub) (.cons (.prim (.bin .Mult) (.cons (.var 9) (.cons (.var 10) .nil))) (.cons (.prim (.bin .Mult) (.cons (.var 8) (.cons (.var 11) .nil))) .nil))) (.tup (.cons (.name 10) (.cons (.name 11) .nil))) .zip (.cons (.var 3) (.cons (.var 7) .nil)) .nil [("one_here", 10), ("two_here", 11)]) (.cons (.const (.int 1)) .nil)))) .nil)))
def eLoop : Sm := .whil (.prim (.cmp .GtE) (.cons (.prim (.blt .len) (.cons (.var 3) .nil)) (.cons (.prim (.blt .len) (.cons (.var 4) .nil)) .nil))) eStep
def eStrip : Sm := .whil (.andE (.prim (.cmp .NotEq) (.cons (.var 3) (.cons (.prim .lst .nil) .nil))) (.one (.prim (.cmp .Eq) (.cons (.prim .idx (.cons (.var 3) (.cons (.const (.int 0)) .nil))) (.cons (.const (.int 0)) .nil))))) (.cons (.asg (.name 3) (.prim (.slc true false) (.cons (.var 3) (.cons (.const (.int 1)) .nil)))) .nil)
theorem e_loop {φ : Phi} (hφ : PhiMono φ) {Z : List Int → Prop} (hZ : ZP Z) {l : Nat} {zh zs : D} {S0 : Store} {lr : Nat} {R : List Int} (hr : 2 ≤ R.length) (hr4 : R.length ≤ 4) (hb : ∀ n ∈ R, Bd (cb R.length) n) (zr : Z R) {m : Nat} {σ : Sd} {S : Store} {De : EndsD} (h : Inv1 Z l zh zs S0 lr R m σ S)
    (hn : ∀ σ1 S1, Inv2 Z l zh zs S0 lr R (R.length - 1) σ1 S1 → De.nx σ1 S1) : wpS false φ eLoop De σ S := by
  unfold eLoop
  refine wp_while hφ (Inv1 Z l zh zs S0 lr R) m h fun m σ S hi => ?_
  obtain ⟨ll, L, z7, z8, z9, rfl, g0, e1, e2, rfl, h1, h2, h3, h4⟩ := hi
  have hm := mx_le R.length
  have hc := cb_top R.length
  have s1 := seqAt_lst e1
  have s2 := seqAt_lst e2
  simp only [stS, w_prim, wa_cons, wa_nil, w_var, List.getElem?_cons_succ, List.getElem?_cons_zero, onV_some, p_lenE s1, p_lenE s2, p_ge, truth_bl, onB_some, List.length_map, decide_eq_true_eq, Int.ofNat_le]
  by_cases hg : R.length ≤ L.length
  · rw [if_pos hg]
    obtain ⟨x, L', rfl⟩ : ∃ x L', L = x :: L' := by
      cases L with
      | nil => simp only [List.length_nil] at hg; omega
      | cons x r => exact ⟨x, r, rfl⟩
    obtain ⟨y, R', rfl⟩ : ∃ y R', R = y :: R' := by
      cases R with
      | nil => simp at hr
      | cons x r => exact ⟨x, r, rfl⟩
    have hsz : (10 : Nat) ≤ sizeLine := by decide
    have by0 := hb y List.mem_cons_self
    have hB : (mx (y :: R').length - (x :: L').length) * (cb (y :: R').length + 1) ≤ 5 * 8316 := Nat.mul_le_mul (by omega) (by omega)
    have hP : ∀ {k : Nat}, ∀ n ∈ (y :: R') ++ List.replicate k (0 : Int), Bd (cb (y :: R').length) n := fun {k} n hn => by
      rcases List.mem_append.mp hn with h | h
      · exact hb n h
      · rw [List.eq_of_mem_replicate h]
        exact (Bd.of (n := 0) (by decide) (by decide)).mono (Nat.zero_le _)
    have lx : (x :: L').length ≤ 5 := by omega
    have ly : (y :: R').length ≤ 5 := by omega
    simp only [eStep, sd_cons, sd_nil, sd_zero, List.length_cons, List.length_nil, w_var, w_const, w_glob, w_prim, w_meth, w_cut, w_not, w_and, w_or, w_one, w_ite, w_chain, w_call, w_callk, wa_nil, wa_cons, wt_name, wt_tup, wts_nil, wts_cons, wt_sub, ws_nil, ws_cons, w_expr, w_asg, w_setc, w_par2, w_par3, w_aug, w_ret, w_retN, w_ifs, w_never, seqD_tup, tgsLen, p_add, p_sub, p_mul, p_div, p_mod, p_pow, p_neg, p_eq, p_ne, p_lt, p_le, p_gt, p_ge, p_abs, p_int, p_max, p_min, p_tup, p_lst, p_ixT, p_lenT, truth_bl, onV_some, onB_some, onN_some, onD_bl, onO_some, onL_some, on2_eq, on3_eq, onC_nil, onC_one, onAug_sub, onAug_add, onAug_mul, List.getElem?_cons_zero, List.getElem?_cons_succ, List.set_cons_zero, List.set_cons_succ, wipeD, List.map_cons, List.map_nil, true_and, and_true, decide_eq_true_eq, Bool.not_eq_true', decide_eq_false_iff_not, Nat.reduceAdd, Nat.zero_add, atI_0, atI_1, atI_2, p_eqT2, p_neT2, p_isT, p_isI, p_isB, reduceIte, reduceCtorEq, Int.cast_ofNat_Int, not_true_eq_false, not_false_eq_true, eq_self, if_false, if_true, Bool.true_eq_false, Bool.false_eq_true, Bool.not_true, Bool.not_false, Bool.and_true, Bool.true_and, Bool.and_false, Bool.false_and, p_inT2, p_neS, p_eqS, p_ixE s1, p_ixE s2, p_lenE s1, p_lenE s2, List.map_cons]
    refine ⟨by decide, by decide, ?_⟩
    obtain ⟨k, hk⟩ : ∃ k : Nat, (x :: L').length = (y :: R').length + k := ⟨(x :: L').length - (y :: R').length, by omega⟩
    simp only [List.length_cons, List.length_map] at hk
    have ek : ((L'.length + 1 : Nat) : Int) - ((R'.length + 1 : Nat) : Int) = (k : Nat) := by omega
    have gp := Gr.push S (O.lst [.int 0])
    simp only [p_lenE (seqAt_lst (gp _ _ e1)), p_lenE (seqAt_lst (gp _ _ e2)), p_sub, List.length_map, List.length_cons]
    rw [ek]
    refine p_rep (xs := [.int 0]) (k := k) (by simp) (by simp only [List.length_cons] at lx; omega) (by simp only [List.length_cons, List.length_nil] at lx ⊢; omega) ?_
    generalize hS1 : S ++ [O.lst [.int 0]] = S1
    have g1 : Gr S S1 := by rw [← hS1]; exact Gr.push _ _
    have er : (List.replicate k [D.int 0]).flatten = (List.replicate k (0 : Int)).map D.int := by simp
    rw [er]
    generalize hS2 : S1 ++ [O.lst ((List.replicate k (0 : Int)).map D.int)] = S2
    have g2 : Gr S1 S2 := by rw [← hS2]; exact Gr.push _ _
    have e22 := g2 _ _ (g1 _ _ e2)
    have e2p : S2[S1.length]? = some (.lst ((List.replicate k (0 : Int)).map D.int)) := by rw [← hS2]; simp
    refine p_cat e22 e2p (by simp only [List.length_map, List.length_cons, List.length_replicate] at lx ly ⊢; omega) ?_
    rw [← List.map_append]
    generalize hS3 : S2 ++ [O.lst (((y :: R') ++ List.replicate k 0).map D.int)] = S3
    have g3 : Gr S2 S3 := by rw [← hS3]; exact Gr.push _ _
    have eP : S3[S2.length]? = some (.lst (((y :: R') ++ List.replicate k 0).map D.int)) := by rw [← hS3]; simp
    have e13 := g3 _ _ (g2 _ _ (g1 _ _ e1))
    have e23 := g3 _ _ e22
    refine wp_comp hφ ?_
    have lz : ((y :: R') ++ List.replicate k (0 : Int)).length = (x :: L').length := by simp only [List.length_append, List.length_cons, List.length_replicate]; omega
    simp only [sd_cons, sd_nil, sd_zero, List.length_cons, List.length_nil, w_var, w_const, w_glob, w_prim, w_meth, w_cut, w_not, w_and, w_or, w_one, w_ite, w_chain, w_call, w_callk, wa_nil, wa_cons, wt_name, wt_tup, wts_nil, wts_cons, wt_sub, ws_nil, ws_cons, w_expr, w_asg, w_setc, w_par2, w_par3, w_aug, w_ret, w_retN, w_ifs, w_never, seqD_tup, tgsLen, p_add, p_sub, p_mul, p_div, p_mod, p_pow, p_neg, p_eq, p_ne, p_lt, p_le, p_gt, p_ge, p_abs, p_int, p_max, p_min, p_tup, p_lst, p_ixT, p_lenT, truth_bl, onV_some, onB_some, onN_some, onD_bl, onO_some, onL_some, on2_eq, on3_eq, onC_nil, onC_one, onAug_sub, onAug_add, onAug_mul, List.getElem?_cons_zero, List.getElem?_cons_succ, List.set_cons_zero, List.set_cons_succ, wipeD, List.map_cons, List.map_nil, true_and, and_true, decide_eq_true_eq, Bool.not_eq_true', decide_eq_false_iff_not, Nat.reduceAdd, Nat.zero_add, atI_0, atI_1, atI_2, p_eqT2, p_neT2, p_isT, p_isI, p_isB, reduceIte, reduceCtorEq, Int.cast_ofNat_Int, not_true_eq_false, not_false_eq_true, eq_self, if_false, if_true, Bool.true_eq_false, Bool.false_eq_true, Bool.not_true, Bool.not_false, Bool.and_true, Bool.true_and, Bool.and_false, Bool.false_and, p_inT2, p_neS, p_eqS, iterR, seqAt_lst e13, seqAt_lst eP]
    refine ⟨_, _, rfl, trivial, fun p hp => ?_, ?_, fun d => match d with
      | .tup [.int u, .int v] => some (.int (y * u - x * v))
      | _ => none, fun i d S4 hd hg4 => ?_, fun S4 hg4 h4' => ?_⟩
    · simp only [List.mem_cons, List.not_mem_nil, or_false] at hp
      rcases hp with rfl | rfl
      · exact seqAt_lst e13
      · exact seqAt_lst eP
    · simp only [List.length_map, List.length_zip]
      rw [lz]
      omega
    · obtain ⟨u, hu, v, hv, rfl⟩ := zipI_get (L := x :: L') (P := (y :: R') ++ List.replicate k 0) hd
      simp only [sd_cons, sd_nil, sd_zero, List.length_cons, List.length_nil, w_var, w_const, w_glob, w_prim, w_meth, w_cut, w_not, w_and, w_or, w_one, w_ite, w_chain, w_call, w_callk, wa_nil, wa_cons, wt_name, wt_tup, wts_nil, wts_cons, wt_sub, ws_nil, ws_cons, w_expr, w_asg, w_setc, w_par2, w_par3, w_aug, w_ret, w_retN, w_ifs, w_never, seqD_tup, tgsLen, p_add, p_sub, p_mul, p_div, p_mod, p_pow, p_neg, p_eq, p_ne, p_lt, p_le, p_gt, p_ge, p_abs, p_int, p_max, p_min, p_tup, p_lst, p_ixT, p_lenT, truth_bl, onV_some, onB_some, onN_some, onD_bl, onO_some, onL_some, on2_eq, on3_eq, onC_nil, onC_one, onAug_sub, onAug_add, onAug_mul, List.getElem?_cons_zero, List.getElem?_cons_succ, List.set_cons_zero, List.set_cons_succ, wipeD, List.map_cons, List.map_nil, true_and, and_true, decide_eq_true_eq, Bool.not_eq_true', decide_eq_false_iff_not, Nat.reduceAdd, Nat.zero_add, atI_0, atI_1, atI_2, p_eqT2, p_neT2, p_isT, p_isI, p_isB, reduceIte, reduceCtorEq, Int.cast_ofNat_Int, not_true_eq_false, not_false_eq_true, eq_self, if_false, if_true, Bool.true_eq_false, Bool.false_eq_true, Bool.not_true, Bool.not_false, Bool.and_true, Bool.true_and, Bool.and_false, Bool.false_and, p_inT2, p_neS, p_eqS]
      exact ⟨(by0.mulOk (h3 u hu) (by omega) (by omega)), ((h3 x List.mem_cons_self).mulOk (hP v hv) (by omega) (by omega)), Gr.refl _⟩
    · have h4' : S4[S3.length]? = some (.lst ((List.zipWith (fun a b => y * a - x * b) (x :: L') ((y :: R') ++ List.replicate k 0)).map D.int)) :=
        h4'.trans (congrArg (fun z => some (O.lst z)) (zip_int (fun a b => y * a - x * b) _ (fun a b => rfl) (x :: L') ((y :: R') ++ List.replicate k 0)))
      refine p_drop1 (seqAt_lst h4') ?_
      rw [← List.map_drop]
      have ez : List.zipWith (fun a b => y * a - x * b) (x :: L') ((y :: R') ++ List.replicate k 0) = 0 :: List.zipWith (fun a b => y * a - x * b) L' (R' ++ List.replicate k 0) := by
        rw [List.cons_append, List.zipWith_cons_cons, Int.mul_comm y x, Int.sub_self]
      have zz := hZ.comb y x _ _ lz.symm h4 (hZ.pad _ k zr)
      rw [ez] at zz ⊢
      rw [List.drop_succ_cons, List.drop_zero]
      have len : (List.zipWith (fun a b => y * a - x * b) L' (R' ++ List.replicate k 0)).length = L'.length := by
        simp only [List.length_zipWith, List.length_append, List.length_replicate]
        omega
      refine ⟨L'.length, by simp, S4.length, List.zipWith (fun a b => y * a - x * b) L' (R' ++ List.replicate k 0), _, _, _, rfl, (((g0.trans g1).trans (g2.trans g3)).trans (hg4.trans (Gr.push _ _))), by simp, (hg4.trans (Gr.push _ _)) _ _ e23, len.symm, by simp only [List.length_cons] at hg ⊢; omega, by simp only [List.length_cons] at h2 ⊢; omega, fun n hn => ?_, hZ.tail _ zz⟩
      obtain ⟨a, ha, b, hb', rfl⟩ := mem_zipW hn
      have b1 := by0.mul (h3 a (List.mem_cons_of_mem _ ha))
      have b2 := (h3 x List.mem_cons_self).mul (hP b (by rw [List.cons_append]; exact List.mem_cons_of_mem _ hb'))
      have e5 : mx (y :: R').length - L'.length = (mx (y :: R').length - (x :: L').length) + 1 := by simp only [List.length_cons] at h2 ⊢; omega
      rw [e5, Nat.succ_mul]
      exact (b1.sub b2).mono (by omega)
  · rw [if_neg hg]
    refine hn _ _ ⟨ll, L, z7, z8, z9, rfl, g0, e1, e2, by omega, by omega, fun n hn => (h3 n hn).mono ?_, h4⟩
    have e : L.length = R.length - 1 := by omega
    rw [e]
    exact cb_step hr hr4
theorem e_strip {φ : Phi} (hφ : PhiMono φ) {Z : List Int → Prop} (hZ : ZP Z) {l : Nat} {zh zs : D} {S0 : Store} {lr : Nat} {R : List Int} {m : Nat} {σ : Sd} {S : Store} {De : EndsD} (h : Inv2 Z l zh zs S0 lr R m σ S)
    (hn : ∀ ll L z7 z8 z9 S1, Gr S0 S1 → S1[ll]? = some (.lst (L.map D.int)) → S1[lr]? = some (.lst (R.map D.int)) → L.length < R.length → (∀ n ∈ L, Bd (cb (R.length - 1)) n) → Z L → (L = [] ∨ ∃ x r, L = x :: r ∧ x ≠ 0) → De.nx (stS l zh zs ll lr z7 z8 z9) S1) : wpS false φ eStrip De σ S := by
  unfold eStrip
  refine wp_while hφ (Inv2 Z l zh zs S0 lr R) m h fun m σ S hi => ?_
  obtain ⟨ll, L, z7, z8, z9, rfl, g0, e1, e2, rfl, h1, h2, h3⟩ := hi
  have gp := Gr.push S (O.lst [])
  have f1 := gp _ _ e1
  have f2 := gp _ _ e2
  simp only [stS, w_and, w_one, w_prim, wa_cons, wa_nil, w_var, List.getElem?_cons_succ, List.getElem?_cons_zero, onV_some, p_lst]
  refine ⟨by decide, ?_⟩
  refine p_neL (ns := L) (ms := []) (seqAt_lst f1) (seqAt_lst (by simp)) ?_
  cases L with
  | nil =>
    simp only [truth_bl, onB_some, decide_true, Bool.not_true, Bool.false_eq_true, if_false]
    exact hn ll [] z7 z8 z9 _ (g0.trans gp) f1 f2 h1 h2 h3 (.inl rfl)
  | cons x r =>
    simp only [truth_bl, onB_some, reduceCtorEq, decide_false, Bool.not_false, if_true, w_const, p_ixE (seqAt_lst f1), List.map_cons, atI_0, onO_some, p_eq, decide_eq_true_eq]
    split
    · rename_i hx
      subst hx
      simp only [sd_cons, sd_nil, sd_zero, List.length_cons, List.length_nil, w_var, w_const, w_glob, w_prim, w_meth, w_cut, w_not, w_and, w_or, w_one, w_ite, w_chain, w_call, w_callk, wa_nil, wa_cons, wt_name, wt_tup, wts_nil, wts_cons, wt_sub, ws_nil, ws_cons, w_expr, w_asg, w_setc, w_par2, w_par3, w_aug, w_ret, w_retN, w_ifs, w_never, seqD_tup, tgsLen, p_add, p_sub, p_mul, p_div, p_mod, p_pow, p_neg, p_eq, p_ne, p_lt, p_le, p_gt, p_ge, p_abs, p_int, p_max, p_min, p_tup, p_lst, p_ixT, p_lenT, truth_bl, onV_some, onB_some, onN_some, onD_bl, onO_some, onL_some, on2_eq, on3_eq, onC_nil, onC_one, onAug_sub, onAug_add, onAug_mul, List.getElem?_cons_zero, List.getElem?_cons_succ, List.set_cons_zero, List.set_cons_succ, wipeD, List.map_cons, List.map_nil, true_and, and_true, decide_eq_true_eq, Bool.not_eq_true', decide_eq_false_iff_not, Nat.reduceAdd, Nat.zero_add, atI_0, atI_1, atI_2, p_eqT2, p_neT2, p_isT, p_isI, p_isB, reduceIte, reduceCtorEq, Int.cast_ofNat_Int, not_true_eq_false, not_false_eq_true, eq_self, if_false, if_true, Bool.true_eq_false, Bool.false_eq_true, Bool.not_true, Bool.not_false, Bool.and_true, Bool.true_and, Bool.and_false, Bool.false_and, p_inT2, p_neS, p_eqS]
      refine p_drop1 (seqAt_lst f1) ?_
      have gq := Gr.push (S ++ [O.lst []]) (O.lst (List.drop 1 (((0 : Int) :: r).map D.int)))
      exact ⟨r.length, by simp, _, r, z7, z8, z9, rfl, g0.trans (gp.trans gq), by simp, gq _ _ f2, rfl, by simp only [List.length_cons] at h1; omega, fun n hn => h2 n (List.mem_cons_of_mem _ hn), hZ.tail _ h3⟩
    · rename_i hx
      exact hn ll (x :: r) z7 z8 z9 _ (g0.trans gp) f1 f2 h1 h2 h3 (.inr ⟨x, r, rfl, hx⟩)
def eOut : Sm := .whil (.prim (.cmp .Gt) (.cons (.prim (.blt .len) (.cons (.var 4) .nil)) (.cons (.const (.int 1)) .nil))) (.cons eLoop (.cons eStrip (.cons (.ifs (.prim (.cmp .Eq) (.cons (.var 3) (.cons (.prim .lst .nil) .nil))) (.cons (.ret (.const (.bl false))) .nil) .nil) (.cons (.par2 3 4 (.cons (.var 4) (.cons (.call 30 (.cons (.var 3) .nil)) .nil))) .nil))))
theorem e_out {T : Nat → Option Fn} {k : Nat} (h30 : T 30 = some f_law_plain) {Z : List Int → Prop} (hZ : ZP Z) {l : Nat} {zh zs : D} {S0 : Store} {m : Nat} {σ : Sd} {S : Store} {De : EndsD} (h : Inv0 Z l zh zs S0 m σ S)
    (hf : ∀ S1, Gr S0 S1 → De.rt (.bl false) S1) (hn : ∀ ll lr c z7 z8 z9 S1, Gr S0 S1 → S1[lr]? = some (.lst [.int c]) → c ≠ 0 → Z [c] → De.nx (stS l zh zs ll lr z7 z8 z9) S1) : wpS false (wpF T (k + 1)) eOut De σ S := by
  unfold eOut
  refine wp_while (wpF_mono _ _) (Inv0 Z l zh zs S0) m h fun m σ S hi => ?_
  obtain ⟨ll, lr, L, R, z7, z8, z9, rfl, g0, e1, e2, ok, rfl⟩ := hi
  have s2 := seqAt_lst e2
  simp only [stS, w_prim, wa_cons, wa_nil, w_var, w_const, List.getElem?_cons_succ, List.getElem?_cons_zero, onV_some, p_lenE s2, p_gt, truth_bl, onB_some, List.length_map, decide_eq_true_eq]
  by_cases h1 : 2 ≤ R.length
  · rw [if_pos (by omega)]
    refine cutS (wpF_mono _ _) (fun σ1 S1 => Inv2 Z l zh zs S0 lr R (R.length - 1) σ1 S1) ?_ fun σ1 S1 h2 => ?_
    · exact e_loop (wpF_mono _ _) hZ h1 ok.r4 ok.br ok.zr (m := L.length) (S0 := S0) ⟨ll, L, z7, z8, z9, rfl, g0, e1, e2, rfl, by have := ok.lr; omega, ok.lm, fun n hn => (ok.bl n hn).mono (Nat.le_add_right _ _), ok.zl⟩ fun _ _ h => h
    refine cutS (wpF_mono _ _) (fun σ2 S2 => ∃ ll L z7 z8 z9, σ2 = stS l zh zs ll lr z7 z8 z9 ∧ Gr S0 S2 ∧ S2[ll]? = some (.lst (L.map D.int)) ∧ S2[lr]? = some (.lst (R.map D.int)) ∧ L.length < R.length ∧ (∀ n ∈ L, Bd (cb (R.length - 1)) n) ∧ Z L ∧ (L = [] ∨ ∃ x r, L = x :: r ∧ x ≠ 0)) ?_ fun σ2 S2 h3 => ?_
    · exact e_strip (wpF_mono _ _) hZ h2 fun ll L z7 z8 z9 S1 a b c d e f g => ⟨ll, L, z7, z8, z9, rfl, a, b, c, d, e, f, g⟩
    obtain ⟨l2, L2, y7, y8, y9, rfl, g2, f1, f2, k1, k2, k3, k4⟩ := h3
    simp only [stS, ws_cons, ws_nil, w_ifs, w_prim, wa_cons, wa_nil, w_var, List.getElem?_cons_succ, List.getElem?_cons_zero, onV_some, p_lst]
    refine ⟨by decide, ?_⟩
    have gp := Gr.push S2 (O.lst [])
    refine p_eqL (ns := L2) (ms := []) (seqAt_lst (gp _ _ f1)) (seqAt_lst (by simp)) ?_
    rcases k4 with rfl | ⟨x, r, rfl, hx⟩
    · simp only [truth_bl, onB_some, decide_true, if_true, w_ret, w_const]
      exact hf _ (g2.trans gp)
    · simp only [truth_bl, onB_some, reduceCtorEq, decide_false, Bool.false_eq_true, if_false, w_par2, w_call, wa_cons, wa_nil, w_var, List.getElem?_cons_succ, List.getElem?_cons_zero, onV_some]
      have hne : ∃ n ∈ x :: r, n ≠ 0 := ⟨x, List.mem_cons_self, hx⟩
      have ct := cb_top (R.length - 1)
      refine use (sp_law_plain h30 l2 (x :: r) _ (seqAt_lst (gp _ _ f1)) hne (fun n hn => (k2 n hn).mono (by omega)) (by
        have : (10 : Nat) ≤ sizeLine := by decide
        have := ok.r4
        omega)) fun d S3 hd => ?_
      obtain ⟨q, rfl, g3, hq, e3⟩ := hd
      obtain ⟨y, ys, ey, hy, ly⟩ := dvd_head (l := r) hx
      have lk : (dvd (x :: r)).length = (x :: r).length := by rw [ey]; simp [ly]
      simp only [on2_eq, List.set_cons_succ, List.set_cons_zero]
      have r4 := ok.r4
      have le1 : cb R.length ≤ cb (dvd (x :: r)).length := cb_le (by rw [lk]; omega) r4 (by rw [lk]; simp)
      have le2 : cb (R.length - 1) ≤ cb (dvd (x :: r)).length := cb_le (by rw [lk]; omega) (by omega) (by rw [lk]; simp)
      refine ⟨(dvd (x :: r)).length, by rw [lk]; exact k1, lr, q, R, dvd (x :: r), y7, y8, y9, rfl, g2.trans (gp.trans g3), g3 _ _ (gp _ _ f2), e3, ?_, rfl⟩
      exact { r1 := by rw [lk]; simp, r4 := by rw [lk]; omega, lr := by rw [lk]; exact k1, lm := Nat.le_trans r4 (mx_le _).2, bl := fun n hn => (ok.br n hn).mono le1, br := fun n hn => (dvd_bd k2 n hn).mono le2, hd := ⟨y, ys, ey, hy⟩, zl := ok.zr, zr := hZ.dvd _ hne k3 }
  · rw [if_neg (by omega)]
    obtain ⟨y, r, er, hy⟩ := ok.hd
    have r0 : r = [] := by
      cases r with
      | nil => rfl
      | cons a b => rw [er] at h1; simp at h1
    subst r0
    have zr := ok.zr
    rw [er] at zr e2
    exact hn ll lr y z7 z8 z9 S g0 e2 hy zr
end CC
/-! The value of a relation at two points; its form; the five numbers. -/
namespace CC
open L2 PySem
section
variable {g : Bool} {S : Store} {Q : Post}
theorem ints_of (ns : List Int) : intsOf (ns.map D.int) = some ns := by
  induction ns with
  | nil => rfl
  | cons b r ih => simp only [List.map_cons, intsOf, ih]
theorem p_sum {l : Nat} {ns : List Int} (h : seqAt S l = some (ns.map D.int)) (q : Q (.int ns.sum) S) : primW g (.blt .sum) [.ref l] S Q := by
  unfold primW primR bltR
  simp only [h, ints_of]
  exact ⟨trivial, q⟩
end
def termsV (p q r s : Int) : List Int := [p * p * r * r, p * r * (p * s + r * q), p * p * s * s + r * r * q * q, p * q * r * s, q * s * (p * s + r * q), q * q * s * s]
def atV (ns : List Int) (p q r s : Int) : Int := (List.zipWith (· * ·) ns (termsV p q r s)).sum
theorem termsV_bd {b : Nat} {p q r s : Int} (hp : Bd b p) (hq : Bd b q) (hr : Bd b r) (hs : Bd b s) : ∀ n ∈ termsV p q r s, Bd (4 * b + 1) n := fun n hn => by
  have c := ((hp.mul hs).add (hr.mul hq))
  simp only [termsV, List.mem_cons, List.not_mem_nil, or_false] at hn
  rcases hn with rfl | rfl | rfl | rfl | rfl | rfl
  · exact (((hp.mul hp).mul hr).mul hr).mono (by omega)
  · exact ((hp.mul hr).mul c).mono (by omega)
  · exact ((((hp.mul hp).mul hs).mul hs).add (((hr.mul hr).mul hq).mul hq)).mono (by omega)
  · exact (((hp.mul hq).mul hr).mul hs).mono (by omega)
  · exact ((hq.mul hs).mul c).mono (by omega)
  · exact (((hq.mul hq).mul hs).mul hs).mono (by omega)
theorem sp_at {T : Nat → Option Fn} {k : Nat} (h31 : T 31 = some f_law_at) (ns : List Int) (h6 : ns.length = 6) (p q r s : Int) (l : Nat) (S : Store) (hl : seqAt S l = some (ns.map D.int)) {N b : Nat} (hN : N ≤ 100000) (hb : b ≤ 100000) (hn : ∀ n ∈ ns, Bd N n) (hp : Bd b p) (hq : Bd b q) (hr : Bd b r) (hs : Bd b s) :
    wpF T (k + 1) 31 [.ref l, .tup [.int p, .int q], .tup [.int r, .int s]] S (fun d S1 => d = .int (atV ns p q r s) ∧ Gr S S1) fun _ _ => False := by
  have big : (400100 : Nat) ≤ 2 ^ 20 := by decide
  have ok : ∀ {i j : Int} {m n : Nat}, Bd m i → Bd n j → m ≤ 400100 → n ≤ 400100 → IntMulOk i j := fun a b c d => a.mulOk b (Nat.le_trans c big) (Nat.le_trans d big)
  have c := ((hp.mul hs).add (hr.mul hq))
  rw [wF h31]
  refine ⟨rfl, ?_⟩
  simp only [f_law_at, sd_cons, sd_nil, sd_zero, List.length_cons, List.length_nil, Nat.reduceAdd, Nat.zero_add]
  refine cutS (wpF_mono _ _) (fun σ S1 => σ = [some (.ref l), some (.tup [.int p, .int q]), some (.tup [.int r, .int s]), some (.int p), some (.int q), some (.int r), some (.int s), none, none, none] ∧ S1 = S) ?_ fun σ S1 h => ?_
  · simp only [sd_cons, sd_nil, sd_zero, List.length_cons, List.length_nil, w_var, w_const, w_glob, w_prim, w_meth, w_cut, w_not, w_and, w_or, w_one, w_ite, w_chain, w_call, w_callk, wa_nil, wa_cons, wt_name, wt_tup, wts_nil, wts_cons, wt_sub, ws_nil, ws_cons, w_expr, w_asg, w_setc, w_par2, w_par3, w_aug, w_ret, w_retN, w_ifs, w_never, seqD_tup, tgsLen, p_add, p_sub, p_mul, p_div, p_mod, p_pow, p_neg, p_eq, p_ne, p_lt, p_le, p_gt, p_ge, p_abs, p_int, p_max, p_min, p_tup, p_lst, p_ixT, p_lenT, truth_bl, onV_some, onB_some, onN_some, onD_bl, onO_some, onL_some, on2_eq, on3_eq, onC_nil, onC_one, onAug_sub, onAug_add, onAug_mul, List.getElem?_cons_zero, List.getElem?_cons_succ, List.set_cons_zero, List.set_cons_succ, wipeD, List.map_cons, List.map_nil, true_and, and_true, decide_eq_true_eq, Bool.not_eq_true', decide_eq_false_iff_not, Nat.reduceAdd, Nat.zero_add, atI_0, atI_1, atI_2, p_eqT2, p_neT2, p_isT, p_isI, p_isB, reduceIte, reduceCtorEq, Int.cast_ofNat_Int, not_true_eq_false, not_false_eq_true, eq_self, if_false, if_true, Bool.true_eq_false, Bool.false_eq_true, Bool.not_true, Bool.not_false, Bool.and_true, Bool.true_and, Bool.and_false, Bool.false_and, p_inT2, p_neS, p_eqS]
    decide
  obtain ⟨rfl, rfl⟩ := h
  refine cutS (wpF_mono _ _) (fun σ S2 => σ = [some (.ref l), some (.tup [.int p, .int q]), some (.tup [.int r, .int s]), some (.int p), some (.int q), some (.int r), some (.int s), some (.ref S1.length), none, none] ∧ Gr S1 S2 ∧ S2[S1.length]? = some (.lst (((termsV p q r s).take 3).map D.int))) ?_ fun σ S2 h => ?_
  · simp only [sd_cons, sd_nil, sd_zero, List.length_cons, List.length_nil, w_var, w_const, w_glob, w_prim, w_meth, w_cut, w_not, w_and, w_or, w_one, w_ite, w_chain, w_call, w_callk, wa_nil, wa_cons, wt_name, wt_tup, wts_nil, wts_cons, wt_sub, ws_nil, ws_cons, w_expr, w_asg, w_setc, w_par2, w_par3, w_aug, w_ret, w_retN, w_ifs, w_never, seqD_tup, tgsLen, p_add, p_sub, p_mul, p_div, p_mod, p_pow, p_neg, p_eq, p_ne, p_lt, p_le, p_gt, p_ge, p_abs, p_int, p_max, p_min, p_tup, p_lst, p_ixT, p_lenT, truth_bl, onV_some, onB_some, onN_some, onD_bl, onO_some, onL_some, on2_eq, on3_eq, onC_nil, onC_one, onAug_sub, onAug_add, onAug_mul, List.getElem?_cons_zero, List.getElem?_cons_succ, List.set_cons_zero, List.set_cons_succ, wipeD, List.map_cons, List.map_nil, true_and, and_true, decide_eq_true_eq, Bool.not_eq_true', decide_eq_false_iff_not, Nat.reduceAdd, Nat.zero_add, atI_0, atI_1, atI_2, p_eqT2, p_neT2, p_isT, p_isI, p_isB, reduceIte, reduceCtorEq, Int.cast_ofNat_Int, not_true_eq_false, not_false_eq_true, eq_self, if_false, if_true, Bool.true_eq_false, Bool.false_eq_true, Bool.not_true, Bool.not_false, Bool.and_true, Bool.true_and, Bool.and_false, Bool.false_and, p_inT2, p_neS, p_eqS]
    refine ⟨ok hp hp (by omega) (by omega), ok (hp.mul hp) hr (by omega) (by omega), ok ((hp.mul hp).mul hr) hr (by omega) (by omega), ok hp hr (by omega) (by omega), ok hp hs (by omega) (by omega), ok hr hq (by omega) (by omega), ok (hp.mul hr) c (by omega) (by omega), ok hp hp (by omega) (by omega), ok (hp.mul hp) hs (by omega) (by omega), ok ((hp.mul hp).mul hs) hs (by omega) (by omega), ok hr hr (by omega) (by omega), ok (hr.mul hr) hq (by omega) (by omega), ok ((hr.mul hr).mul hq) hq (by omega) (by omega), by decide, Gr.push _ _, by simp [termsV]⟩
  obtain ⟨rfl, g1, e1⟩ := h
  refine cutS (wpF_mono _ _) (fun σ S3 => ∃ m, σ = [some (.ref l), some (.tup [.int p, .int q]), some (.tup [.int r, .int s]), some (.int p), some (.int q), some (.int r), some (.int s), some (.ref m), none, none] ∧ Gr S1 S3 ∧ S3[m]? = some (.lst ((termsV p q r s).map D.int))) ?_ fun σ S3 h => ?_
  · simp only [sd_cons, sd_nil, sd_zero, List.length_cons, List.length_nil, w_var, w_const, w_glob, w_prim, w_meth, w_cut, w_not, w_and, w_or, w_one, w_ite, w_chain, w_call, w_callk, wa_nil, wa_cons, wt_name, wt_tup, wts_nil, wts_cons, wt_sub, ws_nil, ws_cons, w_expr, w_asg, w_setc, w_par2, w_par3, w_aug, w_ret, w_retN, w_ifs, w_never, seqD_tup, tgsLen, p_add, p_sub, p_mul, p_div, p_mod, p_pow, p_neg, p_eq, p_ne, p_lt, p_le, p_gt, p_ge, p_abs, p_int, p_max, p_min, p_tup, p_lst, p_ixT, p_lenT, truth_bl, onV_some, onB_some, onN_some, onD_bl, onO_some, onL_some, on2_eq, on3_eq, onC_nil, onC_one, onAug_sub, onAug_add, onAug_mul, List.getElem?_cons_zero, List.getElem?_cons_succ, List.set_cons_zero, List.set_cons_succ, wipeD, List.map_cons, List.map_nil, true_and, and_true, decide_eq_true_eq, Bool.not_eq_true', decide_eq_false_iff_not, Nat.reduceAdd, Nat.zero_add, atI_0, atI_1, atI_2, p_eqT2, p_neT2, p_isT, p_isI, p_isB, reduceIte, reduceCtorEq, Int.cast_ofNat_Int, not_true_eq_false, not_false_eq_true, eq_self, if_false, if_true, Bool.true_eq_false, Bool.false_eq_true, Bool.not_true, Bool.not_false, Bool.and_true, Bool.true_and, Bool.and_false, Bool.false_and, p_inT2, p_neS, p_eqS]
    refine ⟨ok hp hq (by omega) (by omega), ok (hp.mul hq) hr (by omega) (by omega), ok ((hp.mul hq).mul hr) hs (by omega) (by omega), ok hq hs (by omega) (by omega), ok hp hs (by omega) (by omega), ok hr hq (by omega) (by omega), ok (hq.mul hs) c (by omega) (by omega), ok hq hq (by omega) (by omega), ok (hq.mul hq) hs (by omega) (by omega), ok ((hq.mul hq).mul hs) hs (by omega) (by omega), by decide, ?_⟩
    have g2 := Gr.push S2 (O.lst (((termsV p q r s).drop 3).map D.int))
    refine p_cat (a := ((termsV p q r s).take 3).map D.int) (b := ((termsV p q r s).drop 3).map D.int) (g2 _ _ e1) (by simp [termsV]) (by simp [termsV]; decide) ?_
    exact ⟨_, rfl, g1.trans (g2.trans (Gr.push _ _)), by simp [termsV]⟩
  obtain ⟨m, rfl, g3, e3⟩ := h
  simp only [ws_cons, ws_nil, w_ret, w_prim, wa_cons, wa_nil]
  refine wp_comp (wpF_mono _ _) ?_
  have s1 := g3.seq hl
  simp only [sd_cons, sd_nil, sd_zero, List.length_cons, List.length_nil, w_var, w_const, w_glob, w_prim, w_meth, w_cut, w_not, w_and, w_or, w_one, w_ite, w_chain, w_call, w_callk, wa_nil, wa_cons, wt_name, wt_tup, wts_nil, wts_cons, wt_sub, ws_nil, ws_cons, w_expr, w_asg, w_setc, w_par2, w_par3, w_aug, w_ret, w_retN, w_ifs, w_never, seqD_tup, tgsLen, p_add, p_sub, p_mul, p_div, p_mod, p_pow, p_neg, p_eq, p_ne, p_lt, p_le, p_gt, p_ge, p_abs, p_int, p_max, p_min, p_tup, p_lst, p_ixT, p_lenT, truth_bl, onV_some, onB_some, onN_some, onD_bl, onO_some, onL_some, on2_eq, on3_eq, onC_nil, onC_one, onAug_sub, onAug_add, onAug_mul, List.getElem?_cons_zero, List.getElem?_cons_succ, List.set_cons_zero, List.set_cons_succ, wipeD, List.map_cons, List.map_nil, true_and, and_true, decide_eq_true_eq, Bool.not_eq_true', decide_eq_false_iff_not, Nat.reduceAdd, Nat.zero_add, atI_0, atI_1, atI_2, p_eqT2, p_neT2, p_isT, p_isI, p_isB, reduceIte, reduceCtorEq, Int.cast_ofNat_Int, not_true_eq_false, not_false_eq_true, eq_self, if_false, if_true, Bool.true_eq_false, Bool.false_eq_true, Bool.not_true, Bool.not_false, Bool.and_true, Bool.true_and, Bool.and_false, Bool.false_and, p_inT2, p_neS, p_eqS, iterR, s1, seqAt_lst e3]
  refine ⟨_, _, rfl, trivial, fun z hz => ?_, ?_, fun d => match d with
    | .tup [.int u, .int v] => some (.int (u * v))
    | _ => none, fun i d S4 hd hg4 => ?_, fun S4 hg4 h4 => ?_⟩
  · simp only [List.mem_cons, List.not_mem_nil, or_false] at hz
    rcases hz with rfl | rfl
    · exact s1
    · exact seqAt_lst e3
  · have : (6 : Nat) ≤ sizeLine := by decide
    simp only [List.length_map, List.length_zip, h6]
    omega
  · obtain ⟨u, hu, v, hv, rfl⟩ := zipI_get hd
    simp only [sd_cons, sd_nil, sd_zero, List.length_cons, List.length_nil, w_var, w_const, w_glob, w_prim, w_meth, w_cut, w_not, w_and, w_or, w_one, w_ite, w_chain, w_call, w_callk, wa_nil, wa_cons, wt_name, wt_tup, wts_nil, wts_cons, wt_sub, ws_nil, ws_cons, w_expr, w_asg, w_setc, w_par2, w_par3, w_aug, w_ret, w_retN, w_ifs, w_never, seqD_tup, tgsLen, p_add, p_sub, p_mul, p_div, p_mod, p_pow, p_neg, p_eq, p_ne, p_lt, p_le, p_gt, p_ge, p_abs, p_int, p_max, p_min, p_tup, p_lst, p_ixT, p_lenT, truth_bl, onV_some, onB_some, onN_some, onD_bl, onO_some, onL_some, on2_eq, on3_eq, onC_nil, onC_one, onAug_sub, onAug_add, onAug_mul, List.getElem?_cons_zero, List.getElem?_cons_succ, List.set_cons_zero, List.set_cons_succ, wipeD, List.map_cons, List.map_nil, true_and, and_true, decide_eq_true_eq, Bool.not_eq_true', decide_eq_false_iff_not, Nat.reduceAdd, Nat.zero_add, atI_0, atI_1, atI_2, p_eqT2, p_neT2, p_isT, p_isI, p_isB, reduceIte, reduceCtorEq, Int.cast_ofNat_Int, not_true_eq_false, not_false_eq_true, eq_self, if_false, if_true, Bool.true_eq_false, Bool.false_eq_true, Bool.not_true, Bool.not_false, Bool.and_true, Bool.true_and, Bool.and_false, Bool.false_and, p_inT2, p_neS, p_eqS]
    exact ⟨ok (hn u hu) (termsV_bd hp hq hr hs v hv) (by omega) (by omega), Gr.refl _⟩
  · have h4 : S4[S3.length]? = some (.lst ((List.zipWith (· * ·) ns (termsV p q r s)).map D.int)) := h4.trans (congrArg (fun z => some (O.lst z)) (zip_int (fun a b => a * b) _ (fun a b => rfl) ns (termsV p q r s)))
    refine p_sum (seqAt_lst h4) ?_
    exact ⟨rfl, g3.trans hg4⟩
theorem Bd.sum6 {b : Nat} {x0 x1 x2 x3 x4 x5 : Int} (h0 : Bd b x0) (h1 : Bd b x1) (h2 : Bd b x2) (h3 : Bd b x3) (h4 : Bd b x4) (h5 : Bd b x5) : Bd (b + 3) (x0 + (x1 + (x2 + (x3 + (x4 + (x5 + 0)))))) := by
  unfold Bd at *
  have : 2 ^ (b + 3) = 2 ^ b * 8 := by rw [Nat.pow_add]
  omega
theorem atV_bd {ns : List Int} (h6 : ns.length = 6) {N b : Nat} {p q r s : Int} (hn : ∀ n ∈ ns, Bd N n) (hp : Bd b p) (hq : Bd b q) (hr : Bd b r) (hs : Bd b s) : Bd (N + 4 * b + 4) (atV ns p q r s) := by
  match ns, h6 with
  | [n0, n1, n2, n3, n4, n5], _ =>
    have t := termsV_bd hp hq hr hs
    have k : ∀ {x y : Int}, x ∈ [n0, n1, n2, n3, n4, n5] → y ∈ termsV p q r s → Bd (N + (4 * b + 1)) (x * y) := fun hx hy => (hn _ hx).mul (t _ hy)
    exact (Bd.sum6 (k (by simp) (by simp [termsV])) (k (by simp) (by simp [termsV])) (k (by simp) (by simp [termsV])) (k (by simp) (by simp [termsV])) (k (by simp) (by simp [termsV])) (k (by simp) (by simp [termsV]))).mono (by omega)
def formV (ns : List Int) (p q : Int) : List Int := match ns with
  | [a, b, c, d, e, f] => [a * p * p + b * p * q + c * q * q, b * p * p + d * p * q + e * q * q, c * p * p + e * p * q + f * q * q]
  | _ => []
theorem sp_form {T : Nat → Option Fn} {k : Nat} (h31 : T 31 = some f_law_at) (h32 : T 32 = some f_law_form) (ns : List Int) (h6 : ns.length = 6) (p q : Int) (l : Nat) (S : Store) (hl : seqAt S l = some (ns.map D.int)) {N b : Nat} (hN : N ≤ 100000) (hb : b ≤ 100000) (h0 : 0 < b) (hn : ∀ n ∈ ns, Bd N n) (hp : Bd b p) (hq : Bd b q) :
    wpF T (k + 2) 32 [.ref l, .tup [.int p, .int q]] S (fun d S1 => ∃ m, d = .ref m ∧ Gr S S1 ∧ S1[m]? = some (.lst ((formV ns p q).map D.int))) fun _ _ => False := by
  have b1 : Bd b (1 : Int) := (Bd.of (n := 1) (by decide) (by decide)).mono h0
  have b0 : Bd b (0 : Int) := (Bd.of (n := 1) (by decide) (by decide)).mono h0
  rw [wF h32]
  simp only [f_law_form, sd_cons, sd_nil, sd_zero, List.length_cons, List.length_nil, w_var, w_const, w_glob, w_prim, w_meth, w_cut, w_not, w_and, w_or, w_one, w_ite, w_chain, w_call, w_callk, wa_nil, wa_cons, wt_name, wt_tup, wts_nil, wts_cons, wt_sub, ws_nil, ws_cons, w_expr, w_asg, w_setc, w_par2, w_par3, w_aug, w_ret, w_retN, w_ifs, w_never, seqD_tup, tgsLen, p_add, p_sub, p_mul, p_div, p_mod, p_pow, p_neg, p_eq, p_ne, p_lt, p_le, p_gt, p_ge, p_abs, p_int, p_max, p_min, p_tup, p_lst, p_ixT, p_lenT, truth_bl, onV_some, onB_some, onN_some, onD_bl, onO_some, onL_some, on2_eq, on3_eq, onC_nil, onC_one, onAug_sub, onAug_add, onAug_mul, List.getElem?_cons_zero, List.getElem?_cons_succ, List.set_cons_zero, List.set_cons_succ, wipeD, List.map_cons, List.map_nil, true_and, and_true, decide_eq_true_eq, Bool.not_eq_true', decide_eq_false_iff_not, Nat.reduceAdd, Nat.zero_add, atI_0, atI_1, atI_2, p_eqT2, p_neT2, p_isT, p_isI, p_isB, reduceIte, reduceCtorEq, Int.cast_ofNat_Int, not_true_eq_false, not_false_eq_true, eq_self, if_false, if_true, Bool.true_eq_false, Bool.false_eq_true, Bool.not_true, Bool.not_false, Bool.and_true, Bool.true_and, Bool.and_false, Bool.false_and, p_inT2, p_neS, p_eqS]
  refine ⟨by decide, ?_⟩
  refine use (sp_at h31 ns h6 p q 1 0 l S hl hN hb hn hp hq b1 b0) fun d S1 hd => ?_
  obtain ⟨rfl, g1⟩ := hd
  refine ⟨by decide, ?_⟩
  refine use (sp_at h31 ns h6 p q 0 1 l S1 (g1.seq hl) hN hb hn hp hq b0 b1) fun d S2 hd => ?_
  obtain ⟨rfl, g2⟩ := hd
  refine ⟨by decide, ?_⟩
  refine use (sp_at h31 ns h6 p q 1 1 l S2 ((g1.trans g2).seq hl) hN hb hn hp hq b1 b1) fun d S3 hd => ?_
  obtain ⟨rfl, g3⟩ := hd
  simp only [p_sub]
  refine ⟨by decide, _, rfl, (g1.trans g2).trans (g3.trans (Gr.push _ _)), ?_⟩
  match ns, h6 with
  | [n0, n1, n2, n3, n4, n5], _ =>
    simp only [List.getElem?_append_right (Nat.le_refl _), Nat.sub_self, List.getElem?_cons_zero, formV, List.map_cons, List.map_nil]
    have e1 : atV [n0, n1, n2, n3, n4, n5] p q 1 0 = n0 * p * p + n1 * p * q + n2 * q * q := by
      simp only [atV, termsV, List.zipWith_cons_cons, List.zipWith_nil_left, List.sum_cons, List.sum_nil]
      grind
    have e2 : atV [n0, n1, n2, n3, n4, n5] p q 0 1 = n2 * p * p + n4 * p * q + n5 * q * q := by
      simp only [atV, termsV, List.zipWith_cons_cons, List.zipWith_nil_left, List.sum_cons, List.sum_nil]
      grind
    have e3 : atV [n0, n1, n2, n3, n4, n5] p q 1 1 - atV [n0, n1, n2, n3, n4, n5] p q 1 0 - atV [n0, n1, n2, n3, n4, n5] p q 0 1 = n1 * p * p + n3 * p * q + n4 * q * q := by
      simp only [atV, termsV, List.zipWith_cons_cons, List.zipWith_nil_left, List.sum_cons, List.sum_nil]
      grind
    rw [e3, e1, e2]
end CC
/-! Straightness: what the law's Euclid finds, what the program's invariants say. -/
namespace CC
open L2 PySem
/-! ### values at a common root -/
section
variable {al be k : Rat}
theorem evS_zero : evS al be k (0, 0) 0 = (0, 0) := by
  have e0 : ((0 : Int) : Rat) = 0 := rfl
  simp only [evS, Prod.mk.injEq, e0]
  constructor <;> grind
theorem ev_comb (x y : Int) : ∀ (l r : List Int) (p q : Rat × Rat), l.length = r.length → (List.zipWith (fun a b => x * a - y * b) l r).foldl (evS al be k) ((x : Rat) * p.1 - y * q.1, (x : Rat) * p.2 - y * q.2) = ((x : Rat) * (l.foldl (evS al be k) p).1 - y * (r.foldl (evS al be k) q).1, (x : Rat) * (l.foldl (evS al be k) p).2 - y * (r.foldl (evS al be k) q).2)
  | [], [], p, q, _ => rfl
  | [], _ :: _, _, _, h => by simp at h
  | _ :: _, [], _, _, h => by simp at h
  | a :: l, b :: r, p, q, h => by
    rw [List.zipWith_cons_cons, List.foldl_cons, List.foldl_cons, List.foldl_cons, ← ev_comb x y l r _ _ (by simpa using h)]
    congr 1
    simp only [evS, Rat.intCast_sub, Rat.intCast_mul, Prod.mk.injEq]
    constructor <;> grind
theorem ev_pad : ∀ n : Nat, (List.replicate n (0 : Int)).foldl (evS al be k) (0, 0) = (0, 0)
  | 0 => rfl
  | n + 1 => by rw [List.replicate_succ, List.foldl_cons, evS_zero, ev_pad n]
theorem ev_smul (g : Int) : ∀ (l : List Int) (p : Rat × Rat), (l.map (g * ·)).foldl (evS al be k) ((g : Rat) * p.1, (g : Rat) * p.2) = ((g : Rat) * (l.foldl (evS al be k) p).1, (g : Rat) * (l.foldl (evS al be k) p).2)
  | [], p => rfl
  | a :: l, p => by
    rw [List.map_cons, List.foldl_cons, List.foldl_cons, ← ev_smul g l]
    congr 1
    simp only [evS, Rat.intCast_mul, Prod.mk.injEq]
    constructor <;> grind
theorem dvd_back {ns : List Int} (hne : ∃ n ∈ ns, n ≠ 0) : ∃ g : Int, g ≠ 0 ∧ ns = (dvd ns).map (g * ·) := by
  have g0 := gcds_ne hne
  have key : ∀ g : Int, g ≠ 0 → (∀ n ∈ ns, g ∣ n) → ns = (ns.map fun n => n.fdiv g).map (g * ·) := fun g hg hd => by
    rw [List.map_map]
    have e : ns.map ((g * ·) ∘ fun n => n.fdiv g) = ns.map id := List.map_congr_left fun n hn => by
      obtain ⟨k, rfl⟩ := hd n hn
      show g * (g * k).fdiv g = g * k
      rw [Int.mul_fdiv_cancel_left _ hg]
    rw [e, List.map_id]
  by_cases h : 0 < lead ns
  · refine ⟨gcds ns, by omega, ?_⟩
    have := key (gcds ns) (by omega) fun n hn => gcds_dvd hn
    unfold dvd
    simp only [h, if_true]
    exact this
  · refine ⟨-(gcds ns : Int), by omega, ?_⟩
    have := key (-(gcds ns : Int)) (by omega) fun n hn => Int.neg_dvd.mpr (gcds_dvd hn)
    unfold dvd
    simp only [h, if_false]
    exact this
theorem zp_ev : ZP fun ns => ev al be k ns = (0, 0) where
  comb := fun x y l r h hl hr => by
    have z := ev_comb (al := al) (be := be) (k := k) x y l r (0, 0) (0, 0) h
    unfold ev at *
    rw [hl, hr] at z
    have e0 : (x : Rat) * ((0, 0) : Rat × Rat).1 - y * ((0, 0) : Rat × Rat).1 = 0 := by
      show (x : Rat) * 0 - y * 0 = 0
      grind
    have e1 : (x : Rat) * ((0, 0) : Rat × Rat).2 - y * ((0, 0) : Rat × Rat).2 = 0 := e0
    rw [e0] at z
    exact z
  pad := fun l n h => by
    unfold ev at *
    rw [List.foldl_append, h, ev_pad]
  tail := fun l h => by
    unfold ev at *
    rw [List.foldl_cons, evS_zero] at h
    exact h
  dvd := fun l hne h => by
    obtain ⟨g, hg, e⟩ := dvd_back hne
    have z := ev_smul (al := al) (be := be) (k := k) g (dvd l) (0, 0)
    unfold ev at *
    rw [← e] at z
    have gz : (g : Rat) ≠ 0 := fun z => hg (by exact_mod_cast z)
    have z0 : ((g : Rat) * (0, 0).1, (g : Rat) * ((0, 0) : Rat × Rat).2) = ((0, 0) : Rat × Rat) := by simp
    rw [z0, h] at z
    have z1 := congrArg Prod.fst z
    have z2 := congrArg Prod.snd z
    exact Prod.ext (rat0 gz z1.symm) (rat0 gz z2.symm)
theorem zp_true : ZP fun _ => True := ⟨fun _ _ _ _ _ _ _ => trivial, fun _ _ _ => trivial, fun _ _ => trivial, fun _ _ _ => trivial⟩
end
def discV (a b c d e : Int) : Int := 4 * (12 * a * e - 3 * b * d + c * c) * (12 * a * e - 3 * b * d + c * c) * (12 * a * e - 3 * b * d + c * c) - (72 * a * c * e + 9 * b * c * d - 27 * a * d * d - 27 * b * b * e - 2 * c * c * c) * (72 * a * c * e + 9 * b * c * d - 27 * a * d * d - 27 * b * b * e - 2 * c * c * c)
theorem roots4 {a b c d e : Int} (ha : a ≠ 0) (h : discV a b c d e = 0) : ∃ al be k : Rat, ev al be k [a, b, c, d, e] = (0, 0) ∧ ev al be k [4 * a, 3 * b, 2 * c, d] = (0, 0) := by
  have ha' : (a : Rat) ≠ 0 := fun z => ha (by exact_mod_cast z)
  have h' := congrArg (fun z : Int => (z : Rat)) h
  simp only [discV, Rat.intCast_sub, Rat.intCast_add, Rat.intCast_mul] at h'
  have c4 : ((4 * a : Int) : Rat) = 4 * (a : Rat) := by rw [Rat.intCast_mul]; rfl
  have c3 : ((3 * b : Int) : Rat) = 3 * (b : Rat) := by rw [Rat.intCast_mul]; rfl
  have c2 : ((2 * c : Int) : Rat) = 2 * (c : Rat) := by rw [Rat.intCast_mul]; rfl
  have h2 : 4 * (12 * (a : Rat) * e - 3 * b * d + c * c) * (12 * a * e - 3 * b * d + c * c) * (12 * a * e - 3 * b * d + c * c) - (72 * (a : Rat) * c * e + 9 * b * c * d - 27 * a * d * d - 27 * b * b * e - 2 * c * c * c) * (72 * a * c * e + 9 * b * c * d - 27 * a * d * d - 27 * b * b * e - 2 * c * c * c) = 0 := h'
  clear h h'
  simp only [ev, List.foldl_cons, List.foldl_nil, evS, c4, c3, c2, Prod.mk.injEq]
  clear c4 c3 c2 ha
  generalize (a : Rat) = A at *
  generalize (b : Rat) = B at *
  generalize (c : Rat) = C at *
  generalize (d : Rat) = D at *
  generalize (e : Rat) = F at *
  rcases quart ha' (b := B) (c := C) (d := D) (e := F) (by
    generalize 12 * A * F - 3 * B * D + C * C = i at h2 ⊢
    generalize 72 * A * C * F + 9 * B * C * D - 27 * A * D * D - 27 * B * B * F - 2 * C * C * C = j at h2 ⊢
    grind) with ⟨x, h3, h4⟩ | ⟨al, be, k, k1, k2, k3, k4, k5, _, _, _⟩
  · refine ⟨x, 0, 0, ⟨?_, ?_⟩, ?_, ?_⟩ <;> grind
  · have hs : ∃ s, s = be * be * k := ⟨_, rfl⟩
    obtain ⟨s, hs⟩ := hs
    have b1 : B = -(4 * A * al) := by grind
    subst b1
    have d1 : D = 8 * A * al * al * al - 2 * al * C + 0 * k := by
      have := rat0 (x := D - (8 * A * al * al * al - 2 * al * C + 0 * k)) ha' (rat0 ha' (by grind))
      grind
    subst d1
    have s1 : 2 * A * s = 6 * A * al * al - C := by
      have := rat0 ha' (x := 2 * A * s - (6 * A * al * al - C)) (by grind)
      grind
    have c1 : C = 6 * A * al * al - 2 * A * s := by grind
    subst c1
    have e1 : F = A * (al * al - s) * (al * al - s) := by
      have := rat0 (x := F - A * (al * al - s) * (al * al - s)) ha' (rat0 ha' (rat0 ha' (by grind)))
      grind
    subst e1
    refine ⟨al, be, be * k, ⟨?_, ?_⟩, ?_, ?_⟩ <;> grind
theorem roots3 {b c d e : Int} (hb : b ≠ 0) (h : discV 0 b c d e = 0) : ∃ al be k : Rat, ev al be k [b, c, d, e] = (0, 0) ∧ ev al be k [3 * b, 2 * c, d] = (0, 0) := by
  have hb' : (b : Rat) ≠ 0 := fun z => hb (by exact_mod_cast z)
  have h' := congrArg (fun z : Int => (z : Rat)) h
  simp only [discV, Rat.intCast_sub, Rat.intCast_add, Rat.intCast_mul] at h'
  have c3 : ((3 * b : Int) : Rat) = 3 * (b : Rat) := by rw [Rat.intCast_mul]; rfl
  have c2 : ((2 * c : Int) : Rat) = 2 * (c : Rat) := by rw [Rat.intCast_mul]; rfl
  have h2 : 4 * (12 * (0 : Rat) * e - 3 * b * d + c * c) * (12 * 0 * e - 3 * b * d + c * c) * (12 * 0 * e - 3 * b * d + c * c) - (72 * (0 : Rat) * c * e + 9 * b * c * d - 27 * 0 * d * d - 27 * b * b * e - 2 * c * c * c) * (72 * 0 * c * e + 9 * b * c * d - 27 * 0 * d * d - 27 * b * b * e - 2 * c * c * c) = 0 := h'
  clear h h'
  simp only [ev, List.foldl_cons, List.foldl_nil, evS, c3, c2, Prod.mk.injEq]
  clear c3 c2 hb
  generalize (b : Rat) = B at *
  generalize (c : Rat) = C at *
  generalize (d : Rat) = D at *
  generalize (e : Rat) = F at *
  obtain ⟨t, t1, t2⟩ := root3 (9 * B * D - 3 * C * C) (27 * B * B * F - 9 * B * C * D + 2 * C * C * C) (by grind)
  have ht : ((t - C) / (3 * B)) * (3 * B) = t - C := Rat.div_mul_cancel (by grind)
  generalize (t - C) / (3 * B) = x at ht
  have e3 : t = 3 * B * x + C := by grind
  subst e3
  have f1 : B * x * x * x + C * x * x + D * x + F = 0 := rat0 hb' (rat0 hb' (by grind))
  have f2 : 3 * B * x * x + 2 * C * x + D = 0 := rat0 hb' (by grind)
  refine ⟨x, 0, 0, ⟨?_, ?_⟩, ?_, ?_⟩ <;> grind
theorem straight_Z (a b c d e : Int) (h : a ≠ 0 ∨ b ≠ 0) : ∃ Z, ZP Z ∧ (a ≠ 0 → Z [a, b, c, d, e] ∧ Z [4 * a, 3 * b, 2 * c, d]) ∧ (a = 0 → Z [b, c, d, e] ∧ Z [3 * b, 2 * c, d]) ∧ ∀ z : Int, z ≠ 0 → Z [z] → discV a b c d e ≠ 0 := by
  by_cases hd : discV a b c d e = 0
  · have last : ∀ {al be k : Rat} {z : Int}, z ≠ 0 → ev al be k [z] = (0, 0) → False := fun {al be k z} hz e => by
      have e1 := congrArg Prod.fst e
      simp only [ev, List.foldl_cons, List.foldl_nil, evS] at e1
      have : (z : Rat) = 0 := by grind
      exact hz (by exact_mod_cast this)
    by_cases ha : a = 0
    · subst ha
      obtain ⟨al, be, k, h1, h2⟩ := roots3 (h.resolve_left (fun z => z rfl)) hd
      exact ⟨_, zp_ev, fun z => absurd rfl z, fun _ => ⟨h1, h2⟩, fun z hz e => (last hz e).elim⟩
    · obtain ⟨al, be, k, h1, h2⟩ := roots4 ha hd
      exact ⟨_, zp_ev, fun _ => ⟨h1, h2⟩, fun z => absurd z ha, fun z hz e => (last hz e).elim⟩
  · exact ⟨_, zp_true, fun _ => ⟨trivial, trivial⟩, fun _ => ⟨trivial, trivial⟩, fun _ _ _ => hd⟩
end CC
/-! The five numbers of a relation, both ways. -/
namespace CC
open L2 PySem
def quartL (ns : List Int) : List Int := match ns with
  | [a, b, c, d, e, f] => [b * b - 4 * (a * c), 2 * b * d - 4 * (a * e + b * c), d * d + 2 * b * e - 4 * (a * f + b * e + c * c), 2 * d * e - 4 * (b * f + c * e), e * e - 4 * (c * f)]
  | _ => []
def valV (ns : List Int) (x : Int) : Int := match formV ns x 1 with
  | [h, m, l] => m * m - 4 * h * l
  | _ => 0
theorem Bd.c4 : Bd 3 (4 : Int) := Bd.of (by decide) (by decide)
theorem Bd.c2 : Bd 2 (2 : Int) := Bd.of (by decide) (by decide)
theorem formV_bd {ns : List Int} (h6 : ns.length = 6) {N b : Nat} {p q : Int} (hn : ∀ n ∈ ns, Bd N n) (hp : Bd b p) (hq : Bd b q) : ∀ n ∈ formV ns p q, Bd (N + 2 * b + 2) n := by
  match ns, h6 with
  | [a, b', c, d, e, f], _ =>
    have k : ∀ {x y z : Int}, x ∈ [a, b', c, d, e, f] → y ∈ [a, b', c, d, e, f] → z ∈ [a, b', c, d, e, f] → Bd (N + 2 * b + 2) (x * p * p + y * p * q + z * q * q) := fun hx hy hz =>
      (((((hn _ hx).mul hp).mul hp).add (((hn _ hy).mul hp).mul hq)).add (((hn _ hz).mul hq).mul hq)).mono (by omega)
    intro n h
    simp only [formV, List.mem_cons, List.not_mem_nil, or_false] at h
    rcases h with rfl | rfl | rfl
    · exact k (by simp) (by simp) (by simp)
    · exact k (by simp) (by simp) (by simp)
    · exact k (by simp) (by simp) (by simp)
theorem quartL_bd {ns : List Int} (h6 : ns.length = 6) {N : Nat} (hn : ∀ n ∈ ns, Bd N n) : ∀ n ∈ quartL ns, Bd (2 * N + 8) n := by
  match ns, h6 with
  | [a, b, c, d, e, f], _ =>
    have ha := hn a (by simp)
    have hb := hn b (by simp)
    have hc := hn c (by simp)
    have hd := hn d (by simp)
    have he := hn e (by simp)
    have hf := hn f (by simp)
    intro n h
    simp only [quartL, List.mem_cons, List.not_mem_nil, or_false] at h
    rcases h with rfl | rfl | rfl | rfl | rfl
    · exact ((hb.mul hb).sub (Bd.c4.mul (ha.mul hc))).mono (by omega)
    · exact (((Bd.c2.mul hb).mul hd).sub (Bd.c4.mul ((ha.mul he).add (hb.mul hc)))).mono (by omega)
    · exact (((hd.mul hd).add ((Bd.c2.mul hb).mul he)).sub (Bd.c4.mul (((ha.mul hf).add (hb.mul he)).add (hc.mul hc)))).mono (by omega)
    · exact (((Bd.c2.mul hd).mul he).sub (Bd.c4.mul ((hb.mul hf).add (hc.mul he)))).mono (by omega)
    · exact ((he.mul he).sub (Bd.c4.mul (hc.mul hf))).mono (by omega)
/-- the values at five places give the numbers -/
theorem valV_eq {a b c d e f x : Int} : ∃ q4 q3 q2 q1 q0, quartL [a, b, c, d, e, f] = [q4, q3, q2, q1, q0] ∧ valV [a, b, c, d, e, f] x = q4 * (x * x * x * x) + q3 * (x * x * x) + q2 * (x * x) + q1 * x + q0 := by
  refine ⟨_, _, _, _, _, rfl, ?_⟩
  simp only [valV, formV]
  grind
def fiveX : List Int := [0, 1, -1, 2, -2]
theorem seqD_ref (S : Store) (l : Nat) : seqD S (.ref l) = seqAt S l := rfl
theorem sp_five {T : Nat → Option Fn} {k : Nat} (h31 : T 31 = some f_law_at) (h32 : T 32 = some f_law_form) (h35 : T 35 = some f_law_five) (ns : List Int) (h6 : ns.length = 6) (l : Nat) (S : Store) (hl : seqAt S l = some (ns.map D.int)) {N : Nat} (hN : N ≤ 1000) (hn : ∀ n ∈ ns, Bd N n) :
    wpF T (k + 3) 35 [.ref l] S (fun d S1 => ∃ m, d = .ref m ∧ Gr S S1 ∧ S1[m]? = some (.lst ((quartL ns).map D.int))) fun _ _ => False := by
  have big : (4000 : Nat) ≤ 2 ^ 20 := by decide
  have ok : ∀ {i j : Int} {m n : Nat}, Bd m i → Bd n j → m ≤ 4000 → n ≤ 4000 → IntMulOk i j := fun a b c d => a.mulOk b (Nat.le_trans c big) (Nat.le_trans d big)
  rw [wF h35]
  refine ⟨rfl, ?_⟩
  simp only [f_law_five, sd_cons, sd_nil, sd_zero, List.length_cons, List.length_nil, Nat.reduceAdd, Nat.zero_add]
  refine cutS (wpF_mono _ _) (fun σ S1 => σ = [some (.ref l), some (.ref S.length), none, none, none, none, none, none, none, none, none, none] ∧ S1 = S ++ [.lst []]) ?_ fun σ S1 h => ?_
  · simp only [sd_cons, sd_nil, sd_zero, List.length_cons, List.length_nil, w_var, w_const, w_glob, w_prim, w_meth, w_cut, w_not, w_and, w_or, w_one, w_ite, w_chain, w_call, w_callk, wa_nil, wa_cons, wt_name, wt_tup, wts_nil, wts_cons, wt_sub, ws_nil, ws_cons, w_expr, w_asg, w_setc, w_par2, w_par3, w_aug, w_ret, w_retN, w_ifs, w_never, seqD_tup, tgsLen, p_add, p_sub, p_mul, p_div, p_mod, p_pow, p_neg, p_eq, p_ne, p_lt, p_le, p_gt, p_ge, p_abs, p_int, p_max, p_min, p_tup, p_lst, p_ixT, p_lenT, truth_bl, onV_some, onB_some, onN_some, onD_bl, onO_some, onL_some, on2_eq, on3_eq, onC_nil, onC_one, onAug_sub, onAug_add, onAug_mul, List.getElem?_cons_zero, List.getElem?_cons_succ, List.set_cons_zero, List.set_cons_succ, wipeD, List.map_cons, List.map_nil, true_and, and_true, decide_eq_true_eq, Bool.not_eq_true', decide_eq_false_iff_not, Nat.reduceAdd, Nat.zero_add, atI_0, atI_1, atI_2, p_eqT2, p_neT2, p_isT, p_isI, p_isB, reduceIte, reduceCtorEq, Int.cast_ofNat_Int, not_true_eq_false, not_false_eq_true, eq_self, if_false, if_true, Bool.true_eq_false, Bool.false_eq_true, Bool.not_true, Bool.not_false, Bool.and_true, Bool.true_and, Bool.and_false, Bool.false_and, p_inT2, p_neS, p_eqS]
    decide
  obtain ⟨rfl, rfl⟩ := h
  have valb : ∀ x : Int, x ∈ fiveX → Bd (2 * N + 30) (valV ns x) := fun x hx => by
    have bx : Bd 2 x := by
      simp only [fiveX, List.mem_cons, List.not_mem_nil, or_false] at hx
      rcases hx with rfl | rfl | rfl | rfl | rfl <;> exact Bd.of (by decide) (by decide)
    have fb := formV_bd h6 hn bx (Bd.of (by decide) (by decide) : Bd 2 (1 : Int))
    match ns, h6 with
    | [a, b, c, d, e, f], _ =>
      simp only [formV] at fb
      simp only [valV, formV]
      have f1 := fb _ List.mem_cons_self
      have f2 := fb _ (List.mem_cons_of_mem _ List.mem_cons_self)
      have f3 := fb _ (List.mem_cons_of_mem _ (List.mem_cons_of_mem _ List.mem_cons_self))
      exact ((f2.mul f2).sub ((Bd.c4.mul f1).mul f3)).mono (by omega)
  refine cutS (wpF_mono _ _) (fun σ S1 => ∃ z2 z3 z4 z5, σ = [some (.ref l), some (.ref S.length), z2, z3, z4, z5, none, none, none, none, none, none] ∧ Gr S S1 ∧ S1[S.length]? = some (.lst ((fiveX.map (valV ns)).map D.int))) ?_ fun σ S1 h => ?_
  · refine wp_for (wpF_mono _ _) ?_
    simp only [sd_cons, sd_nil, sd_zero, List.length_cons, List.length_nil, w_var, w_const, w_glob, w_prim, w_meth, w_cut, w_not, w_and, w_or, w_one, w_ite, w_chain, w_call, w_callk, wa_nil, wa_cons, wt_name, wt_tup, wts_nil, wts_cons, wt_sub, ws_nil, ws_cons, w_expr, w_asg, w_setc, w_par2, w_par3, w_aug, w_ret, w_retN, w_ifs, w_never, seqD_tup, tgsLen, p_add, p_sub, p_mul, p_div, p_mod, p_pow, p_neg, p_eq, p_ne, p_lt, p_le, p_gt, p_ge, p_abs, p_int, p_max, p_min, p_tup, p_lst, p_ixT, p_lenT, truth_bl, onV_some, onB_some, onN_some, onD_bl, onO_some, onL_some, on2_eq, on3_eq, onC_nil, onC_one, onAug_sub, onAug_add, onAug_mul, List.getElem?_cons_zero, List.getElem?_cons_succ, List.set_cons_zero, List.set_cons_succ, wipeD, List.map_cons, List.map_nil, true_and, and_true, decide_eq_true_eq, Bool.not_eq_true', decide_eq_false_iff_not, Nat.reduceAdd, Nat.zero_add, atI_0, atI_1, atI_2, p_eqT2, p_neT2, p_isT, p_isI, p_isB, reduceIte, reduceCtorEq, Int.cast_ofNat_Int, not_true_eq_false, not_false_eq_true, eq_self, if_false, if_true, Bool.true_eq_false, Bool.false_eq_true, Bool.not_true, Bool.not_false, Bool.and_true, Bool.true_and, Bool.and_false, Bool.false_and, p_inT2, p_neS, p_eqS, iterR, holdOf]
    refine ⟨by decide, _, _, rfl, trivial, fun i σ S1 => ∃ z2 z3 z4 z5, σ = [some (.ref l), some (.ref S.length), z2, z3, z4, z5, none, none, none, none, none, none] ∧ Gr S S1 ∧ S1[S.length]? = some (.lst (((fiveX.take i).map (valV ns)).map D.int)), ⟨_, _, _, _, rfl, Gr.push _ _, by simp⟩, fun i σ S1 _ _ => ok_nil, fun i d σ S1 hd hi => ?_, fun σ S1 hi => ?_⟩
    · obtain ⟨z2, z3, z4, z5, rfl, g1, e1⟩ := hi
      have hd : (fiveX.map D.int)[i]? = some d := hd
      obtain ⟨x, hx, rfl⟩ := get_ints hd
      have mx := List.mem_of_getElem? hx
      have bx : Bd 2 x := by
        simp only [fiveX, List.mem_cons, List.not_mem_nil, or_false] at mx
        rcases mx with rfl | rfl | rfl | rfl | rfl <;> exact Bd.of (by decide) (by decide)
      have b1 : Bd 2 (1 : Int) := Bd.of (by decide) (by decide)
      simp only [sd_cons, sd_nil, sd_zero, List.length_cons, List.length_nil, w_var, w_const, w_glob, w_prim, w_meth, w_cut, w_not, w_and, w_or, w_one, w_ite, w_chain, w_call, w_callk, wa_nil, wa_cons, wt_name, wt_tup, wts_nil, wts_cons, wt_sub, ws_nil, ws_cons, w_expr, w_asg, w_setc, w_par2, w_par3, w_aug, w_ret, w_retN, w_ifs, w_never, seqD_tup, tgsLen, p_add, p_sub, p_mul, p_div, p_mod, p_pow, p_neg, p_eq, p_ne, p_lt, p_le, p_gt, p_ge, p_abs, p_int, p_max, p_min, p_tup, p_lst, p_ixT, p_lenT, truth_bl, onV_some, onB_some, onN_some, onD_bl, onO_some, onL_some, on2_eq, on3_eq, onC_nil, onC_one, onAug_sub, onAug_add, onAug_mul, List.getElem?_cons_zero, List.getElem?_cons_succ, List.set_cons_zero, List.set_cons_succ, wipeD, List.map_cons, List.map_nil, true_and, and_true, decide_eq_true_eq, Bool.not_eq_true', decide_eq_false_iff_not, Nat.reduceAdd, Nat.zero_add, atI_0, atI_1, atI_2, p_eqT2, p_neT2, p_isT, p_isI, p_isB, reduceIte, reduceCtorEq, Int.cast_ofNat_Int, not_true_eq_false, not_false_eq_true, eq_self, if_false, if_true, Bool.true_eq_false, Bool.false_eq_true, Bool.not_true, Bool.not_false, Bool.and_true, Bool.true_and, Bool.and_false, Bool.false_and, p_inT2, p_neS, p_eqS]
      refine ⟨by decide, ?_⟩
      refine use (sp_form (k := k) h31 h32 ns h6 x 1 l S1 (g1.seq hl) (by omega) (by decide) (by decide) hn bx b1) fun d S2 hd => ?_
      obtain ⟨m, rfl, g2, e2⟩ := hd
      have fb := formV_bd h6 hn bx b1
      obtain ⟨hh, mm, ll, ef⟩ : ∃ h m l, formV ns x 1 = [h, m, l] := by
        match ns, h6 with
        | [a, b, c, d, e, f], _ => exact ⟨_, _, _, rfl⟩
      have ev : valV ns x = mm * mm - 4 * hh * ll := by simp only [valV, ef]
      rw [ef] at e2 fb
      have f1 := fb _ List.mem_cons_self
      have f2 := fb _ (List.mem_cons_of_mem _ List.mem_cons_self)
      have f3 := fb _ (List.mem_cons_of_mem _ (List.mem_cons_of_mem _ List.mem_cons_self))
      have e12 := g2 _ _ e1
      simp only [seqD_ref, seqAt_lst e2, sd_cons, sd_nil, sd_zero, List.length_cons, List.length_nil, w_var, w_const, w_glob, w_prim, w_meth, w_cut, w_not, w_and, w_or, w_one, w_ite, w_chain, w_call, w_callk, wa_nil, wa_cons, wt_name, wt_tup, wts_nil, wts_cons, wt_sub, ws_nil, ws_cons, w_expr, w_asg, w_setc, w_par2, w_par3, w_aug, w_ret, w_retN, w_ifs, w_never, seqD_tup, tgsLen, p_add, p_sub, p_mul, p_div, p_mod, p_pow, p_neg, p_eq, p_ne, p_lt, p_le, p_gt, p_ge, p_abs, p_int, p_max, p_min, p_tup, p_lst, p_ixT, p_lenT, truth_bl, onV_some, onB_some, onN_some, onD_bl, onO_some, onL_some, on2_eq, on3_eq, onC_nil, onC_one, onAug_sub, onAug_add, onAug_mul, List.getElem?_cons_zero, List.getElem?_cons_succ, List.set_cons_zero, List.set_cons_succ, wipeD, List.map_cons, List.map_nil, true_and, and_true, decide_eq_true_eq, Bool.not_eq_true', decide_eq_false_iff_not, Nat.reduceAdd, Nat.zero_add, atI_0, atI_1, atI_2, p_eqT2, p_neT2, p_isT, p_isI, p_isB, reduceIte, reduceCtorEq, Int.cast_ofNat_Int, not_true_eq_false, not_false_eq_true, eq_self, if_false, if_true, Bool.true_eq_false, Bool.false_eq_true, Bool.not_true, Bool.not_false, Bool.and_true, Bool.true_and, Bool.and_false, Bool.false_and, p_inT2, p_neS, p_eqS]
      refine ⟨isL_of e12, ok f2 f2 (by omega) (by omega), ok Bd.c4 f1 (by omega) (by omega), ok (Bd.c4.mul f1) f3 (by omega) (by omega), ?_⟩
      have len : (((fiveX.take i).map (valV ns)).map D.int).length < sizeLine := by
        have : (5 : Nat) < sizeLine := by decide
        simp only [List.length_map, List.length_take, fiveX, List.length_cons, List.length_nil]
        omega
      refine p_app e12 len ?_
      refine ⟨_, _, _, _, rfl, (GrX.set _ _ _).gr (g1.trans g2) (Nat.le_refl _), ?_⟩
      rw [set_get e12, ← ev, List.take_add_one, hx]
      simp
    · obtain ⟨z2, z3, z4, z5, rfl, g1, e1⟩ := hi
      exact ⟨_, _, _, _, rfl, g1, e1⟩
  obtain ⟨z2, z3, z4, z5, rfl, g1, e1⟩ := h
  obtain ⟨v0, v1, v2, v3, v4, ev, q4, q3, q2, q1, q0, eq, k0, k1, k2, k3, k4⟩ : ∃ v0 v1 v2 v3 v4, fiveX.map (valV ns) = [v0, v1, v2, v3, v4] ∧ ∃ q4 q3 q2 q1 q0, quartL ns = [q4, q3, q2, q1, q0] ∧ v0 = q0 ∧ v1 = q4 + q3 + q2 + q1 + q0 ∧ v2 = q4 - q3 + q2 - q1 + q0 ∧ v3 = 16 * q4 + 8 * q3 + 4 * q2 + 2 * q1 + q0 ∧ v4 = 16 * q4 - 8 * q3 + 4 * q2 - 2 * q1 + q0 := by
    match ns, h6 with
    | [a, b, c, d, e, f], _ =>
      have key : ∀ x, valV [a, b, c, d, e, f] x = (b * b - 4 * (a * c)) * (x * x * x * x) + (2 * b * d - 4 * (a * e + b * c)) * (x * x * x) + (d * d + 2 * b * e - 4 * (a * f + b * e + c * c)) * (x * x) + (2 * d * e - 4 * (b * f + c * e)) * x + (e * e - 4 * (c * f)) := fun x => by
        simp only [valV, formV]
        grind
      refine ⟨_, _, _, _, _, rfl, _, _, _, _, _, rfl, ?_, ?_, ?_, ?_, ?_⟩ <;> (rw [key]; omega)
  have vb : ∀ n ∈ [v0, v1, v2, v3, v4], Bd (2 * N + 30) n := by
    rw [← ev]
    intro n h
    obtain ⟨x, hx, rfl⟩ := List.mem_map.mp h
    exact valb x hx
  rw [ev] at e1
  have w0 := vb v0 (by simp)
  have w1 := vb v1 (by simp)
  have w2 := vb v2 (by simp)
  have w3 := vb v3 (by simp)
  have w4 := vb v4 (by simp)
  have s1 := seqAt_lst e1
  have a3 : atI (([v0, v1, v2, v3, v4] : List Int).map D.int) 3 = some (.int v3) := atI_nat (i := 3) (by simp)
  have a4 : atI (([v0, v1, v2, v3, v4] : List Int).map D.int) 4 = some (.int v4) := atI_nat (i := 4) (by simp)
  have a0 : atI (([v0, v1, v2, v3, v4] : List Int).map D.int) 0 = some (.int v0) := atI_nat (i := 0) (by simp)
  have a1 : atI (([v0, v1, v2, v3, v4] : List Int).map D.int) 1 = some (.int v1) := atI_nat (i := 1) (by simp)
  have a2 : atI (([v0, v1, v2, v3, v4] : List Int).map D.int) 2 = some (.int v2) := atI_nat (i := 2) (by simp)
  generalize (([v0, v1, v2, v3, v4] : List Int).map D.int) = V at e1 s1 a0 a1 a2 a3 a4
  simp only [sd_cons, sd_nil, sd_zero, List.length_cons, List.length_nil, w_var, w_const, w_glob, w_prim, w_meth, w_cut, w_not, w_and, w_or, w_one, w_ite, w_chain, w_call, w_callk, wa_nil, wa_cons, wt_name, wt_tup, wts_nil, wts_cons, wt_sub, ws_nil, ws_cons, w_expr, w_asg, w_setc, w_par2, w_par3, w_aug, w_ret, w_retN, w_ifs, w_never, seqD_tup, tgsLen, p_add, p_sub, p_mul, p_div, p_mod, p_pow, p_neg, p_eq, p_ne, p_lt, p_le, p_gt, p_ge, p_abs, p_int, p_max, p_min, p_tup, p_lst, p_ixT, p_lenT, truth_bl, onV_some, onB_some, onN_some, onD_bl, onO_some, onL_some, on2_eq, on3_eq, onC_nil, onC_one, onAug_sub, onAug_add, onAug_mul, List.getElem?_cons_zero, List.getElem?_cons_succ, List.set_cons_zero, List.set_cons_succ, wipeD, List.map_cons, List.map_nil, true_and, and_true, decide_eq_true_eq, Bool.not_eq_true', decide_eq_false_iff_not, Nat.reduceAdd, Nat.zero_add, atI_0, atI_1, atI_2, p_eqT2, p_neT2, p_isT, p_isI, p_isB, reduceIte, reduceCtorEq, Int.cast_ofNat_Int, not_true_eq_false, not_false_eq_true, eq_self, if_false, if_true, Bool.true_eq_false, Bool.false_eq_true, Bool.not_true, Bool.not_false, Bool.and_true, Bool.true_and, Bool.and_false, Bool.false_and, p_inT2, p_neS, p_eqS, p_ixE s1, a0, a1, a2, a3, a4]
  have c24 : ∀ {i : Int}, i ≠ 0 → i.natAbs < 100 → ∀ j, i ≠ 0 ∧ DivOk j i := fun {i} h h2 j => ⟨h, (show Bd 8 i from Nat.lt_of_lt_of_le h2 (by decide)).divOk (by decide)⟩
  have d1 : (v3 + v4 - 2 * v0 - 4 * (v1 + v2 - 2 * v0)).fdiv 24 = q4 := by
    have : v3 + v4 - 2 * v0 - 4 * (v1 + v2 - 2 * v0) = 24 * q4 := by omega
    rw [this, Int.mul_fdiv_cancel_left _ (by decide)]
  have d2 : (v3 - v4 - 2 * (v1 - v2)).fdiv 12 = q3 := by
    have : v3 - v4 - 2 * (v1 - v2) = 12 * q3 := by omega
    rw [this, Int.mul_fdiv_cancel_left _ (by decide)]
  have d3 : (v1 + v2 - 2 * v0).fdiv 2 = q4 + q2 := by
    have : v1 + v2 - 2 * v0 = 2 * (q4 + q2) := by omega
    rw [this, Int.mul_fdiv_cancel_left _ (by decide)]
  have d4 : (v1 - v2).fdiv 2 = q3 + q1 := by
    have : v1 - v2 = 2 * (q3 + q1) := by omega
    rw [this, Int.mul_fdiv_cancel_left _ (by decide)]
  refine ⟨ok Bd.c2 w0 (by omega) (by omega), ok Bd.c2 w0 (by omega) (by omega), ok Bd.c4 ((w1.add w2).sub (Bd.c2.mul w0)) (by omega) (by omega), c24 (by decide) (by decide) _, ok Bd.c2 (w1.sub w2) (by omega) (by omega), c24 (by decide) (by decide) _, c24 (by decide) (by decide) _, c24 (by decide) (by decide) _, by decide, _, rfl, g1.trans (Gr.push _ _), ?_⟩
  rw [d1, d2, d3, d4, eq]
  simp only [List.getElem?_append_right (Nat.le_refl _), Nat.sub_self, List.getElem?_cons_zero, List.map_cons, List.map_nil]
  rw [show q4 + q2 - q4 = q2 by omega, show q3 + q1 - q3 = q1 by omega, k0]
end CC
/-! What the law calls straight is straight; the making of a relation. -/
namespace CC
open L2 PySem
section
variable {g : Bool} {S : Store} {Q : Post} {φ : Phi} {σ : Sd} {E : EPost} {De : EndsD}
theorem p_cutBack {l : Nat} {xs : List D} (h : seqAt S l = some xs) (hx : 1 ≤ xs.length) (q : Q (.ref S.length) (S ++ [.lst (xs.take (xs.length - 1))])) : primW g (.slc false true) [.ref l, .int (-1)] S Q := by
  have e : cutD xs none (some (-1)) = xs.take (xs.length - 1) := by
    unfold cutD
    rw [HT.sIx_none]
    have : HT.sIx xs.length xs.length (some (-1)) = xs.length - 1 := by
      show (if (-1 : Int) < 0 then ((-1 : Int) + (xs.length : Int)).toNat else min (-1 : Int).toNat xs.length) = _
      rw [if_pos (by decide)]
      omega
    rw [this]
    simp
  unfold primW primR slcR
  simp only [h, newL, e]
  exact ⟨trivial, q⟩
end
def discQ (ns : List Int) : Int := match quartL ns with
  | [a, b, c, d, e] => discV a b c d e
  | _ => 0
theorem gr_set {S : Store} {l : Nat} {S2 : Store} (g : Gr S S2) (h : S.length ≤ l) (o : O) : Gr S (S2.set l o) := (GrX.set l S2 o).gr g h
theorem sp_law_is_straight {T : Nat → Option Fn} {k : Nat} (h30 : T 30 = some f_law_plain) (h31 : T 31 = some f_law_at) (h32 : T 32 = some f_law_form) (h35 : T 35 = some f_law_five) (h36 : T 36 = some f_law_is_straight) (ns : List Int) (h6 : ns.length = 6) (l : Nat) (S : Store) (hl : seqAt S l = some (ns.map D.int)) (hn : ∀ n ∈ ns, Bd 110 n) :
    wpF T (k + 4) 36 [.ref l] S (fun d S1 => ∃ tv, d = .bl tv ∧ Gr S S1 ∧ (tv = true → discQ ns ≠ 0)) fun _ _ => False := by
  have qb := quartL_bd h6 hn
  obtain ⟨a, b, c, d, e, eq⟩ : ∃ a b c d e, quartL ns = [a, b, c, d, e] := by
    match ns, h6 with
    | [_, _, _, _, _, _], _ => exact ⟨_, _, _, _, _, rfl⟩
  have dq : discQ ns = discV a b c d e := by simp only [discQ, eq]
  rw [eq] at qb
  rw [wF h36]
  refine ⟨rfl, ?_⟩
  simp only [f_law_is_straight, sd_cons, sd_nil, sd_zero, List.length_cons, List.length_nil, Nat.reduceAdd, Nat.zero_add]
  refine cutS (wpF_mono _ _) (fun σ S1 => ∃ m, σ = [some (.ref l), some (.ref m), none, none, none, none, none, none, none, none, none, none] ∧ Gr S S1 ∧ S1[m]? = some (.lst ([a, b, c, d, e].map D.int))) ?_ fun σ S1 h => ?_
  · simp only [sd_cons, sd_nil, sd_zero, List.length_cons, List.length_nil, w_var, w_const, w_glob, w_prim, w_meth, w_cut, w_not, w_and, w_or, w_one, w_ite, w_chain, w_call, w_callk, wa_nil, wa_cons, wt_name, wt_tup, wts_nil, wts_cons, wt_sub, ws_nil, ws_cons, w_expr, w_asg, w_setc, w_par2, w_par3, w_aug, w_ret, w_retN, w_ifs, w_never, seqD_tup, tgsLen, p_add, p_sub, p_mul, p_div, p_mod, p_pow, p_neg, p_eq, p_ne, p_lt, p_le, p_gt, p_ge, p_abs, p_int, p_max, p_min, p_tup, p_lst, p_ixT, p_lenT, truth_bl, onV_some, onB_some, onN_some, onD_bl, onO_some, onL_some, on2_eq, on3_eq, onC_nil, onC_one, onAug_sub, onAug_add, onAug_mul, List.getElem?_cons_zero, List.getElem?_cons_succ, List.set_cons_zero, List.set_cons_succ, wipeD, List.map_cons, List.map_nil, true_and, and_true, decide_eq_true_eq, Bool.not_eq_true', decide_eq_false_iff_not, Nat.reduceAdd, Nat.zero_add, atI_0, atI_1, atI_2, p_eqT2, p_neT2, p_isT, p_isI, p_isB, reduceIte, reduceCtorEq, Int.cast_ofNat_Int, not_true_eq_false, not_false_eq_true, eq_self, if_false, if_true, Bool.true_eq_false, Bool.false_eq_true, Bool.not_true, Bool.not_false, Bool.and_true, Bool.true_and, Bool.and_false, Bool.false_and, p_inT2, p_neS, p_eqS]
    refine use (sp_five (k := k) h31 h32 h35 ns h6 l S hl (by decide) hn) fun d S1 hd => ?_
    obtain ⟨m, rfl, g1, e1⟩ := hd
    rw [eq] at e1
    exact ⟨m, rfl, g1, e1⟩
  obtain ⟨m, rfl, g1, e1⟩ := h
  have s1 := seqAt_lst e1
  by_cases hab : a = 0 ∧ b = 0
  · obtain ⟨rfl, rfl⟩ := hab
    simp only [sd_cons, sd_nil, sd_zero, List.length_cons, List.length_nil, w_var, w_const, w_glob, w_prim, w_meth, w_cut, w_not, w_and, w_or, w_one, w_ite, w_chain, w_call, w_callk, wa_nil, wa_cons, wt_name, wt_tup, wts_nil, wts_cons, wt_sub, ws_nil, ws_cons, w_expr, w_asg, w_setc, w_par2, w_par3, w_aug, w_ret, w_retN, w_ifs, w_never, seqD_tup, tgsLen, p_add, p_sub, p_mul, p_div, p_mod, p_pow, p_neg, p_eq, p_ne, p_lt, p_le, p_gt, p_ge, p_abs, p_int, p_max, p_min, p_tup, p_lst, p_ixT, p_lenT, truth_bl, onV_some, onB_some, onN_some, onD_bl, onO_some, onL_some, on2_eq, on3_eq, onC_nil, onC_one, onAug_sub, onAug_add, onAug_mul, List.getElem?_cons_zero, List.getElem?_cons_succ, List.set_cons_zero, List.set_cons_succ, wipeD, List.map_cons, List.map_nil, true_and, and_true, decide_eq_true_eq, Bool.not_eq_true', decide_eq_false_iff_not, Nat.reduceAdd, Nat.zero_add, atI_0, atI_1, atI_2, p_eqT2, p_neT2, p_isT, p_isI, p_isB, reduceIte, reduceCtorEq, Int.cast_ofNat_Int, not_true_eq_false, not_false_eq_true, eq_self, if_false, if_true, Bool.true_eq_false, Bool.false_eq_true, Bool.not_true, Bool.not_false, Bool.and_true, Bool.true_and, Bool.and_false, Bool.false_and, p_inT2, p_neS, p_eqS, p_ixE s1, decide_true]
    exact ⟨false, rfl, g1, fun z => by cases z⟩
  have hab' : a ≠ 0 ∨ b ≠ 0 := by omega
  obtain ⟨Z, hZ, z4, z3, zc⟩ := straight_Z a b c d e hab'
  refine cutS (wpF_mono _ _) (fun σ S2 => σ = [some (.ref l), some (.ref m), none, none, none, none, none, none, none, none, none, none] ∧ S2 = S1) ?_ fun σ S2 h => ?_
  · by_cases ha : a = 0
    · have hb : b ≠ 0 := by omega
      simp only [sd_cons, sd_nil, sd_zero, List.length_cons, List.length_nil, w_var, w_const, w_glob, w_prim, w_meth, w_cut, w_not, w_and, w_or, w_one, w_ite, w_chain, w_call, w_callk, wa_nil, wa_cons, wt_name, wt_tup, wts_nil, wts_cons, wt_sub, ws_nil, ws_cons, w_expr, w_asg, w_setc, w_par2, w_par3, w_aug, w_ret, w_retN, w_ifs, w_never, seqD_tup, tgsLen, p_add, p_sub, p_mul, p_div, p_mod, p_pow, p_neg, p_eq, p_ne, p_lt, p_le, p_gt, p_ge, p_abs, p_int, p_max, p_min, p_tup, p_lst, p_ixT, p_lenT, truth_bl, onV_some, onB_some, onN_some, onD_bl, onO_some, onL_some, on2_eq, on3_eq, onC_nil, onC_one, onAug_sub, onAug_add, onAug_mul, List.getElem?_cons_zero, List.getElem?_cons_succ, List.set_cons_zero, List.set_cons_succ, wipeD, List.map_cons, List.map_nil, true_and, and_true, decide_eq_true_eq, Bool.not_eq_true', decide_eq_false_iff_not, Nat.reduceAdd, Nat.zero_add, atI_0, atI_1, atI_2, p_eqT2, p_neT2, p_isT, p_isI, p_isB, reduceIte, reduceCtorEq, Int.cast_ofNat_Int, not_true_eq_false, not_false_eq_true, eq_self, if_false, if_true, Bool.true_eq_false, Bool.false_eq_true, Bool.not_true, Bool.not_false, Bool.and_true, Bool.true_and, Bool.and_false, Bool.false_and, p_inT2, p_neS, p_eqS, p_ixE s1, ha, hb, decide_true, decide_false]
    · simp only [sd_cons, sd_nil, sd_zero, List.length_cons, List.length_nil, w_var, w_const, w_glob, w_prim, w_meth, w_cut, w_not, w_and, w_or, w_one, w_ite, w_chain, w_call, w_callk, wa_nil, wa_cons, wt_name, wt_tup, wts_nil, wts_cons, wt_sub, ws_nil, ws_cons, w_expr, w_asg, w_setc, w_par2, w_par3, w_aug, w_ret, w_retN, w_ifs, w_never, seqD_tup, tgsLen, p_add, p_sub, p_mul, p_div, p_mod, p_pow, p_neg, p_eq, p_ne, p_lt, p_le, p_gt, p_ge, p_abs, p_int, p_max, p_min, p_tup, p_lst, p_ixT, p_lenT, truth_bl, onV_some, onB_some, onN_some, onD_bl, onO_some, onL_some, on2_eq, on3_eq, onC_nil, onC_one, onAug_sub, onAug_add, onAug_mul, List.getElem?_cons_zero, List.getElem?_cons_succ, List.set_cons_zero, List.set_cons_succ, wipeD, List.map_cons, List.map_nil, true_and, and_true, decide_eq_true_eq, Bool.not_eq_true', decide_eq_false_iff_not, Nat.reduceAdd, Nat.zero_add, atI_0, atI_1, atI_2, p_eqT2, p_neT2, p_isT, p_isI, p_isB, reduceIte, reduceCtorEq, Int.cast_ofNat_Int, not_true_eq_false, not_false_eq_true, eq_self, if_false, if_true, Bool.true_eq_false, Bool.false_eq_true, Bool.not_true, Bool.not_false, Bool.and_true, Bool.true_and, Bool.and_false, Bool.false_and, p_inT2, p_neS, p_eqS, p_ixE s1, ha, decide_false]
  obtain ⟨rfl, rfl⟩ := h
  -- the lists that Euclid starts from
  refine cutS (wpF_mono _ _) (fun σ S2 => ∃ m2 H, σ = [some (.ref l), some (.ref m2), none, none, none, none, none, none, none, none, none, none] ∧ Gr S S2 ∧ S2[m2]? = some (.lst (H.map D.int)) ∧ ((a ≠ 0 ∧ H = [a, b, c, d, e]) ∨ (a = 0 ∧ b ≠ 0 ∧ H = [b, c, d, e]))) ?_ fun σ S2 h => ?_
  · by_cases ha : a = 0
    · have hb : b ≠ 0 := by omega
      simp only [sd_cons, sd_nil, sd_zero, List.length_cons, List.length_nil, w_var, w_const, w_glob, w_prim, w_meth, w_cut, w_not, w_and, w_or, w_one, w_ite, w_chain, w_call, w_callk, wa_nil, wa_cons, wt_name, wt_tup, wts_nil, wts_cons, wt_sub, ws_nil, ws_cons, w_expr, w_asg, w_setc, w_par2, w_par3, w_aug, w_ret, w_retN, w_ifs, w_never, seqD_tup, tgsLen, p_add, p_sub, p_mul, p_div, p_mod, p_pow, p_neg, p_eq, p_ne, p_lt, p_le, p_gt, p_ge, p_abs, p_int, p_max, p_min, p_tup, p_lst, p_ixT, p_lenT, truth_bl, onV_some, onB_some, onN_some, onD_bl, onO_some, onL_some, on2_eq, on3_eq, onC_nil, onC_one, onAug_sub, onAug_add, onAug_mul, List.getElem?_cons_zero, List.getElem?_cons_succ, List.set_cons_zero, List.set_cons_succ, wipeD, List.map_cons, List.map_nil, true_and, and_true, decide_eq_true_eq, Bool.not_eq_true', decide_eq_false_iff_not, Nat.reduceAdd, Nat.zero_add, atI_0, atI_1, atI_2, p_eqT2, p_neT2, p_isT, p_isI, p_isB, reduceIte, reduceCtorEq, Int.cast_ofNat_Int, not_true_eq_false, not_false_eq_true, eq_self, if_false, if_true, Bool.true_eq_false, Bool.false_eq_true, Bool.not_true, Bool.not_false, Bool.and_true, Bool.true_and, Bool.and_false, Bool.false_and, p_inT2, p_neS, p_eqS, p_ixE s1, ha, decide_true]
      refine p_drop1 s1 ?_
      exact ⟨_, [b, c, d, e], rfl, g1.trans (Gr.push _ _), by simp, .inr ⟨hb, rfl⟩⟩
    · simp only [sd_cons, sd_nil, sd_zero, List.length_cons, List.length_nil, w_var, w_const, w_glob, w_prim, w_meth, w_cut, w_not, w_and, w_or, w_one, w_ite, w_chain, w_call, w_callk, wa_nil, wa_cons, wt_name, wt_tup, wts_nil, wts_cons, wt_sub, ws_nil, ws_cons, w_expr, w_asg, w_setc, w_par2, w_par3, w_aug, w_ret, w_retN, w_ifs, w_never, seqD_tup, tgsLen, p_add, p_sub, p_mul, p_div, p_mod, p_pow, p_neg, p_eq, p_ne, p_lt, p_le, p_gt, p_ge, p_abs, p_int, p_max, p_min, p_tup, p_lst, p_ixT, p_lenT, truth_bl, onV_some, onB_some, onN_some, onD_bl, onO_some, onL_some, on2_eq, on3_eq, onC_nil, onC_one, onAug_sub, onAug_add, onAug_mul, List.getElem?_cons_zero, List.getElem?_cons_succ, List.set_cons_zero, List.set_cons_succ, wipeD, List.map_cons, List.map_nil, true_and, and_true, decide_eq_true_eq, Bool.not_eq_true', decide_eq_false_iff_not, Nat.reduceAdd, Nat.zero_add, atI_0, atI_1, atI_2, p_eqT2, p_neT2, p_isT, p_isI, p_isB, reduceIte, reduceCtorEq, Int.cast_ofNat_Int, not_true_eq_false, not_false_eq_true, eq_self, if_false, if_true, Bool.true_eq_false, Bool.false_eq_true, Bool.not_true, Bool.not_false, Bool.and_true, Bool.true_and, Bool.and_false, Bool.false_and, p_inT2, p_neS, p_eqS, p_ixE s1, ha, decide_false]
      exact ⟨m, [a, b, c, d, e], rfl, g1, e1, .inl ⟨ha, rfl⟩⟩
  clear e1 s1 g1
  obtain ⟨m2, H, rfl, g2, e2, hH⟩ := h
  have s2 := seqAt_lst e2
  have hb0 : ∀ n ∈ H, Bd 228 n := fun n hn => qb n (by
    rcases hH with ⟨_, rfl⟩ | ⟨_, _, rfl⟩
    · exact hn
    · exact List.mem_cons_of_mem _ hn)
  obtain ⟨Rr, hR⟩ : ∃ R : List Int, (H = [a, b, c, d, e] ∧ a ≠ 0 ∧ R = [4 * a, 3 * b, 2 * c, d]) ∨ (H = [b, c, d, e] ∧ a = 0 ∧ b ≠ 0 ∧ R = [3 * b, 2 * c, d]) := by
    rcases hH with ⟨h1, h2⟩ | ⟨h1, h2, h3⟩
    · exact ⟨_, .inl ⟨h2, h1, rfl⟩⟩
    · exact ⟨_, .inr ⟨h3, h1, h2, rfl⟩⟩
  refine cutS (wpF_mono _ _) (fun σ S3 => σ = [some (.ref l), some (.ref m2), some (.int (H.length - 1 : Nat)), none, none, none, none, none, none, none, none, none] ∧ S3 = S2) ?_ fun σ S3 h => ?_
  · simp only [sd_cons, sd_nil, sd_zero, List.length_cons, List.length_nil, w_var, w_const, w_glob, w_prim, w_meth, w_cut, w_not, w_and, w_or, w_one, w_ite, w_chain, w_call, w_callk, wa_nil, wa_cons, wt_name, wt_tup, wts_nil, wts_cons, wt_sub, ws_nil, ws_cons, w_expr, w_asg, w_setc, w_par2, w_par3, w_aug, w_ret, w_retN, w_ifs, w_never, seqD_tup, tgsLen, p_add, p_sub, p_mul, p_div, p_mod, p_pow, p_neg, p_eq, p_ne, p_lt, p_le, p_gt, p_ge, p_abs, p_int, p_max, p_min, p_tup, p_lst, p_ixT, p_lenT, truth_bl, onV_some, onB_some, onN_some, onD_bl, onO_some, onL_some, on2_eq, on3_eq, onC_nil, onC_one, onAug_sub, onAug_add, onAug_mul, List.getElem?_cons_zero, List.getElem?_cons_succ, List.set_cons_zero, List.set_cons_succ, wipeD, List.map_cons, List.map_nil, true_and, and_true, decide_eq_true_eq, Bool.not_eq_true', decide_eq_false_iff_not, Nat.reduceAdd, Nat.zero_add, atI_0, atI_1, atI_2, p_eqT2, p_neT2, p_isT, p_isI, p_isB, reduceIte, reduceCtorEq, Int.cast_ofNat_Int, not_true_eq_false, not_false_eq_true, eq_self, if_false, if_true, Bool.true_eq_false, Bool.false_eq_true, Bool.not_true, Bool.not_false, Bool.and_true, Bool.true_and, Bool.and_false, Bool.false_and, p_inT2, p_neS, p_eqS, p_lenE s2, List.length_map]
    have : 1 ≤ H.length := by rcases hR with ⟨rfl, _⟩ | ⟨rfl, _⟩ <;> simp
    have e : (H.length : Int) - 1 = ((H.length - 1 : Nat) : Int) := by omega
    rw [e]
  obtain ⟨rfl, rfl⟩ := h
  refine cutS (wpF_mono _ _) (fun σ S4 => ∃ lr, σ = [some (.ref l), some (.ref m2), some (.int (H.length - 1 : Nat)), some (.ref m2), some (.ref lr), none, none, none, none, none, none, none] ∧ Gr S3 S4 ∧ S4[lr]? = some (.lst (Rr.map D.int))) ?_ fun σ S4 h => ?_
  · simp only [w_par2, wa_cons, wa_nil, w_var, List.getElem?_cons_succ, List.getElem?_cons_zero, onV_some]
    refine wp_comp (wpF_mono _ _) ?_
    simp only [w_prim, wa_cons, wa_nil, w_var, w_const, p_neg, List.getElem?_cons_succ, List.getElem?_cons_zero, onV_some]
    refine p_cutBack s2 (by rcases hR with ⟨rfl, _⟩ | ⟨rfl, _⟩ <;> simp) ?_
    have gp := Gr.push S3 (O.lst ((H.map D.int).take ((H.map D.int).length - 1)))
    have ec : (S3 ++ [O.lst ((H.map D.int).take ((H.map D.int).length - 1))])[S3.length]? = some (.lst ((H.map D.int).take ((H.map D.int).length - 1))) := by simp
    generalize S3 ++ [O.lst ((H.map D.int).take ((H.map D.int).length - 1))] = S5 at gp ec
    have key : ∀ (xs : List Int) (R : List Int), (H.map D.int).take ((H.map D.int).length - 1) = xs.map D.int → (∀ n ∈ xs, Bd 228 n) → xs.length ≤ 4 →
        ((((xs.map D.int).zipIdx).map fun p => D.tup [.int p.2, p.1]).filterMap fun d => match d with
          | .tup [.int u, .int v] => some (.int (((H.length - 1 : Nat) - u) * v))
          | _ => none) = R.map D.int → R = Rr →
        ∃ (c : Prop) (w : Src), iterR .enum [.ref S3.length] S5 = some (c, w) ∧ c ∧ w.ok S5 ∧ w.xs.length ≤ sizeLine ∧ ∃ F : D → Option D,
          (∀ (i : Nat) (x : CC.D) S2, w.xs[i]? = some x → Gr S5 S2 → wpTg false (wpF T (k + 3)) (.tup (.cons (.name 5) (.cons (.name 6) .nil))) x (wipeD [some (.ref l), some (.ref m2), some (.int (H.length - 1 : Nat)), none, none, none, none, none, none, none, none, none] [5, 6]) S2 (fun σ2 S3 => wpAs false (wpF T (k + 3)) .nil σ2 S3 (fun bs S4 => onC bs S4 (wpE false (wpF T (k + 3)) (.prim (.bin .Mult) (.cons (.prim (.bin .Sub) (.cons (.var 2) (.cons (.var 5) .nil))) (.cons (.var 6) .nil))) σ2 S4 (fun d S5 => F x = some d ∧ Gr S2 S5) (fun _ _ => False)) (F x = none ∧ Gr S2 S4)) (fun _ _ => False)) (fun _ _ => False)) ∧ ∀ S2, Gr S5 S2 → S2[S5.length]? = some (.lst (w.xs.filterMap F)) → S2[S5.length]? = some (.lst (Rr.map D.int)) := fun xs R e1 hb hlen e2 e3 => by
      rw [e1] at ec
      simp only [iterR, seqAt_lst ec]
      refine ⟨_, _, rfl, trivial, ok_one (seqAt_lst ec), ?_, fun d => match d with
          | .tup [.int u, .int v] => some (.int (((H.length - 1 : Nat) - u) * v))
          | _ => none, fun i x S6 hx hg => ?_, fun S6 hg h6 => ?_⟩
      · have : (4 : Nat) ≤ sizeLine := by decide
        simp only [List.length_map, List.length_zipIdx]
        omega
      · rw [List.getElem?_map, List.getElem?_zipIdx, List.getElem?_map] at hx
        cases hv : xs[i]? with
        | none => rw [hv] at hx; cases hx
        | some v =>
          rw [hv] at hx
          cases hx
          have hi := (List.getElem?_eq_some_iff.mp hv).1
          have bv := hb v (List.mem_of_getElem? hv)
          have hh : H.length ≤ 5 := by rcases hR with ⟨rfl, _⟩ | ⟨rfl, _⟩ <;> simp
          simp only [sd_cons, sd_nil, sd_zero, List.length_cons, List.length_nil, w_var, w_const, w_glob, w_prim, w_meth, w_cut, w_not, w_and, w_or, w_one, w_ite, w_chain, w_call, w_callk, wa_nil, wa_cons, wt_name, wt_tup, wts_nil, wts_cons, wt_sub, ws_nil, ws_cons, w_expr, w_asg, w_setc, w_par2, w_par3, w_aug, w_ret, w_retN, w_ifs, w_never, seqD_tup, tgsLen, p_add, p_sub, p_mul, p_div, p_mod, p_pow, p_neg, p_eq, p_ne, p_lt, p_le, p_gt, p_ge, p_abs, p_int, p_max, p_min, p_tup, p_lst, p_ixT, p_lenT, truth_bl, onV_some, onB_some, onN_some, onD_bl, onO_some, onL_some, on2_eq, on3_eq, onC_nil, onC_one, onAug_sub, onAug_add, onAug_mul, List.getElem?_cons_zero, List.getElem?_cons_succ, List.set_cons_zero, List.set_cons_succ, wipeD, List.map_cons, List.map_nil, true_and, and_true, decide_eq_true_eq, Bool.not_eq_true', decide_eq_false_iff_not, Nat.reduceAdd, Nat.zero_add, atI_0, atI_1, atI_2, p_eqT2, p_neT2, p_isT, p_isI, p_isB, reduceIte, reduceCtorEq, Int.cast_ofNat_Int, not_true_eq_false, not_false_eq_true, eq_self, if_false, if_true, Bool.true_eq_false, Bool.false_eq_true, Bool.not_true, Bool.not_false, Bool.and_true, Bool.true_and, Bool.and_false, Bool.false_and, p_inT2, p_neS, p_eqS]
          exact ⟨(Bd.of (n := 8) (by omega) (by omega)).mulOk bv (by decide) (by decide), Gr.refl _⟩
      · rw [h6, ← e3, ← e2]
    rcases hR with ⟨hh, ha, hr⟩ | ⟨hh, ha, hb, hr⟩
    · obtain ⟨c0, w0, k1, k2, k3, k4, F, k5, k6⟩ := key [a, b, c, d] [4 * a, 3 * b, 2 * c, d] (by rw [hh]; rfl) (fun n hn => hb0 n (by rw [hh]; simp only [List.mem_cons, List.not_mem_nil, or_false] at hn ⊢; omega)) (by simp) (by rw [hh]; simp) hr.symm
      exact ⟨c0, w0, k1, k2, k3, k4, F, k5, fun S6 hg h6 => ⟨_, rfl, gp.trans hg, k6 S6 hg h6⟩⟩
    · obtain ⟨c0, w0, k1, k2, k3, k4, F, k5, k6⟩ := key [b, c, d] [3 * b, 2 * c, d] (by rw [hh]; rfl) (fun n hn => hb0 n (by rw [hh]; simp only [List.mem_cons, List.not_mem_nil, or_false] at hn ⊢; omega)) (by simp) (by rw [hh]; simp) hr.symm
      exact ⟨c0, w0, k1, k2, k3, k4, F, k5, fun S6 hg h6 => ⟨_, rfl, gp.trans hg, k6 S6 hg h6⟩⟩
  obtain ⟨lr, rfl, g4, e4⟩ := h
  have g5 := g2.trans g4
  have bRr : ∀ n ∈ Rr, Bd 230 n := fun n hn => by
    have c3 : Bd 2 (3 : Int) := Bd.of (by decide) (by decide)
    have q : ∀ x ∈ [a, b, c, d, e], Bd 228 x := qb
    have qa := q a (by simp)
    have qb' := q b (by simp)
    have qc := q c (by simp)
    have qd := q d (by simp)
    have t4 : ∀ {x : Int}, Bd 228 x → Bd 230 (4 * x) := fun {x} h => by
      unfold Bd at *
      have : (2 : Nat) ^ 230 = 4 * 2 ^ 228 := by decide
      omega
    have t3 : ∀ {x : Int}, Bd 228 x → Bd 230 (3 * x) := fun {x} h => by
      unfold Bd at *
      have : (2 : Nat) ^ 230 = 4 * 2 ^ 228 := by decide
      omega
    have t2 : ∀ {x : Int}, Bd 228 x → Bd 230 (2 * x) := fun {x} h => by
      unfold Bd at *
      have : (2 : Nat) ^ 230 = 4 * 2 ^ 228 := by decide
      omega
    rcases hR with ⟨_, _, rfl⟩ | ⟨_, _, _, rfl⟩
    · simp only [List.mem_cons, List.not_mem_nil, or_false] at hn
      rcases hn with rfl | rfl | rfl | rfl
      · exact t4 qa
      · exact t3 qb'
      · exact t2 qc
      · exact qd.mono (by decide)
    · simp only [List.mem_cons, List.not_mem_nil, or_false] at hn
      rcases hn with rfl | rfl | rfl
      · exact t3 qb'
      · exact t2 qc
      · exact qd.mono (by decide)
  have hcb : ∀ r, 230 ≤ cb r := fun r => by
    unfold cb
    split
    · decide
    · split
      · decide
      · split <;> decide
  have okR : Ok Z H Rr := by
    have bl : ∀ n ∈ H, Bd (cb Rr.length) n := fun n hn => (hb0 n hn).mono (Nat.le_trans (by decide) (hcb _))
    have br : ∀ n ∈ Rr, Bd (cb Rr.length) n := fun n hn => (bRr n hn).mono (hcb _)
    rcases hR with ⟨rfl, ha, rfl⟩ | ⟨rfl, ha, hb, rfl⟩
    · exact ⟨by simp, by simp, by simp, by simp [mx], bl, br, ⟨_, _, rfl, by omega⟩, (z4 ha).1, (z4 ha).2⟩
    · exact ⟨by simp, by simp, by simp, by simp [mx], bl, br, ⟨_, _, rfl, by omega⟩, (z3 ha).1, (z3 ha).2⟩
  refine cutS (wpF_mono _ _) (fun σ S5 => ∃ ll lr c z7 z8 z9, σ = stS l (.ref m2) (.int (H.length - 1 : Nat)) ll lr z7 z8 z9 ∧ Gr S S5 ∧ S5[lr]? = some (.lst [.int c]) ∧ c ≠ 0 ∧ Z [c]) ?_ fun σ S5 h => ?_
  · exact e_out (k := k + 2) h30 hZ (l := l) (zh := .ref m2) (zs := .int (H.length - 1 : Nat)) (S0 := S) (m := Rr.length) ⟨m2, lr, H, Rr, none, none, none, rfl, g5, g4 _ _ e2, e4, okR, rfl⟩ (fun S1 g => ⟨false, rfl, g, fun z => by cases z⟩) fun ll lr c z7 z8 z9 S1 g h1 h2 h3 => ⟨ll, lr, c, z7, z8, z9, rfl, g, h1, h2, h3⟩
  obtain ⟨ll, lr', c', z7, z8, z9, rfl, g6, e6, hc, hz⟩ := h
  simp only [stS, ws_cons, ws_nil, w_ret, w_prim, wa_cons, wa_nil, w_var, w_const, List.getElem?_cons_succ, List.getElem?_cons_zero, onV_some, p_lst]
  refine ⟨by decide, ?_⟩
  have gp := Gr.push S5 (O.lst [.int 0])
  refine p_neL (ns := [c']) (ms := [0]) (seqAt_lst (gp _ _ e6)) (seqAt_lst (by simp)) ?_
  exact ⟨_, rfl, g6.trans gp, fun _ => by rw [dq]; exact zc c' hc hz⟩
end CC
/-! Relations as objects. -/
namespace CC
open L2 PySem
/-! ### one step at a time: objects -/
def onI (o : Option (Nat × List (Str × D))) (Q : Nat → List (Str × D) → Prop) : Prop := match o with
  | some (c, fs) => Q c fs
  | none => False
def onF (o : Option Nat) (Q : Nat → Prop) : Prop := match o with
  | some x => Q x
  | none => False
def onW (d : D) (S : Store) (Q : Nat → Nat → List (Str × D) → Prop) : Prop := match d with
  | .ref l => (match S[l]? with
    | some (.ins c fs) => Q l c fs
    | _ => False)
  | _ => False
section
variable {g : Bool} {φ : Phi} {σ : Sd} {S : Store} {Q : Post} {E : EPost} {De : EndsD}
theorem w_fld (cs : List Nat) (o : Ex) (x : Str) : wpE g φ (.fld cs o x) σ S Q E = wpE g φ o σ S (fun d S1 => onI (insAt d S1) fun c fs => cs.contains c = true ∧ onO (fs.lookup x) fun v => Q v S1) E := by simp only [wpE]; rfl
theorem w_prop (tb : List (Nat × Nat)) (o : Ex) (x : Str) : wpE g φ (.prop tb o x) σ S Q E = wpE g φ o σ S (fun d S1 => onI (insAt d S1) fun c _ => onF (tb.lookup c) fun f => φ f [d] S1 Q (fun _ _ => False)) E := by simp only [wpE]; rfl
theorem w_make (c f : Nat) (es : Exs) : wpE g φ (.make c f es) σ S Q E = wpAs g φ es σ S (fun ds S1 => φ f (.ref S1.length :: ds) (S1 ++ [.ins c []]) (fun d S2 => d = .non ∧ Q (.ref S1.length) S2) E) E := by simp only [wpE]
theorem w_makek (c f : Nat) (es : Exs) (ks : List Str) (kes : Exs) (perm : List Nat) : wpE g φ (.makek c f es ks kes perm) σ S Q E = wpAs g φ es σ S (fun ds S1 => wpAs g φ kes σ S1 (fun ks S2 => onL (pick (ds ++ ks) perm) fun rs => φ f (.ref S2.length :: rs) (S2 ++ [.ins c []]) (fun d S3 => d = .non ∧ Q (.ref S2.length) S3) E) E) E := by simp only [wpE]; rfl
theorem w_setf (cs : List Nat) (o : Ex) (x : Str) (e : Ex) : wpS g φ (.setf cs o x e) De σ S = wpE g φ e σ S (fun v S1 => wpE g φ o σ S1 (fun d S2 => onW d S2 fun l c fs => cs.contains c = true ∧ fs.length < 1000 ∧ De.nx σ (S2.set l (.ins c (putD x v fs)))) (fun y S2 => De.ex y σ S2)) (fun y S1 => De.ex y σ S1) := by simp only [wpS]; rfl
theorem w_pass : wpS g φ .pass De σ S = De.nx σ S := by simp only [wpS]
theorem onI_of {l c : Nat} {fs : List (Str × D)} {R : Nat → List (Str × D) → Prop} (h : S[l]? = some (.ins c fs)) (q : R c fs) : onI (insAt (.ref l) S) R := by
  unfold onI insAt
  simp only [h]
  exact q
theorem onW_of {l c : Nat} {fs : List (Str × D)} {R : Nat → Nat → List (Str × D) → Prop} (h : S[l]? = some (.ins c fs)) (q : R l c fs) : onW (.ref l) S R := by
  unfold onW
  simp only [h]
  exact q
theorem p_tupleL {l : Nat} {xs : List D} (h : seqAt S l = some xs) (q : Q (.tup xs) S) : primW g (.blt .tuple) [.ref l] S Q := by
  unfold primW primR bltR
  simp only [seqD, h]
  exact ⟨trivial, q⟩
theorem p_listS {x : D} {xs : List D} (h : seqD S x = some xs) (q : Q (.ref S.length) (S ++ [.lst xs])) : primW g (.blt .list) [x] S Q := by
  unfold primW primR bltR
  simp only [h, newL]
  exact ⟨trivial, q⟩
end
theorem sp_quartic {T : Nat → Option Fn} {k : Nat} (h28 : T 28 = some f_quartic_of) (ns : List Int) (h6 : ns.length = 6) (x : D) (S : Store) (hx : seqD S x = some (ns.map D.int)) {N : Nat} (hN : N ≤ 1000) (hn : ∀ n ∈ ns, Bd N n) :
    wpF T (k + 1) 28 [x] S (fun d S1 => ∃ m, d = .ref m ∧ Gr S S1 ∧ S1[m]? = some (.lst ((quartL ns).map D.int))) fun _ _ => False := by
  have big : (4000 : Nat) ≤ 2 ^ 20 := by decide
  have ok : ∀ {i j : Int} {m n : Nat}, Bd m i → Bd n j → m ≤ 4000 → n ≤ 4000 → IntMulOk i j := fun a b c d => a.mulOk b (Nat.le_trans c big) (Nat.le_trans d big)
  match ns, h6 with
  | [a, b, c, d, e, f], _ =>
    have ha := hn a (by simp)
    have hb := hn b (by simp)
    have hc := hn c (by simp)
    have hd := hn d (by simp)
    have he := hn e (by simp)
    have hf := hn f (by simp)
    have t2 : ∀ {i : Int}, Bd N i → Bd (2 + N) (2 * i) := fun h => Bd.c2.mul h
    rw [wF h28]
    refine ⟨rfl, ?_⟩
    simp only [f_quartic_of, sd_cons, sd_nil, sd_zero, List.length_cons, List.length_nil, Nat.reduceAdd, Nat.zero_add]
    refine cutS (wpF_mono _ _) (fun σ S1 => σ = [some x, some (.int a), some (.int b), some (.int c), some (.int d), some (.int e), some (.int f), none, none, none, none] ∧ S1 = S) ?_ fun σ S1 h => ?_
    · simp only [sd_cons, sd_nil, sd_zero, List.length_cons, List.length_nil, w_var, w_const, w_glob, w_prim, w_meth, w_cut, w_not, w_and, w_or, w_one, w_ite, w_chain, w_call, w_callk, wa_nil, wa_cons, wt_name, wt_tup, wts_nil, wts_cons, wt_sub, ws_nil, ws_cons, w_expr, w_asg, w_setc, w_par2, w_par3, w_aug, w_ret, w_retN, w_ifs, w_never, seqD_tup, tgsLen, p_add, p_sub, p_mul, p_div, p_mod, p_pow, p_neg, p_eq, p_ne, p_lt, p_le, p_gt, p_ge, p_abs, p_int, p_max, p_min, p_tup, p_lst, p_ixT, p_lenT, truth_bl, onV_some, onB_some, onN_some, onD_bl, onO_some, onL_some, on2_eq, on3_eq, onC_nil, onC_one, onAug_sub, onAug_add, onAug_mul, List.getElem?_cons_zero, List.getElem?_cons_succ, List.set_cons_zero, List.set_cons_succ, wipeD, List.map_cons, List.map_nil, true_and, and_true, decide_eq_true_eq, Bool.not_eq_true', decide_eq_false_iff_not, Nat.reduceAdd, Nat.zero_add, atI_0, atI_1, atI_2, p_eqT2, p_neT2, p_isT, p_isI, p_isB, reduceIte, reduceCtorEq, Int.cast_ofNat_Int, not_true_eq_false, not_false_eq_true, eq_self, if_false, if_true, Bool.true_eq_false, Bool.false_eq_true, Bool.not_true, Bool.not_false, Bool.and_true, Bool.true_and, Bool.and_false, Bool.false_and, p_inT2, p_neS, p_eqS, hx]
    obtain ⟨rfl, rfl⟩ := h
    refine cutS (wpF_mono _ _) (fun σ S2 => σ = [some x, some (.int a), some (.int b), some (.int c), some (.int d), some (.int e), some (.int f), some (.ref S1.length), none, none, none] ∧ Gr S1 S2 ∧ S2[S1.length]? = some (.lst ([b * b, 2 * b * d, d * d + 2 * b * e, 2 * d * e, e * e].map D.int))) ?_ fun σ S2 h => ?_
    · simp only [sd_cons, sd_nil, sd_zero, List.length_cons, List.length_nil, w_var, w_const, w_glob, w_prim, w_meth, w_cut, w_not, w_and, w_or, w_one, w_ite, w_chain, w_call, w_callk, wa_nil, wa_cons, wt_name, wt_tup, wts_nil, wts_cons, wt_sub, ws_nil, ws_cons, w_expr, w_asg, w_setc, w_par2, w_par3, w_aug, w_ret, w_retN, w_ifs, w_never, seqD_tup, tgsLen, p_add, p_sub, p_mul, p_div, p_mod, p_pow, p_neg, p_eq, p_ne, p_lt, p_le, p_gt, p_ge, p_abs, p_int, p_max, p_min, p_tup, p_lst, p_ixT, p_lenT, truth_bl, onV_some, onB_some, onN_some, onD_bl, onO_some, onL_some, on2_eq, on3_eq, onC_nil, onC_one, onAug_sub, onAug_add, onAug_mul, List.getElem?_cons_zero, List.getElem?_cons_succ, List.set_cons_zero, List.set_cons_succ, wipeD, List.map_cons, List.map_nil, true_and, and_true, decide_eq_true_eq, Bool.not_eq_true', decide_eq_false_iff_not, Nat.reduceAdd, Nat.zero_add, atI_0, atI_1, atI_2, p_eqT2, p_neT2, p_isT, p_isI, p_isB, reduceIte, reduceCtorEq, Int.cast_ofNat_Int, not_true_eq_false, not_false_eq_true, eq_self, if_false, if_true, Bool.true_eq_false, Bool.false_eq_true, Bool.not_true, Bool.not_false, Bool.and_true, Bool.true_and, Bool.and_false, Bool.false_and, p_inT2, p_neS, p_eqS]
      exact ⟨ok hb hb (by omega) (by omega), ok Bd.c2 hb (by omega) (by omega), ok (t2 hb) hd (by omega) (by omega), ok hd hd (by omega) (by omega), ok Bd.c2 hb (by omega) (by omega), ok (t2 hb) he (by omega) (by omega), ok Bd.c2 hd (by omega) (by omega), ok (t2 hd) he (by omega) (by omega), ok he he (by omega) (by omega), by decide, Gr.push _ _, by simp⟩
    obtain ⟨rfl, g1, e1⟩ := h
    refine cutS (wpF_mono _ _) (fun σ S3 => σ = [some x, some (.int a), some (.int b), some (.int c), some (.int d), some (.int e), some (.int f), some (.ref S1.length), some (.ref S2.length), none, none] ∧ Gr S1 S3 ∧ S3[S1.length]? = some (.lst ([b * b, 2 * b * d, d * d + 2 * b * e, 2 * d * e, e * e].map D.int)) ∧ S3[S2.length]? = some (.lst ([a * c, a * e + b * c, a * f + b * e + c * c, b * f + c * e, c * f].map D.int))) ?_ fun σ S3 h => ?_
    · simp only [sd_cons, sd_nil, sd_zero, List.length_cons, List.length_nil, w_var, w_const, w_glob, w_prim, w_meth, w_cut, w_not, w_and, w_or, w_one, w_ite, w_chain, w_call, w_callk, wa_nil, wa_cons, wt_name, wt_tup, wts_nil, wts_cons, wt_sub, ws_nil, ws_cons, w_expr, w_asg, w_setc, w_par2, w_par3, w_aug, w_ret, w_retN, w_ifs, w_never, seqD_tup, tgsLen, p_add, p_sub, p_mul, p_div, p_mod, p_pow, p_neg, p_eq, p_ne, p_lt, p_le, p_gt, p_ge, p_abs, p_int, p_max, p_min, p_tup, p_lst, p_ixT, p_lenT, truth_bl, onV_some, onB_some, onN_some, onD_bl, onO_some, onL_some, on2_eq, on3_eq, onC_nil, onC_one, onAug_sub, onAug_add, onAug_mul, List.getElem?_cons_zero, List.getElem?_cons_succ, List.set_cons_zero, List.set_cons_succ, wipeD, List.map_cons, List.map_nil, true_and, and_true, decide_eq_true_eq, Bool.not_eq_true', decide_eq_false_iff_not, Nat.reduceAdd, Nat.zero_add, atI_0, atI_1, atI_2, p_eqT2, p_neT2, p_isT, p_isI, p_isB, reduceIte, reduceCtorEq, Int.cast_ofNat_Int, not_true_eq_false, not_false_eq_true, eq_self, if_false, if_true, Bool.true_eq_false, Bool.false_eq_true, Bool.not_true, Bool.not_false, Bool.and_true, Bool.true_and, Bool.and_false, Bool.false_and, p_inT2, p_neS, p_eqS]
      exact ⟨ok ha hc (by omega) (by omega), ok ha he (by omega) (by omega), ok hb hc (by omega) (by omega), ok ha hf (by omega) (by omega), ok hb he (by omega) (by omega), ok hc hc (by omega) (by omega), ok hb hf (by omega) (by omega), ok hc he (by omega) (by omega), ok hc hf (by omega) (by omega), by decide, g1.trans (Gr.push _ _), Gr.push _ _ _ _ e1, by simp⟩
    obtain ⟨rfl, g3, e3, e4⟩ := h
    simp only [ws_cons, ws_nil, w_ret]
    refine wp_comp (wpF_mono _ _) ?_
    simp only [sd_cons, sd_nil, sd_zero, List.length_cons, List.length_nil, w_var, w_const, w_glob, w_prim, w_meth, w_cut, w_not, w_and, w_or, w_one, w_ite, w_chain, w_call, w_callk, wa_nil, wa_cons, wt_name, wt_tup, wts_nil, wts_cons, wt_sub, ws_nil, ws_cons, w_expr, w_asg, w_setc, w_par2, w_par3, w_aug, w_ret, w_retN, w_ifs, w_never, seqD_tup, tgsLen, p_add, p_sub, p_mul, p_div, p_mod, p_pow, p_neg, p_eq, p_ne, p_lt, p_le, p_gt, p_ge, p_abs, p_int, p_max, p_min, p_tup, p_lst, p_ixT, p_lenT, truth_bl, onV_some, onB_some, onN_some, onD_bl, onO_some, onL_some, on2_eq, on3_eq, onC_nil, onC_one, onAug_sub, onAug_add, onAug_mul, List.getElem?_cons_zero, List.getElem?_cons_succ, List.set_cons_zero, List.set_cons_succ, wipeD, List.map_cons, List.map_nil, true_and, and_true, decide_eq_true_eq, Bool.not_eq_true', decide_eq_false_iff_not, Nat.reduceAdd, Nat.zero_add, atI_0, atI_1, atI_2, p_eqT2, p_neT2, p_isT, p_isI, p_isB, reduceIte, reduceCtorEq, Int.cast_ofNat_Int, not_true_eq_false, not_false_eq_true, eq_self, if_false, if_true, Bool.true_eq_false, Bool.false_eq_true, Bool.not_true, Bool.not_false, Bool.and_true, Bool.true_and, Bool.and_false, Bool.false_and, p_inT2, p_neS, p_eqS, iterR, seqAt_lst e3, seqAt_lst e4]
    refine ⟨_, _, rfl, trivial, fun z hz => ?_, (by decide : 5 ≤ sizeLine), fun d => match d with
      | .tup [.int u, .int v] => some (.int (u - 4 * v))
      | _ => none, fun i y S4 hd hg4 => ?_, fun S4 hg4 h4 => ?_⟩
    · simp only [List.mem_cons, List.not_mem_nil, or_false] at hz
      rcases hz with rfl | rfl
      · exact seqAt_lst e3
      · exact seqAt_lst e4
    · obtain ⟨u, hu, v, hv, rfl⟩ := zipI_get (L := [b * b, 2 * b * d, d * d + 2 * b * e, 2 * d * e, e * e]) (P := [a * c, a * e + b * c, a * f + b * e + c * c, b * f + c * e, c * f]) hd
      have bv : Bd (2 * N + 2) v := by
        simp only [List.mem_cons, List.not_mem_nil, or_false] at hv
        rcases hv with rfl | rfl | rfl | rfl | rfl
        · exact (ha.mul hc).mono (by omega)
        · exact ((ha.mul he).add (hb.mul hc)).mono (by omega)
        · exact (((ha.mul hf).add (hb.mul he)).add (hc.mul hc)).mono (by omega)
        · exact ((hb.mul hf).add (hc.mul he)).mono (by omega)
        · exact (hc.mul hf).mono (by omega)
      simp only [sd_cons, sd_nil, sd_zero, List.length_cons, List.length_nil, w_var, w_const, w_glob, w_prim, w_meth, w_cut, w_not, w_and, w_or, w_one, w_ite, w_chain, w_call, w_callk, wa_nil, wa_cons, wt_name, wt_tup, wts_nil, wts_cons, wt_sub, ws_nil, ws_cons, w_expr, w_asg, w_setc, w_par2, w_par3, w_aug, w_ret, w_retN, w_ifs, w_never, seqD_tup, tgsLen, p_add, p_sub, p_mul, p_div, p_mod, p_pow, p_neg, p_eq, p_ne, p_lt, p_le, p_gt, p_ge, p_abs, p_int, p_max, p_min, p_tup, p_lst, p_ixT, p_lenT, truth_bl, onV_some, onB_some, onN_some, onD_bl, onO_some, onL_some, on2_eq, on3_eq, onC_nil, onC_one, onAug_sub, onAug_add, onAug_mul, List.getElem?_cons_zero, List.getElem?_cons_succ, List.set_cons_zero, List.set_cons_succ, wipeD, List.map_cons, List.map_nil, true_and, and_true, decide_eq_true_eq, Bool.not_eq_true', decide_eq_false_iff_not, Nat.reduceAdd, Nat.zero_add, atI_0, atI_1, atI_2, p_eqT2, p_neT2, p_isT, p_isI, p_isB, reduceIte, reduceCtorEq, Int.cast_ofNat_Int, not_true_eq_false, not_false_eq_true, eq_self, if_false, if_true, Bool.true_eq_false, Bool.false_eq_true, Bool.not_true, Bool.not_false, Bool.and_true, Bool.true_and, Bool.and_false, Bool.false_and, p_inT2, p_neS, p_eqS]
      exact ⟨ok Bd.c4 bv (by omega) (by omega), Gr.refl _⟩
    · exact ⟨_, rfl, g3.trans hg4, h4⟩
theorem sp_straightP {T : Nat → Option Fn} {k : Nat} (h29 : T 29 = some f_is_straight_0) (a b c d e : Int) (l : Nat) (S : Store) (hl : seqAt S l = some ([a, b, c, d, e].map D.int)) {N : Nat} (hN : N ≤ 500) (hn : ∀ n ∈ [a, b, c, d, e], Bd N n) :
    wpF T (k + 1) 29 [.ref l] S (fun x S1 => x = .bl (!decide (discV a b c d e = 0)) ∧ S1 = S) fun _ _ => False := by
  have big : (4000 : Nat) ≤ 2 ^ 20 := by decide
  have ok : ∀ {i j : Int} {m n : Nat}, Bd m i → Bd n j → m ≤ 4000 → n ≤ 4000 → IntMulOk i j := fun a b c d => a.mulOk b (Nat.le_trans c big) (Nat.le_trans d big)
  have ha := hn a (by simp)
  have hb := hn b (by simp)
  have hc := hn c (by simp)
  have hd := hn d (by simp)
  have he := hn e (by simp)
  have c12 : Bd 4 (12 : Int) := Bd.of (by decide) (by decide)
  have c3 : Bd 2 (3 : Int) := Bd.of (by decide) (by decide)
  have c72 : Bd 7 (72 : Int) := Bd.of (by decide) (by decide)
  have c9 : Bd 4 (9 : Int) := Bd.of (by decide) (by decide)
  have c27 : Bd 5 (27 : Int) := Bd.of (by decide) (by decide)
  rw [wF h29]
  refine ⟨rfl, ?_⟩
  simp only [f_is_straight_0, sd_cons, sd_nil, sd_zero, List.length_cons, List.length_nil, Nat.reduceAdd, Nat.zero_add]
  refine cutS (wpF_mono _ _) (fun σ S1 => σ = [some (.ref l), some (.int a), some (.int b), some (.int c), some (.int d), some (.int e), none, none] ∧ S1 = S) ?_ fun σ S1 h => ?_
  · simp only [sd_cons, sd_nil, sd_zero, List.length_cons, List.length_nil, w_var, w_const, w_glob, w_prim, w_meth, w_cut, w_not, w_and, w_or, w_one, w_ite, w_chain, w_call, w_callk, wa_nil, wa_cons, wt_name, wt_tup, wts_nil, wts_cons, wt_sub, ws_nil, ws_cons, w_expr, w_asg, w_setc, w_par2, w_par3, w_aug, w_ret, w_retN, w_ifs, w_never, seqD_tup, tgsLen, p_add, p_sub, p_mul, p_div, p_mod, p_pow, p_neg, p_eq, p_ne, p_lt, p_le, p_gt, p_ge, p_abs, p_int, p_max, p_min, p_tup, p_lst, p_ixT, p_lenT, truth_bl, onV_some, onB_some, onN_some, onD_bl, onO_some, onL_some, on2_eq, on3_eq, onC_nil, onC_one, onAug_sub, onAug_add, onAug_mul, List.getElem?_cons_zero, List.getElem?_cons_succ, List.set_cons_zero, List.set_cons_succ, wipeD, List.map_cons, List.map_nil, true_and, and_true, decide_eq_true_eq, Bool.not_eq_true', decide_eq_false_iff_not, Nat.reduceAdd, Nat.zero_add, atI_0, atI_1, atI_2, p_eqT2, p_neT2, p_isT, p_isI, p_isB, reduceIte, reduceCtorEq, Int.cast_ofNat_Int, not_true_eq_false, not_false_eq_true, eq_self, if_false, if_true, Bool.true_eq_false, Bool.false_eq_true, Bool.not_true, Bool.not_false, Bool.and_true, Bool.true_and, Bool.and_false, Bool.false_and, p_inT2, p_neS, p_eqS, seqD_ref, hl]
  obtain ⟨rfl, rfl⟩ := h
  have bX : Bd (2 * N + 7) (12 * a * e - 3 * b * d + c * c) := ((((c12.mul ha).mul he).sub ((c3.mul hb).mul hd)).add (hc.mul hc)).mono (by omega)
  refine cutS (wpF_mono _ _) (fun σ S2 => σ = [some (.ref l), some (.int a), some (.int b), some (.int c), some (.int d), some (.int e), some (.int (12 * a * e - 3 * b * d + c * c)), none] ∧ S2 = S1) ?_ fun σ S2 h => ?_
  · simp only [sd_cons, sd_nil, sd_zero, List.length_cons, List.length_nil, w_var, w_const, w_glob, w_prim, w_meth, w_cut, w_not, w_and, w_or, w_one, w_ite, w_chain, w_call, w_callk, wa_nil, wa_cons, wt_name, wt_tup, wts_nil, wts_cons, wt_sub, ws_nil, ws_cons, w_expr, w_asg, w_setc, w_par2, w_par3, w_aug, w_ret, w_retN, w_ifs, w_never, seqD_tup, tgsLen, p_add, p_sub, p_mul, p_div, p_mod, p_pow, p_neg, p_eq, p_ne, p_lt, p_le, p_gt, p_ge, p_abs, p_int, p_max, p_min, p_tup, p_lst, p_ixT, p_lenT, truth_bl, onV_some, onB_some, onN_some, onD_bl, onO_some, onL_some, on2_eq, on3_eq, onC_nil, onC_one, onAug_sub, onAug_add, onAug_mul, List.getElem?_cons_zero, List.getElem?_cons_succ, List.set_cons_zero, List.set_cons_succ, wipeD, List.map_cons, List.map_nil, true_and, and_true, decide_eq_true_eq, Bool.not_eq_true', decide_eq_false_iff_not, Nat.reduceAdd, Nat.zero_add, atI_0, atI_1, atI_2, p_eqT2, p_neT2, p_isT, p_isI, p_isB, reduceIte, reduceCtorEq, Int.cast_ofNat_Int, not_true_eq_false, not_false_eq_true, eq_self, if_false, if_true, Bool.true_eq_false, Bool.false_eq_true, Bool.not_true, Bool.not_false, Bool.and_true, Bool.true_and, Bool.and_false, Bool.false_and, p_inT2, p_neS, p_eqS]
    exact ⟨ok c12 ha (by omega) (by omega), ok (c12.mul ha) he (by omega) (by omega), ok c3 hb (by omega) (by omega), ok (c3.mul hb) hd (by omega) (by omega), ok hc hc (by omega) (by omega)⟩
  obtain ⟨rfl, rfl⟩ := h
  generalize hX : 12 * a * e - 3 * b * d + c * c = X at bX
  have bY : Bd (3 * N + 15) (72 * a * c * e + 9 * b * c * d - 27 * a * d * d - 27 * b * b * e - 2 * c * c * c) := ((((((c72.mul ha).mul hc).mul he).add (((c9.mul hb).mul hc).mul hd)).sub (((c27.mul ha).mul hd).mul hd)).sub (((c27.mul hb).mul hb).mul he)).sub (((Bd.c2.mul hc).mul hc).mul hc) |>.mono (by omega)
  refine cutS (wpF_mono _ _) (fun σ S3 => σ = [some (.ref l), some (.int a), some (.int b), some (.int c), some (.int d), some (.int e), some (.int X), some (.int (72 * a * c * e + 9 * b * c * d - 27 * a * d * d - 27 * b * b * e - 2 * c * c * c))] ∧ S3 = S2) ?_ fun σ S3 h => ?_
  · simp only [sd_cons, sd_nil, sd_zero, List.length_cons, List.length_nil, w_var, w_const, w_glob, w_prim, w_meth, w_cut, w_not, w_and, w_or, w_one, w_ite, w_chain, w_call, w_callk, wa_nil, wa_cons, wt_name, wt_tup, wts_nil, wts_cons, wt_sub, ws_nil, ws_cons, w_expr, w_asg, w_setc, w_par2, w_par3, w_aug, w_ret, w_retN, w_ifs, w_never, seqD_tup, tgsLen, p_add, p_sub, p_mul, p_div, p_mod, p_pow, p_neg, p_eq, p_ne, p_lt, p_le, p_gt, p_ge, p_abs, p_int, p_max, p_min, p_tup, p_lst, p_ixT, p_lenT, truth_bl, onV_some, onB_some, onN_some, onD_bl, onO_some, onL_some, on2_eq, on3_eq, onC_nil, onC_one, onAug_sub, onAug_add, onAug_mul, List.getElem?_cons_zero, List.getElem?_cons_succ, List.set_cons_zero, List.set_cons_succ, wipeD, List.map_cons, List.map_nil, true_and, and_true, decide_eq_true_eq, Bool.not_eq_true', decide_eq_false_iff_not, Nat.reduceAdd, Nat.zero_add, atI_0, atI_1, atI_2, p_eqT2, p_neT2, p_isT, p_isI, p_isB, reduceIte, reduceCtorEq, Int.cast_ofNat_Int, not_true_eq_false, not_false_eq_true, eq_self, if_false, if_true, Bool.true_eq_false, Bool.false_eq_true, Bool.not_true, Bool.not_false, Bool.and_true, Bool.true_and, Bool.and_false, Bool.false_and, p_inT2, p_neS, p_eqS]
    exact ⟨ok c72 ha (by omega) (by omega), ok (c72.mul ha) hc (by omega) (by omega), ok ((c72.mul ha).mul hc) he (by omega) (by omega), ok c9 hb (by omega) (by omega), ok (c9.mul hb) hc (by omega) (by omega), ok ((c9.mul hb).mul hc) hd (by omega) (by omega), ok c27 ha (by omega) (by omega), ok (c27.mul ha) hd (by omega) (by omega), ok ((c27.mul ha).mul hd) hd (by omega) (by omega), ok c27 hb (by omega) (by omega), ok (c27.mul hb) hb (by omega) (by omega), ok ((c27.mul hb).mul hb) he (by omega) (by omega), ok Bd.c2 hc (by omega) (by omega), ok (Bd.c2.mul hc) hc (by omega) (by omega), ok ((Bd.c2.mul hc).mul hc) hc (by omega) (by omega)⟩
  obtain ⟨rfl, rfl⟩ := h
  have dv : discV a b c d e = 4 * X * X * X - (72 * a * c * e + 9 * b * c * d - 27 * a * d * d - 27 * b * b * e - 2 * c * c * c) * (72 * a * c * e + 9 * b * c * d - 27 * a * d * d - 27 * b * b * e - 2 * c * c * c) := by
    rw [← hX]
    rfl
  rw [dv]
  generalize 72 * a * c * e + 9 * b * c * d - 27 * a * d * d - 27 * b * b * e - 2 * c * c * c = Y at bY
  simp only [sd_cons, sd_nil, sd_zero, List.length_cons, List.length_nil, w_var, w_const, w_glob, w_prim, w_meth, w_cut, w_not, w_and, w_or, w_one, w_ite, w_chain, w_call, w_callk, wa_nil, wa_cons, wt_name, wt_tup, wts_nil, wts_cons, wt_sub, ws_nil, ws_cons, w_expr, w_asg, w_setc, w_par2, w_par3, w_aug, w_ret, w_retN, w_ifs, w_never, seqD_tup, tgsLen, p_add, p_sub, p_mul, p_div, p_mod, p_pow, p_neg, p_eq, p_ne, p_lt, p_le, p_gt, p_ge, p_abs, p_int, p_max, p_min, p_tup, p_lst, p_ixT, p_lenT, truth_bl, onV_some, onB_some, onN_some, onD_bl, onO_some, onL_some, on2_eq, on3_eq, onC_nil, onC_one, onAug_sub, onAug_add, onAug_mul, List.getElem?_cons_zero, List.getElem?_cons_succ, List.set_cons_zero, List.set_cons_succ, wipeD, List.map_cons, List.map_nil, true_and, and_true, decide_eq_true_eq, Bool.not_eq_true', decide_eq_false_iff_not, Nat.reduceAdd, Nat.zero_add, atI_0, atI_1, atI_2, p_eqT2, p_neT2, p_isT, p_isI, p_isB, reduceIte, reduceCtorEq, Int.cast_ofNat_Int, not_true_eq_false, not_false_eq_true, eq_self, if_false, if_true, Bool.true_eq_false, Bool.false_eq_true, Bool.not_true, Bool.not_false, Bool.and_true, Bool.true_and, Bool.and_false, Bool.false_and, p_inT2, p_neS, p_eqS]
  refine ⟨ok Bd.c4 bX (by omega) (by omega), ok (Bd.c4.mul bX) bX (by omega) (by omega), ok ((Bd.c4.mul bX).mul bX) bX (by omega) (by omega), ok bY bY (by omega) (by omega), ?_⟩
  congr 2
  rw [decide_eq_decide]
  omega
/-- what a law's table has of relations -/
structure HasRel (T : Nat → Option Fn) : Prop where
  h6 : T 6 = some f_common_divisor
  h27 : T 27 = some f_divided
  h28 : T 28 = some f_quartic_of
  h29 : T 29 = some f_is_straight_0
  h354 : T 354 = some f_Relation_init_0
theorem ne_of_disc {ns : List Int} (h6 : ns.length = 6) (h : discQ ns ≠ 0) : ∃ n ∈ ns, n ≠ 0 := by
  match ns, h6 with
  | [a, b, c, d, e, f], _ =>
    by_cases ha : a = 0
    · by_cases hb : b = 0
      · by_cases hc : c = 0
        · by_cases hd : d = 0
          · by_cases he : e = 0
            · subst ha hb hc hd he
              exact absurd (by simp [discQ, quartL, discV]) h
            · exact ⟨e, by simp, he⟩
          · exact ⟨d, by simp, hd⟩
        · exact ⟨c, by simp, hc⟩
      · exact ⟨b, by simp, hb⟩
    · exact ⟨a, by simp, ha⟩
/-- a made relation -/
def RelI (ns : List Int) : O := .ins 1 [("kept_numbers", .tup ((dvd ns).map D.int))]
theorem sp_init {T : Nat → Option Fn} {k : Nat} (H : HasRel T) (ns : List Int) (h6 : ns.length = 6) (r l : Nat) (S : Store) (hr : S[r]? = some (.ins 1 [])) (hl : seqAt S l = some (ns.map D.int)) (hn : ∀ n ∈ ns, Bd 200 n) (hs : discQ ns ≠ 0) :
    wpF T (k + 3) 354 [.ref r, .ref l] S (fun d S1 => d = .non ∧ GrX r S S1 ∧ S1[r]? = some (RelI ns)) fun _ _ => False := by
  have qb := quartL_bd h6 hn
  obtain ⟨a, b, c, d, e, eq⟩ : ∃ a b c d e, quartL ns = [a, b, c, d, e] := by
    match ns, h6 with
    | [_, _, _, _, _, _], _ => exact ⟨_, _, _, _, _, rfl⟩
  have dq : discV a b c d e ≠ 0 := by
    simp only [discQ, eq] at hs
    exact hs
  rw [wF H.h354]
  simp only [f_Relation_init_0, sd_cons, sd_nil, sd_zero, List.length_cons, List.length_nil, w_var, w_const, w_glob, w_prim, w_meth, w_cut, w_not, w_and, w_or, w_one, w_ite, w_chain, w_call, w_callk, wa_nil, wa_cons, wt_name, wt_tup, wts_nil, wts_cons, wt_sub, ws_nil, ws_cons, w_expr, w_asg, w_setc, w_par2, w_par3, w_aug, w_ret, w_retN, w_ifs, w_never, seqD_tup, tgsLen, p_add, p_sub, p_mul, p_div, p_mod, p_pow, p_neg, p_eq, p_ne, p_lt, p_le, p_gt, p_ge, p_abs, p_int, p_max, p_min, p_tup, p_lst, p_ixT, p_lenT, truth_bl, onV_some, onB_some, onN_some, onD_bl, onO_some, onL_some, on2_eq, on3_eq, onC_nil, onC_one, onAug_sub, onAug_add, onAug_mul, List.getElem?_cons_zero, List.getElem?_cons_succ, List.set_cons_zero, List.set_cons_succ, wipeD, List.map_cons, List.map_nil, true_and, and_true, decide_eq_true_eq, Bool.not_eq_true', decide_eq_false_iff_not, Nat.reduceAdd, Nat.zero_add, atI_0, atI_1, atI_2, p_eqT2, p_neT2, p_isT, p_isI, p_isB, reduceIte, reduceCtorEq, Int.cast_ofNat_Int, not_true_eq_false, not_false_eq_true, eq_self, if_false, if_true, Bool.true_eq_false, Bool.false_eq_true, Bool.not_true, Bool.not_false, Bool.and_true, Bool.true_and, Bool.and_false, Bool.false_and, p_inT2, p_neS, p_eqS, p_lenE hl, List.length_map, h6, w_setf]
  refine use (sp_quartic H.h28 ns h6 (.ref l) S hl (by decide) hn) fun x S1 hd => ?_
  obtain ⟨m, rfl, g1, e1⟩ := hd
  rw [eq] at e1 qb
  refine use (sp_straightP H.h29 a b c d e m S1 (seqAt_lst e1) (N := 408) (by decide) qb) fun x S2 hd => ?_
  obtain ⟨rfl, rfl⟩ := hd
  simp only [sd_cons, sd_nil, sd_zero, List.length_cons, List.length_nil, w_var, w_const, w_glob, w_prim, w_meth, w_cut, w_not, w_and, w_or, w_one, w_ite, w_chain, w_call, w_callk, wa_nil, wa_cons, wt_name, wt_tup, wts_nil, wts_cons, wt_sub, ws_nil, ws_cons, w_expr, w_asg, w_setc, w_par2, w_par3, w_aug, w_ret, w_retN, w_ifs, w_never, seqD_tup, tgsLen, p_add, p_sub, p_mul, p_div, p_mod, p_pow, p_neg, p_eq, p_ne, p_lt, p_le, p_gt, p_ge, p_abs, p_int, p_max, p_min, p_tup, p_lst, p_ixT, p_lenT, truth_bl, onV_some, onB_some, onN_some, onD_bl, onO_some, onL_some, on2_eq, on3_eq, onC_nil, onC_one, onAug_sub, onAug_add, onAug_mul, List.getElem?_cons_zero, List.getElem?_cons_succ, List.set_cons_zero, List.set_cons_succ, wipeD, List.map_cons, List.map_nil, true_and, and_true, decide_eq_true_eq, Bool.not_eq_true', decide_eq_false_iff_not, Nat.reduceAdd, Nat.zero_add, atI_0, atI_1, atI_2, p_eqT2, p_neT2, p_isT, p_isI, p_isB, reduceIte, reduceCtorEq, Int.cast_ofNat_Int, not_true_eq_false, not_false_eq_true, eq_self, if_false, if_true, Bool.true_eq_false, Bool.false_eq_true, Bool.not_true, Bool.not_false, Bool.and_true, Bool.true_and, Bool.and_false, Bool.false_and, p_inT2, p_neS, p_eqS, dq, decide_false]
  refine use (sp_divided H.h6 H.h27 l ns S2 (g1.seq hl) (ne_of_disc h6 hs) (fun n h => (hn n h).mono (by decide)) (by rw [h6]; decide)) fun x S3 hd => ?_
  obtain ⟨q, rfl, g3, hq, e3⟩ := hd
  refine p_tupleL (seqAt_lst e3) ?_
  have r3 := g3 _ _ (g1 _ _ hr)
  refine onW_of r3 ⟨rfl, by simp, ((g1.trans g3).x r).trans (GrX.set _ _ _), ?_⟩
  rw [set_get r3]
  rfl
theorem sp_made {T : Nat → Option Fn} {k : Nat} (H : HasRel T) (h357 : T 357 = some f_law_made_1) (ns : List Int) (h6 : ns.length = 6) (x : D) (S : Store) (hx : seqD S x = some (ns.map D.int)) (hn : ∀ n ∈ ns, Bd 200 n) (hs : discQ ns ≠ 0) :
    wpF T (k + 4) 357 [x] S (fun d S1 => ∃ r, d = .ref r ∧ Gr S S1 ∧ S.length ≤ r ∧ S1[r]? = some (RelI ns)) fun _ _ => False := by
  rw [wF h357]
  simp only [f_law_made_1, sd_cons, sd_nil, sd_zero, List.length_cons, List.length_nil, w_var, w_const, w_glob, w_prim, w_meth, w_cut, w_not, w_and, w_or, w_one, w_ite, w_chain, w_call, w_callk, wa_nil, wa_cons, wt_name, wt_tup, wts_nil, wts_cons, wt_sub, ws_nil, ws_cons, w_expr, w_asg, w_setc, w_par2, w_par3, w_aug, w_ret, w_retN, w_ifs, w_never, seqD_tup, tgsLen, p_add, p_sub, p_mul, p_div, p_mod, p_pow, p_neg, p_eq, p_ne, p_lt, p_le, p_gt, p_ge, p_abs, p_int, p_max, p_min, p_tup, p_lst, p_ixT, p_lenT, truth_bl, onV_some, onB_some, onN_some, onD_bl, onO_some, onL_some, on2_eq, on3_eq, onC_nil, onC_one, onAug_sub, onAug_add, onAug_mul, List.getElem?_cons_zero, List.getElem?_cons_succ, List.set_cons_zero, List.set_cons_succ, wipeD, List.map_cons, List.map_nil, true_and, and_true, decide_eq_true_eq, Bool.not_eq_true', decide_eq_false_iff_not, Nat.reduceAdd, Nat.zero_add, atI_0, atI_1, atI_2, p_eqT2, p_neT2, p_isT, p_isI, p_isB, reduceIte, reduceCtorEq, Int.cast_ofNat_Int, not_true_eq_false, not_false_eq_true, eq_self, if_false, if_true, Bool.true_eq_false, Bool.false_eq_true, Bool.not_true, Bool.not_false, Bool.and_true, Bool.true_and, Bool.and_false, Bool.false_and, p_inT2, p_neS, p_eqS, w_make]
  refine p_listS hx ?_
  have g1 := Gr.push S (O.lst (ns.map D.int))
  have e1 : (S ++ [O.lst (ns.map D.int)])[S.length]? = some (.lst (ns.map D.int)) := by simp
  have l1 : S.length + 1 = (S ++ [O.lst (ns.map D.int)]).length := by simp
  generalize S ++ [O.lst (ns.map D.int)] = S1 at g1 e1 l1
  have g2 := Gr.push S1 (O.ins 1 [])
  have e2 : (S1 ++ [O.ins 1 []])[S1.length]? = some (.ins 1 []) := by simp
  refine use (sp_init H ns h6 S1.length S.length _ e2 (seqAt_lst (g2 _ _ e1)) hn hs) fun d S3 hd => ?_
  obtain ⟨rfl, g3, e3⟩ := hd
  exact ⟨rfl, _, rfl, g1.trans (g3.gr g2 (Nat.le_refl _)), by omega, e3⟩
end CC
/-! Chains, as the law makes them. -/
namespace CC
open L2 PySem
def nextV (ns : List Int) (a b : Int × Int) : Int × Int := match formV ns b.1 b.2 with
  | [h, m, l] => if a.1 ≠ 0 ∧ a.2 ≠ 0 then ptOf (l * a.2) (h * a.1) else if a.1 = 0 then ptOf (0 - m) h else ptOf (0 - l) m
  | _ => (1, 0)
def chP (ns : List Int) (a b : Int × Int) : Nat → (Int × Int) × (Int × Int)
  | 0 => (a, b)
  | n + 1 => ((chP ns a b n).2, nextV ns (chP ns a b n).1 (chP ns a b n).2)
def chV (ns : List Int) (a b : Int × Int) (n : Nat) : Int × Int := (chP ns a b n).1
theorem chV_next (ns : List Int) (a b : Int × Int) (n : Nat) : chV ns a b (n + 2) = nextV ns (chV ns a b n) (chV ns a b (n + 1)) := rfl
def chB (N b : Nat) : Nat → Nat × Nat
  | 0 => (b, b)
  | n + 1 => ((chB N b n).2, N + 2 * (chB N b n).2 + (chB N b n).1 + 3)
def BdP (n : Nat) (a : Int × Int) : Prop := Bd n a.1 ∧ Bd n a.2
def PtP (a : Int × Int) : Prop := Pt a.1 a.2
theorem formV_3 {ns : List Int} (h6 : ns.length = 6) (p q : Int) : ∃ h m l, formV ns p q = [h, m, l] := by
  match ns, h6 with
  | [a, b, c, d, e, f], _ => exact ⟨_, _, _, rfl⟩
theorem next_ok {ns : List Int} (h6 : ns.length = 6) {N x y : Nat} {a b : Int × Int} (hn : ∀ n ∈ ns, Bd N n) (ha : BdP x a) (hb : BdP y b) : PtP (nextV ns a b) ∧ BdP (N + 2 * y + x + 3) (nextV ns a b) := by
  obtain ⟨h, m, l, ef⟩ := formV_3 h6 b.1 b.2
  have fb := formV_bd h6 hn hb.1 hb.2
  rw [ef] at fb
  have f1 := fb h (by simp)
  have f2 := fb m (by simp)
  have f3 := fb l (by simp)
  have z0 : Bd 0 (0 : Int) := Bd.of (by decide) (by decide)
  simp only [nextV, ef]
  split
  · exact ⟨Pt.of _ _, ptOf_bd (by omega) ((f3.mul ha.2).mono (by omega)) ((f1.mul ha.1).mono (by omega))⟩
  · split
    · exact ⟨Pt.of _ _, ptOf_bd (by omega) ((z0.sub f2).mono (by omega)) (f1.mono (by omega))⟩
    · exact ⟨Pt.of _ _, ptOf_bd (by omega) ((z0.sub f3).mono (by omega)) (f2.mono (by omega))⟩
theorem ch_ok {ns : List Int} (h6 : ns.length = 6) {N x : Nat} {a b : Int × Int} (hn : ∀ n ∈ ns, Bd N n) (ha : BdP x a) (hb : BdP x b) (pa : PtP a) (pb : PtP b) : ∀ n, (PtP (chP ns a b n).1 ∧ BdP (chB N x n).1 (chP ns a b n).1) ∧ PtP (chP ns a b n).2 ∧ BdP (chB N x n).2 (chP ns a b n).2
  | 0 => ⟨⟨pa, ha⟩, pb, hb⟩
  | n + 1 => by
    have ih := ch_ok h6 hn ha hb pa pb n
    exact ⟨ih.2, next_ok h6 hn ih.1.2 ih.2.2⟩
theorem sp_next {T : Nat → Option Fn} {k : Nat} (h10 : T 10 = some f_law_low) (h31 : T 31 = some f_law_at) (h32 : T 32 = some f_law_form) (h33 : T 33 = some f_law_next) (ns : List Int) (h6 : ns.length = 6) (a b : Int × Int) (l : Nat) (S : Store) (hl : seqAt S l = some (ns.map D.int)) {N x y : Nat} (hx : 0 < y) (hs : N + 2 * y + x + 3 ≤ 9000) (hn : ∀ n ∈ ns, Bd N n) (ha : BdP x a) (hb : BdP y b) :
    wpF T (k + 3) 33 [.ref l, ptD a, ptD b] S (fun d S1 => d = ptD (nextV ns a b) ∧ Gr S S1) fun _ _ => False := by
  have big : (9000 : Nat) ≤ 2 ^ 20 := by decide
  have ok : ∀ {i j : Int} {m n : Nat}, Bd m i → Bd n j → m ≤ 9000 → n ≤ 9000 → IntMulOk i j := fun a b c d => a.mulOk b (Nat.le_trans c big) (Nat.le_trans d big)
  obtain ⟨h, m, lw, ef⟩ := formV_3 h6 b.1 b.2
  have fb := formV_bd h6 hn hb.1 hb.2
  rw [ef] at fb
  have f1 := fb h (by simp)
  have f2 := fb m (by simp)
  have f3 := fb lw (by simp)
  have z0 : Bd 0 (0 : Int) := Bd.of (by decide) (by decide)
  obtain ⟨o, u⟩ := a
  obtain ⟨p, q⟩ := b
  rw [wF h33]
  refine ⟨rfl, ?_⟩
  simp only [f_law_next, sd_cons, sd_nil, sd_zero, List.length_cons, List.length_nil, Nat.reduceAdd, Nat.zero_add]
  refine cutS (wpF_mono _ _) (fun σ S1 => σ = [some (.ref l), some (ptD (o, u)), some (ptD (p, q)), some (.int h), some (.int m), some (.int lw), none, none] ∧ Gr S S1) ?_ fun σ S1 hh => ?_
  · simp only [sd_cons, sd_nil, sd_zero, List.length_cons, List.length_nil, w_var, w_const, w_glob, w_prim, w_meth, w_cut, w_not, w_and, w_or, w_one, w_ite, w_chain, w_call, w_callk, wa_nil, wa_cons, wt_name, wt_tup, wts_nil, wts_cons, wt_sub, ws_nil, ws_cons, w_expr, w_asg, w_setc, w_par2, w_par3, w_aug, w_ret, w_retN, w_ifs, w_never, seqD_tup, tgsLen, p_add, p_sub, p_mul, p_div, p_mod, p_pow, p_neg, p_eq, p_ne, p_lt, p_le, p_gt, p_ge, p_abs, p_int, p_max, p_min, p_tup, p_lst, p_ixT, p_lenT, truth_bl, onV_some, onB_some, onN_some, onD_bl, onO_some, onL_some, on2_eq, on3_eq, onC_nil, onC_one, onAug_sub, onAug_add, onAug_mul, List.getElem?_cons_zero, List.getElem?_cons_succ, List.set_cons_zero, List.set_cons_succ, wipeD, List.map_cons, List.map_nil, true_and, and_true, decide_eq_true_eq, Bool.not_eq_true', decide_eq_false_iff_not, Nat.reduceAdd, Nat.zero_add, atI_0, atI_1, atI_2, p_eqT2, p_neT2, p_isT, p_isI, p_isB, reduceIte, reduceCtorEq, Int.cast_ofNat_Int, not_true_eq_false, not_false_eq_true, eq_self, if_false, if_true, Bool.true_eq_false, Bool.false_eq_true, Bool.not_true, Bool.not_false, Bool.and_true, Bool.true_and, Bool.and_false, Bool.false_and, p_inT2, p_neS, p_eqS]
    refine use (sp_form (k := k) h31 h32 ns h6 p q l S hl (by omega) (by omega) hx hn hb.1 hb.2) fun d S1 hd => ?_
    obtain ⟨m', rfl, g1, e1⟩ := hd
    rw [ef] at e1
    simp only [seqD_ref, seqAt_lst e1, sd_cons, sd_nil, sd_zero, List.length_cons, List.length_nil, w_var, w_const, w_glob, w_prim, w_meth, w_cut, w_not, w_and, w_or, w_one, w_ite, w_chain, w_call, w_callk, wa_nil, wa_cons, wt_name, wt_tup, wts_nil, wts_cons, wt_sub, ws_nil, ws_cons, w_expr, w_asg, w_setc, w_par2, w_par3, w_aug, w_ret, w_retN, w_ifs, w_never, seqD_tup, tgsLen, p_add, p_sub, p_mul, p_div, p_mod, p_pow, p_neg, p_eq, p_ne, p_lt, p_le, p_gt, p_ge, p_abs, p_int, p_max, p_min, p_tup, p_lst, p_ixT, p_lenT, truth_bl, onV_some, onB_some, onN_some, onD_bl, onO_some, onL_some, on2_eq, on3_eq, onC_nil, onC_one, onAug_sub, onAug_add, onAug_mul, List.getElem?_cons_zero, List.getElem?_cons_succ, List.set_cons_zero, List.set_cons_succ, wipeD, List.map_cons, List.map_nil, true_and, and_true, decide_eq_true_eq, Bool.not_eq_true', decide_eq_false_iff_not, Nat.reduceAdd, Nat.zero_add, atI_0, atI_1, atI_2, p_eqT2, p_neT2, p_isT, p_isI, p_isB, reduceIte, reduceCtorEq, Int.cast_ofNat_Int, not_true_eq_false, not_false_eq_true, eq_self, if_false, if_true, Bool.true_eq_false, Bool.false_eq_true, Bool.not_true, Bool.not_false, Bool.and_true, Bool.true_and, Bool.and_false, Bool.false_and, p_inT2, p_neS, p_eqS]
    exact g1
  obtain ⟨rfl, g1⟩ := hh
  have low : ∀ (i j : Int), Bd (N + 2 * y + x + 3) i → Bd (N + 2 * y + x + 3) j → nextV ns (o, u) (p, q) = ptOf i j → wpF T (k + 2) 10 [.int i, .int j] S1 (fun d S1 => d = ptD (nextV ns (o, u) (p, q)) ∧ Gr S S1) fun _ _ => False := fun i j bi bj e => by
    refine use (sp_law_low h10 i j S1 (bi.mono hs) (bj.mono hs)) fun d S2 hd => ?_
    obtain ⟨rfl, rfl⟩ := hd
    exact ⟨by rw [e], g1⟩
  have ho := ha.1
  have hu := ha.2
  simp only [ptD, sd_cons, sd_nil, sd_zero, List.length_cons, List.length_nil, w_var, w_const, w_glob, w_prim, w_meth, w_cut, w_not, w_and, w_or, w_one, w_ite, w_chain, w_call, w_callk, wa_nil, wa_cons, wt_name, wt_tup, wts_nil, wts_cons, wt_sub, ws_nil, ws_cons, w_expr, w_asg, w_setc, w_par2, w_par3, w_aug, w_ret, w_retN, w_ifs, w_never, seqD_tup, tgsLen, p_add, p_sub, p_mul, p_div, p_mod, p_pow, p_neg, p_eq, p_ne, p_lt, p_le, p_gt, p_ge, p_abs, p_int, p_max, p_min, p_tup, p_lst, p_ixT, p_lenT, truth_bl, onV_some, onB_some, onN_some, onD_bl, onO_some, onL_some, on2_eq, on3_eq, onC_nil, onC_one, onAug_sub, onAug_add, onAug_mul, List.getElem?_cons_zero, List.getElem?_cons_succ, List.set_cons_zero, List.set_cons_succ, wipeD, List.map_cons, List.map_nil, true_and, and_true, decide_eq_true_eq, Bool.not_eq_true', decide_eq_false_iff_not, Nat.reduceAdd, Nat.zero_add, atI_0, atI_1, atI_2, p_eqT2, p_neT2, p_isT, p_isI, p_isB, reduceIte, reduceCtorEq, Int.cast_ofNat_Int, not_true_eq_false, not_false_eq_true, eq_self, if_false, if_true, Bool.true_eq_false, Bool.false_eq_true, Bool.not_true, Bool.not_false, Bool.and_true, Bool.true_and, Bool.and_false, Bool.false_and, p_inT2, p_neS, p_eqS]
  by_cases c1 : o = 0
  · subst c1
    simp only [decide_true]
    exact low _ _ ((z0.sub f2).mono (by omega)) (f1.mono (by omega)) (by simp [nextV, ef])
  · by_cases c2 : u = 0
    · subst c2
      simp only [c1, decide_true, decide_false]
      exact low _ _ ((z0.sub f3).mono (by omega)) (f2.mono (by omega)) (by simp [nextV, ef, c1])
    · simp only [c1, c2, decide_false]
      exact ⟨ok f3 hu (by omega) (by omega), ok f1 ho (by omega) (by omega), low _ _ ((f3.mul hu).mono (by omega)) ((f1.mul ho).mono (by omega)) (by simp [nextV, ef, c1, c2])⟩
section
variable {g : Bool} {S : Store} {Q : Post}
theorem p_cutTo {l : Nat} {xs : List D} {n : Nat} (h : seqAt S l = some xs) (q : Q (.ref S.length) (S ++ [.lst (xs.take n)])) : primW g (.slc false true) [.ref l, .int (n : Nat)] S Q := by
  have e : cutD xs none (some (n : Int)) = xs.take n := by
    unfold cutD
    rw [HT.sIx_none, HT.sIx_nat, List.drop_zero, Nat.sub_zero]
    by_cases hn : n ≤ xs.length
    · rw [Nat.min_eq_left hn]
    · rw [Nat.min_eq_right (by omega), List.take_length, List.take_of_length_le (by omega)]
  unfold primW primR slcR
  simp only [h, newL, e]
  exact ⟨trivial, q⟩
end
def chL (ns : List Int) (a b : Int × Int) (n : Nat) : List (Int × Int) := (List.range n).map (chV ns a b)
theorem chL_succ (ns : List Int) (a b : Int × Int) (n : Nat) : chL ns a b (n + 1) = chL ns a b n ++ [chV ns a b n] := by
  unfold chL
  rw [List.range_succ, List.map_append]
  rfl
theorem chL_get {ns : List Int} {a b : Int × Int} {n i : Nat} (h : i < n) : ((chL ns a b n).map ptD)[i]? = some (ptD (chV ns a b i)) := by
  simp [chL, h]
theorem chB_mono {N x : Nat} : ∀ {m n : Nat}, m ≤ n → (chB N x m).1 ≤ (chB N x n).1 ∧ (chB N x m).2 ≤ (chB N x n).2 := by
  have st : ∀ n, (chB N x n).1 ≤ (chB N x n).2 := fun n => by
    cases n with
    | zero => exact Nat.le_refl _
    | succ n => simp only [chB]; omega
  intro m n h
  induction n with
  | zero => rw [Nat.le_zero.mp h]; exact ⟨Nat.le_refl _, Nat.le_refl _⟩
  | succ n ih =>
    rcases Nat.lt_or_ge m (n + 1) with c | c
    · have := ih (by omega)
      have := st n
      simp only [chB]
      omega
    · have : m = n + 1 := by omega
      subst this
      exact ⟨Nat.le_refl _, Nat.le_refl _⟩
theorem sp_chain {T : Nat → Option Fn} {k : Nat} (h10 : T 10 = some f_law_low) (h31 : T 31 = some f_law_at) (h32 : T 32 = some f_law_form) (h33 : T 33 = some f_law_next) (h34 : T 34 = some f_law_chain) (ns : List Int) (h6 : ns.length = 6) (a b : Int × Int) (l : Nat) (S : Store) (hl : seqAt S l = some (ns.map D.int)) {N x n : Nat} (hx : 0 < x) (h2 : 2 ≤ n) (h100 : n ≤ 100) (hn : ∀ n ∈ ns, Bd N n) (ha : BdP x a) (hb : BdP x b) (pa : PtP a) (pb : PtP b) (hs : (chB N x (n - 2)).2 ≤ 9000) :
    wpF T (k + 4) 34 [.ref l, ptD a, ptD b, .int (n : Nat)] S (fun d S1 => ∃ m, d = .ref m ∧ Gr S S1 ∧ S.length ≤ m ∧ S1[m]? = some (.lst ((chL ns a b n).map ptD))) fun _ _ => False := by
  have hsz : (100 : Nat) < sizeLine := by decide
  rw [wF h34]
  refine ⟨rfl, ?_⟩
  simp only [f_law_chain, sd_cons, sd_nil, sd_zero, List.length_cons, List.length_nil, Nat.reduceAdd, Nat.zero_add]
  refine cutS (wpF_mono _ _) (fun σ S1 => σ = [some (.ref l), some (ptD a), some (ptD b), some (.int (n : Nat)), some (.ref S.length)] ∧ Gr S S1 ∧ S1[S.length]? = some (.lst ((chL ns a b 2).map ptD))) ?_ fun σ S1 hh => ?_
  · simp only [sd_cons, sd_nil, sd_zero, List.length_cons, List.length_nil, w_var, w_const, w_glob, w_prim, w_meth, w_cut, w_not, w_and, w_or, w_one, w_ite, w_chain, w_call, w_callk, wa_nil, wa_cons, wt_name, wt_tup, wts_nil, wts_cons, wt_sub, ws_nil, ws_cons, w_expr, w_asg, w_setc, w_par2, w_par3, w_aug, w_ret, w_retN, w_ifs, w_never, seqD_tup, tgsLen, p_add, p_sub, p_mul, p_div, p_mod, p_pow, p_neg, p_eq, p_ne, p_lt, p_le, p_gt, p_ge, p_abs, p_int, p_max, p_min, p_tup, p_lst, p_ixT, p_lenT, truth_bl, onV_some, onB_some, onN_some, onD_bl, onO_some, onL_some, on2_eq, on3_eq, onC_nil, onC_one, onAug_sub, onAug_add, onAug_mul, List.getElem?_cons_zero, List.getElem?_cons_succ, List.set_cons_zero, List.set_cons_succ, wipeD, List.map_cons, List.map_nil, true_and, and_true, decide_eq_true_eq, Bool.not_eq_true', decide_eq_false_iff_not, Nat.reduceAdd, Nat.zero_add, atI_0, atI_1, atI_2, p_eqT2, p_neT2, p_isT, p_isI, p_isB, reduceIte, reduceCtorEq, Int.cast_ofNat_Int, not_true_eq_false, not_false_eq_true, eq_self, if_false, if_true, Bool.true_eq_false, Bool.false_eq_true, Bool.not_true, Bool.not_false, Bool.and_true, Bool.true_and, Bool.and_false, Bool.false_and, p_inT2, p_neS, p_eqS]
    exact ⟨by decide, Gr.push _ _, by simp [chL, List.range_succ, chV, chP]⟩
  obtain ⟨rfl, g1, e1⟩ := hh
  refine cutS (wpF_mono _ _) (fun σ S2 => σ = [some (.ref l), some (ptD a), some (ptD b), some (.int (n : Nat)), some (.ref S.length)] ∧ Gr S S2 ∧ S2[S.length]? = some (.lst ((chL ns a b n).map ptD))) ?_ fun σ S2 hh => ?_
  · refine wp_while (wpF_mono _ _) (fun m σ S2 => ∃ j, m = n - j ∧ 2 ≤ j ∧ j ≤ n ∧ σ = [some (.ref l), some (ptD a), some (ptD b), some (.int (n : Nat)), some (.ref S.length)] ∧ Gr S S2 ∧ S2[S.length]? = some (.lst ((chL ns a b j).map ptD))) (n - 2) ⟨2, rfl, Nat.le_refl _, h2, rfl, g1, e1⟩ fun m σ S2 hi => ?_
    obtain ⟨j, rfl, j2, jn, rfl, g2, e2⟩ := hi
    have s2 := seqAt_lst e2
    have lj : ((chL ns a b j).map ptD).length = j := by simp [chL]
    simp only [w_prim, wa_cons, wa_nil, w_var, List.getElem?_cons_succ, List.getElem?_cons_zero, onV_some, p_lenE s2, lj, p_lt, truth_bl, onB_some, decide_eq_true_eq, Int.ofNat_lt]
    by_cases c : j < n
    · rw [if_pos c]
      obtain ⟨i, rfl⟩ : ∃ i, j = i + 2 := ⟨j - 2, by omega⟩
      have b2 : atI ((chL ns a b (i + 2)).map ptD) (-2) = some (ptD (chV ns a b i)) := atI_back (i := 2) (by decide) (by omega) (by rw [lj]; exact chL_get (by omega))
      have b1 : atI ((chL ns a b (i + 2)).map ptD) (-1) = some (ptD (chV ns a b (i + 1))) := atI_back (i := 1) (by decide) (by omega) (by rw [lj]; exact chL_get (by omega))
      simp only [sd_cons, sd_nil, sd_zero, List.length_cons, List.length_nil, w_var, w_const, w_glob, w_prim, w_meth, w_cut, w_not, w_and, w_or, w_one, w_ite, w_chain, w_call, w_callk, wa_nil, wa_cons, wt_name, wt_tup, wts_nil, wts_cons, wt_sub, ws_nil, ws_cons, w_expr, w_asg, w_setc, w_par2, w_par3, w_aug, w_ret, w_retN, w_ifs, w_never, seqD_tup, tgsLen, p_add, p_sub, p_mul, p_div, p_mod, p_pow, p_neg, p_eq, p_ne, p_lt, p_le, p_gt, p_ge, p_abs, p_int, p_max, p_min, p_tup, p_lst, p_ixT, p_lenT, truth_bl, onV_some, onB_some, onN_some, onD_bl, onO_some, onL_some, on2_eq, on3_eq, onC_nil, onC_one, onAug_sub, onAug_add, onAug_mul, List.getElem?_cons_zero, List.getElem?_cons_succ, List.set_cons_zero, List.set_cons_succ, wipeD, List.map_cons, List.map_nil, true_and, and_true, decide_eq_true_eq, Bool.not_eq_true', decide_eq_false_iff_not, Nat.reduceAdd, Nat.zero_add, atI_0, atI_1, atI_2, p_eqT2, p_neT2, p_isT, p_isI, p_isB, reduceIte, reduceCtorEq, Int.cast_ofNat_Int, not_true_eq_false, not_false_eq_true, eq_self, if_false, if_true, Bool.true_eq_false, Bool.false_eq_true, Bool.not_true, Bool.not_false, Bool.and_true, Bool.true_and, Bool.and_false, Bool.false_and, p_inT2, p_neS, p_eqS, p_ixE s2, b1, b2]
      have oki := (ch_ok h6 hn ha hb pa pb i)
      have mono := chB_mono (N := N) (x := x) (m := i + 1) (n := n - 2) (by omega)
      have mono2 := chB_mono (N := N) (x := x) (m := 0) (n := i) (by omega)
      have h0 : (chB N x 0).2 = x := rfl
      have hlt : N + 2 * (chB N x i).2 + (chB N x i).1 + 3 ≤ 9000 := by
        have : (chB N x (i + 1)).2 = N + 2 * (chB N x i).2 + (chB N x i).1 + 3 := rfl
        omega
      refine ⟨isL_of e2, ?_⟩
      refine use (sp_next (k := k) h10 h31 h32 h33 ns h6 (chV ns a b i) (chV ns a b (i + 1)) l S2 (g2.seq hl) (by omega) hlt hn oki.1.2 oki.2.2) fun d S3 hd => ?_
      obtain ⟨rfl, g3⟩ := hd
      have e3 := g3 _ _ e2
      refine p_app e3 (by rw [lj]; omega) ?_
      refine ⟨n - (i + 3), by omega, i + 3, rfl, by omega, by omega, (GrX.set _ _ _).gr (g2.trans g3) (Nat.le_refl _), ?_⟩
      rw [set_get e3, chL_succ ns a b (i + 2), List.map_append, chV_next]
      rfl
    · rw [if_neg c]
      have : j = n := by omega
      subst this
      exact ⟨trivial, g2, e2⟩
  obtain ⟨rfl, g2, e2⟩ := hh
  simp only [sd_cons, sd_nil, sd_zero, List.length_cons, List.length_nil, w_var, w_const, w_glob, w_prim, w_meth, w_cut, w_not, w_and, w_or, w_one, w_ite, w_chain, w_call, w_callk, wa_nil, wa_cons, wt_name, wt_tup, wts_nil, wts_cons, wt_sub, ws_nil, ws_cons, w_expr, w_asg, w_setc, w_par2, w_par3, w_aug, w_ret, w_retN, w_ifs, w_never, seqD_tup, tgsLen, p_add, p_sub, p_mul, p_div, p_mod, p_pow, p_neg, p_eq, p_ne, p_lt, p_le, p_gt, p_ge, p_abs, p_int, p_max, p_min, p_tup, p_lst, p_ixT, p_lenT, truth_bl, onV_some, onB_some, onN_some, onD_bl, onO_some, onL_some, on2_eq, on3_eq, onC_nil, onC_one, onAug_sub, onAug_add, onAug_mul, List.getElem?_cons_zero, List.getElem?_cons_succ, List.set_cons_zero, List.set_cons_succ, wipeD, List.map_cons, List.map_nil, true_and, and_true, decide_eq_true_eq, Bool.not_eq_true', decide_eq_false_iff_not, Nat.reduceAdd, Nat.zero_add, atI_0, atI_1, atI_2, p_eqT2, p_neT2, p_isT, p_isI, p_isB, reduceIte, reduceCtorEq, Int.cast_ofNat_Int, not_true_eq_false, not_false_eq_true, eq_self, if_false, if_true, Bool.true_eq_false, Bool.false_eq_true, Bool.not_true, Bool.not_false, Bool.and_true, Bool.true_and, Bool.and_false, Bool.false_and, p_inT2, p_neS, p_eqS]
  refine p_cutTo (seqAt_lst e2) ?_
  refine ⟨_, rfl, g2.trans (Gr.push _ _), g2.len, ?_⟩
  have : ((chL ns a b n).map ptD).take n = (chL ns a b n).map ptD := List.take_of_length_le (by simp [chL])
  rw [this]
  simp
end CC
/-! What the law draws: relations. -/
namespace CC
open L2 PySem
theorem at_ex {L : List Int} {v : Int} (h0 : 0 ≤ v) (h1 : v < L.length) : ∃ n ∈ L, atI (L.map D.int) v = some (.int n) := by
  obtain ⟨j, rfl⟩ : ∃ j : Nat, v = j := ⟨v.toNat, by omega⟩
  have jl : j < L.length := by omega
  exact ⟨L[j], List.getElem_mem jl, atI_nat (by rw [List.getElem?_map, List.getElem?_eq_getElem jl]; rfl)⟩
theorem len_lt' {S : Store} {l : Nat} {o : O} (h : S[l]? = some o) : l < S.length := (List.getElem?_eq_some_iff.mp h).1
theorem Pool.lt {S : Store} {r n : Nat} (h : Pool S r n) : r < S.length := by
  obtain ⟨_, _, _, hr, _⟩ := h
  exact len_lt' hr
def tSt (r : Nat) (u v kd le tw : Int) (p q rr t : Int) (z : Option D) : Sd := [some (.ref r), some (.int u), some (.int v), some (.int kd), some (.int le), some (.int tw), some (.int p), some (.int q), some (.int rr), some (.int t), z]
def TB (r : Nat) (u v kd le tw : Int) (S0 : Store) (σ : Sd) (S : Store) : Prop := ∃ p q rr t z, σ = tSt r u v kd le tw p q rr t z ∧ Bd 31 p ∧ Bd 21 q ∧ Bd 20 rr ∧ Bd 15 t ∧ S = S0
theorem sp_tate {T : Nat → Option Fn} {k : Nat} (h1 : T 1 = some f_law_draw) (h37 : T 37 = some f_law_tate) (r n : Nat) (S : Store) (hp : Pool S r n) (hn : n ≤ 2 ^ 30) :
    wpF T (k + 2) 37 [.ref r] S (fun d S1 => ∃ (m : Nat) (ns : List Int) (kd : Int), d = .tup [.ref m, .int kd] ∧ GrX r S S1 ∧ Pool S1 r (n + 3) ∧ m ≠ r ∧ S1[m]? = some (.lst (ns.map D.int)) ∧ ns.length = 6 ∧ ∀ n ∈ ns, Bd 110 n) fun _ _ => False := by
  have big : (4000 : Nat) ≤ 2 ^ 20 := by decide
  have ok : ∀ {i j : Int} {m n : Nat}, Bd m i → Bd n j → m ≤ 4000 → n ≤ 4000 → IntMulOk i j := fun a b c d => a.mulOk b (Nat.le_trans c big) (Nat.le_trans d big)
  rw [wF h37]
  refine ⟨rfl, ?_⟩
  simp only [f_law_tate, sd_cons, sd_nil, sd_zero, List.length_cons, List.length_nil, Nat.reduceAdd, Nat.zero_add]
  refine cutS (wpF_mono _ _) (fun σ S1 => ∃ u v : Int, σ = [some (.ref r), some (.int u), some (.int v), none, none, none, none, none, none, none, none] ∧ -4 ≤ u ∧ u ≤ 4 ∧ 1 ≤ v ∧ v ≤ 3 ∧ GrX r S S1 ∧ Pool S1 r (n + 2)) ?_ fun σ S1 h => ?_
  · simp only [sd_cons, sd_nil, sd_zero, List.length_cons, List.length_nil, w_var, w_const, w_glob, w_prim, w_meth, w_cut, w_not, w_and, w_or, w_one, w_ite, w_chain, w_call, w_callk, wa_nil, wa_cons, wt_name, wt_tup, wts_nil, wts_cons, wt_sub, ws_nil, ws_cons, w_expr, w_asg, w_setc, w_par2, w_par3, w_aug, w_ret, w_retN, w_ifs, w_never, seqD_tup, tgsLen, p_add, p_sub, p_mul, p_div, p_mod, p_pow, p_neg, p_eq, p_ne, p_lt, p_le, p_gt, p_ge, p_abs, p_int, p_max, p_min, p_tup, p_lst, p_ixT, p_lenT, truth_bl, onV_some, onB_some, onN_some, onD_bl, onO_some, onL_some, on2_eq, on3_eq, onC_nil, onC_one, onAug_sub, onAug_add, onAug_mul, List.getElem?_cons_zero, List.getElem?_cons_succ, List.set_cons_zero, List.set_cons_succ, wipeD, List.map_cons, List.map_nil, true_and, and_true, decide_eq_true_eq, Bool.not_eq_true', decide_eq_false_iff_not, Nat.reduceAdd, Nat.zero_add, atI_0, atI_1, atI_2, p_eqT2, p_neT2, p_isT, p_isI, p_isB, reduceIte, reduceCtorEq, Int.cast_ofNat_Int, not_true_eq_false, not_false_eq_true, eq_self, if_false, if_true, Bool.true_eq_false, Bool.false_eq_true, Bool.not_true, Bool.not_false, Bool.and_true, Bool.true_and, Bool.and_false, Bool.false_and, p_inT2, p_neS, p_eqS]
    refine use (sp_draw h1 r n 9 S hp (by omega) (by decide) (by decide)) fun d S1 hd => ?_
    obtain ⟨v1, rfl, a1, b1, g1, p1⟩ := hd
    simp only [sd_cons, sd_nil, sd_zero, List.length_cons, List.length_nil, w_var, w_const, w_glob, w_prim, w_meth, w_cut, w_not, w_and, w_or, w_one, w_ite, w_chain, w_call, w_callk, wa_nil, wa_cons, wt_name, wt_tup, wts_nil, wts_cons, wt_sub, ws_nil, ws_cons, w_expr, w_asg, w_setc, w_par2, w_par3, w_aug, w_ret, w_retN, w_ifs, w_never, seqD_tup, tgsLen, p_add, p_sub, p_mul, p_div, p_mod, p_pow, p_neg, p_eq, p_ne, p_lt, p_le, p_gt, p_ge, p_abs, p_int, p_max, p_min, p_tup, p_lst, p_ixT, p_lenT, truth_bl, onV_some, onB_some, onN_some, onD_bl, onO_some, onL_some, on2_eq, on3_eq, onC_nil, onC_one, onAug_sub, onAug_add, onAug_mul, List.getElem?_cons_zero, List.getElem?_cons_succ, List.set_cons_zero, List.set_cons_succ, wipeD, List.map_cons, List.map_nil, true_and, and_true, decide_eq_true_eq, Bool.not_eq_true', decide_eq_false_iff_not, Nat.reduceAdd, Nat.zero_add, atI_0, atI_1, atI_2, p_eqT2, p_neT2, p_isT, p_isI, p_isB, reduceIte, reduceCtorEq, Int.cast_ofNat_Int, not_true_eq_false, not_false_eq_true, eq_self, if_false, if_true, Bool.true_eq_false, Bool.false_eq_true, Bool.not_true, Bool.not_false, Bool.and_true, Bool.true_and, Bool.and_false, Bool.false_and, p_inT2, p_neS, p_eqS]
    refine use (sp_draw h1 r _ 3 S1 p1 (by omega) (by decide) (by decide)) fun d S2 hd => ?_
    obtain ⟨v2, rfl, a2, b2, g2, p2⟩ := hd
    simp only [sd_cons, sd_nil, sd_zero, List.length_cons, List.length_nil, w_var, w_const, w_glob, w_prim, w_meth, w_cut, w_not, w_and, w_or, w_one, w_ite, w_chain, w_call, w_callk, wa_nil, wa_cons, wt_name, wt_tup, wts_nil, wts_cons, wt_sub, ws_nil, ws_cons, w_expr, w_asg, w_setc, w_par2, w_par3, w_aug, w_ret, w_retN, w_ifs, w_never, seqD_tup, tgsLen, p_add, p_sub, p_mul, p_div, p_mod, p_pow, p_neg, p_eq, p_ne, p_lt, p_le, p_gt, p_ge, p_abs, p_int, p_max, p_min, p_tup, p_lst, p_ixT, p_lenT, truth_bl, onV_some, onB_some, onN_some, onD_bl, onO_some, onL_some, on2_eq, on3_eq, onC_nil, onC_one, onAug_sub, onAug_add, onAug_mul, List.getElem?_cons_zero, List.getElem?_cons_succ, List.set_cons_zero, List.set_cons_succ, wipeD, List.map_cons, List.map_nil, true_and, and_true, decide_eq_true_eq, Bool.not_eq_true', decide_eq_false_iff_not, Nat.reduceAdd, Nat.zero_add, atI_0, atI_1, atI_2, p_eqT2, p_neT2, p_isT, p_isI, p_isB, reduceIte, reduceCtorEq, Int.cast_ofNat_Int, not_true_eq_false, not_false_eq_true, eq_self, if_false, if_true, Bool.true_eq_false, Bool.false_eq_true, Bool.not_true, Bool.not_false, Bool.and_true, Bool.true_and, Bool.and_false, Bool.false_and, p_inT2, p_neS, p_eqS]
    exact ⟨_, _, rfl, by omega, by omega, by omega, by omega, g1.trans g2, p2⟩
  obtain ⟨u, v, rfl, u1, u2, v1, v2, g1, p1⟩ := h
  have bu : Bd 3 u := Bd.of (by omega) (by omega)
  have bv : Bd 2 v := Bd.of (by omega) (by omega)
  have ble : Bd 3 (u - v) := Bd.of (by omega) (by omega)
  have btw : Bd 4 (2 * u - v) := Bd.of (by omega) (by omega)
  refine cutS (wpF_mono _ _) (fun σ S2 => ∃ kd : Int, σ = [some (.ref r), some (.int u), some (.int v), some (.int kd), some (.int (u - v)), some (.int (2 * u - v)), none, none, none, none, none] ∧ GrX r S S2 ∧ Pool S2 r (n + 3)) ?_ fun σ S2 h => ?_
  · simp only [sd_cons, sd_nil, sd_zero, List.length_cons, List.length_nil, w_var, w_const, w_glob, w_prim, w_meth, w_cut, w_not, w_and, w_or, w_one, w_ite, w_chain, w_call, w_callk, wa_nil, wa_cons, wt_name, wt_tup, wts_nil, wts_cons, wt_sub, ws_nil, ws_cons, w_expr, w_asg, w_setc, w_par2, w_par3, w_aug, w_ret, w_retN, w_ifs, w_never, seqD_tup, tgsLen, p_add, p_sub, p_mul, p_div, p_mod, p_pow, p_neg, p_eq, p_ne, p_lt, p_le, p_gt, p_ge, p_abs, p_int, p_max, p_min, p_tup, p_lst, p_ixT, p_lenT, truth_bl, onV_some, onB_some, onN_some, onD_bl, onO_some, onL_some, on2_eq, on3_eq, onC_nil, onC_one, onAug_sub, onAug_add, onAug_mul, List.getElem?_cons_zero, List.getElem?_cons_succ, List.set_cons_zero, List.set_cons_succ, wipeD, List.map_cons, List.map_nil, true_and, and_true, decide_eq_true_eq, Bool.not_eq_true', decide_eq_false_iff_not, Nat.reduceAdd, Nat.zero_add, atI_0, atI_1, atI_2, p_eqT2, p_neT2, p_isT, p_isI, p_isB, reduceIte, reduceCtorEq, Int.cast_ofNat_Int, not_true_eq_false, not_false_eq_true, eq_self, if_false, if_true, Bool.true_eq_false, Bool.false_eq_true, Bool.not_true, Bool.not_false, Bool.and_true, Bool.true_and, Bool.and_false, Bool.false_and, p_inT2, p_neS, p_eqS]
    refine ⟨by decide, ?_⟩
    have gp := Gr.push S1 (O.lst [.int 7, .int 8, .int 9, .int 10, .int 12, .int 5, .int 6])
    refine use (sp_draw h1 r _ 7 _ (p1.gr gp) (by omega) (by decide) (by decide)) fun d S2 hd => ?_
    obtain ⟨w, rfl, a1, b1, g2, p2⟩ := hd
    have e2 : S2[S1.length]? = some (.lst (([7, 8, 9, 10, 12, 5, 6] : List Int).map D.int)) := g2 _ _ (by have := p1.lt; omega) (by simp)
    obtain ⟨kd, _, hk⟩ := at_ex (L := [7, 8, 9, 10, 12, 5, 6]) a1 b1
    have hk : atI [D.int 7, D.int 8, D.int 9, D.int 10, D.int 12, D.int 5, D.int 6] w = some (.int kd) := hk
    simp only [sd_cons, sd_nil, sd_zero, List.length_cons, List.length_nil, w_var, w_const, w_glob, w_prim, w_meth, w_cut, w_not, w_and, w_or, w_one, w_ite, w_chain, w_call, w_callk, wa_nil, wa_cons, wt_name, wt_tup, wts_nil, wts_cons, wt_sub, ws_nil, ws_cons, w_expr, w_asg, w_setc, w_par2, w_par3, w_aug, w_ret, w_retN, w_ifs, w_never, seqD_tup, tgsLen, p_add, p_sub, p_mul, p_div, p_mod, p_pow, p_neg, p_eq, p_ne, p_lt, p_le, p_gt, p_ge, p_abs, p_int, p_max, p_min, p_tup, p_lst, p_ixT, p_lenT, truth_bl, onV_some, onB_some, onN_some, onD_bl, onO_some, onL_some, on2_eq, on3_eq, onC_nil, onC_one, onAug_sub, onAug_add, onAug_mul, List.getElem?_cons_zero, List.getElem?_cons_succ, List.set_cons_zero, List.set_cons_succ, wipeD, List.map_cons, List.map_nil, true_and, and_true, decide_eq_true_eq, Bool.not_eq_true', decide_eq_false_iff_not, Nat.reduceAdd, Nat.zero_add, atI_0, atI_1, atI_2, p_eqT2, p_neT2, p_isT, p_isI, p_isB, reduceIte, reduceCtorEq, Int.cast_ofNat_Int, not_true_eq_false, not_false_eq_true, eq_self, if_false, if_true, Bool.true_eq_false, Bool.false_eq_true, Bool.not_true, Bool.not_false, Bool.and_true, Bool.true_and, Bool.and_false, Bool.false_and, p_inT2, p_neS, p_eqS, p_ixE (seqAt_lst e2), hk]
    exact ⟨ok Bd.c2 bu (by omega) (by omega), kd, rfl, (g1.trans (gp.x r)).trans g2, p2⟩
  obtain ⟨kd, rfl, g2, p2⟩ := h
  generalize u - v = le at ble
  generalize 2 * u - v = tw at btw
  refine cutS (wpF_mono _ _) (TB r u v kd le tw S2) ?_ fun σ S3 h => ?_
  · simp only [sd_cons, sd_nil, sd_zero, List.length_cons, List.length_nil, w_var, w_const, w_glob, w_prim, w_meth, w_cut, w_not, w_and, w_or, w_one, w_ite, w_chain, w_call, w_callk, wa_nil, wa_cons, wt_name, wt_tup, wts_nil, wts_cons, wt_sub, ws_nil, ws_cons, w_expr, w_asg, w_setc, w_par2, w_par3, w_aug, w_ret, w_retN, w_ifs, w_never, seqD_tup, tgsLen, p_add, p_sub, p_mul, p_div, p_mod, p_pow, p_neg, p_eq, p_ne, p_lt, p_le, p_gt, p_ge, p_abs, p_int, p_max, p_min, p_tup, p_lst, p_ixT, p_lenT, truth_bl, onV_some, onB_some, onN_some, onD_bl, onO_some, onL_some, on2_eq, on3_eq, onC_nil, onC_one, onAug_sub, onAug_add, onAug_mul, List.getElem?_cons_zero, List.getElem?_cons_succ, List.set_cons_zero, List.set_cons_succ, wipeD, List.map_cons, List.map_nil, true_and, and_true, decide_eq_true_eq, Bool.not_eq_true', decide_eq_false_iff_not, Nat.reduceAdd, Nat.zero_add, atI_0, atI_1, atI_2, p_eqT2, p_neT2, p_isT, p_isI, p_isB, reduceIte, reduceCtorEq, Int.cast_ofNat_Int, not_true_eq_false, not_false_eq_true, eq_self, if_false, if_true, Bool.true_eq_false, Bool.false_eq_true, Bool.not_true, Bool.not_false, Bool.and_true, Bool.true_and, Bool.and_false, Bool.false_and, p_inT2, p_neS, p_eqS]
    exact ⟨by decide, _, _, _, _, none, rfl, bu.mono (by decide), bv.mono (by decide), bu.mono (by decide), bv.mono (by decide), rfl⟩
  have vv := bv.mul bv
  have ul := bu.mul ble
  have uul := (bu.mul bu).mul ble
  -- the six kinds
  refine cutS (wpF_mono _ _) (TB r u v kd le tw S2) ?_ fun σ S3 h => ?_
  · obtain ⟨p, q, rr, t, z, rfl, bp, bq, br, bt, rfl⟩ := h
    simp only [tSt, sd_cons, sd_nil, sd_zero, List.length_cons, List.length_nil, w_var, w_const, w_glob, w_prim, w_meth, w_cut, w_not, w_and, w_or, w_one, w_ite, w_chain, w_call, w_callk, wa_nil, wa_cons, wt_name, wt_tup, wts_nil, wts_cons, wt_sub, ws_nil, ws_cons, w_expr, w_asg, w_setc, w_par2, w_par3, w_aug, w_ret, w_retN, w_ifs, w_never, seqD_tup, tgsLen, p_add, p_sub, p_mul, p_div, p_mod, p_pow, p_neg, p_eq, p_ne, p_lt, p_le, p_gt, p_ge, p_abs, p_int, p_max, p_min, p_tup, p_lst, p_ixT, p_lenT, truth_bl, onV_some, onB_some, onN_some, onD_bl, onO_some, onL_some, on2_eq, on3_eq, onC_nil, onC_one, onAug_sub, onAug_add, onAug_mul, List.getElem?_cons_zero, List.getElem?_cons_succ, List.set_cons_zero, List.set_cons_succ, wipeD, List.map_cons, List.map_nil, true_and, and_true, decide_eq_true_eq, Bool.not_eq_true', decide_eq_false_iff_not, Nat.reduceAdd, Nat.zero_add, atI_0, atI_1, atI_2, p_eqT2, p_neT2, p_isT, p_isI, p_isB, reduceIte, reduceCtorEq, Int.cast_ofNat_Int, not_true_eq_false, not_false_eq_true, eq_self, if_false, if_true, Bool.true_eq_false, Bool.false_eq_true, Bool.not_true, Bool.not_false, Bool.and_true, Bool.true_and, Bool.and_false, Bool.false_and, p_inT2, p_neS, p_eqS]
    split
    · exact ⟨ok bu (bv.add bu) (by omega) (by omega), ok bv bv (by omega) (by omega), _, _, _, _, _, rfl, (bu.mul (bv.add bu)).mono (by decide), vv.mono (by decide), br, bt, rfl⟩
    · exact ⟨p, q, rr, t, z, rfl, bp, bq, br, bt, rfl⟩
  refine cutS (wpF_mono _ _) (TB r u v kd le tw S2) ?_ fun σ S3 h => ?_
  · obtain ⟨p, q, rr, t, z, rfl, bp, bq, br, bt, rfl⟩ := h
    simp only [tSt, sd_cons, sd_nil, sd_zero, List.length_cons, List.length_nil, w_var, w_const, w_glob, w_prim, w_meth, w_cut, w_not, w_and, w_or, w_one, w_ite, w_chain, w_call, w_callk, wa_nil, wa_cons, wt_name, wt_tup, wts_nil, wts_cons, wt_sub, ws_nil, ws_cons, w_expr, w_asg, w_setc, w_par2, w_par3, w_aug, w_ret, w_retN, w_ifs, w_never, seqD_tup, tgsLen, p_add, p_sub, p_mul, p_div, p_mod, p_pow, p_neg, p_eq, p_ne, p_lt, p_le, p_gt, p_ge, p_abs, p_int, p_max, p_min, p_tup, p_lst, p_ixT, p_lenT, truth_bl, onV_some, onB_some, onN_some, onD_bl, onO_some, onL_some, on2_eq, on3_eq, onC_nil, onC_one, onAug_sub, onAug_add, onAug_mul, List.getElem?_cons_zero, List.getElem?_cons_succ, List.set_cons_zero, List.set_cons_succ, wipeD, List.map_cons, List.map_nil, true_and, and_true, decide_eq_true_eq, Bool.not_eq_true', decide_eq_false_iff_not, Nat.reduceAdd, Nat.zero_add, atI_0, atI_1, atI_2, p_eqT2, p_neT2, p_isT, p_isI, p_isB, reduceIte, reduceCtorEq, Int.cast_ofNat_Int, not_true_eq_false, not_false_eq_true, eq_self, if_false, if_true, Bool.true_eq_false, Bool.false_eq_true, Bool.not_true, Bool.not_false, Bool.and_true, Bool.true_and, Bool.and_false, Bool.false_and, p_inT2, p_neS, p_eqS]
    split
    · exact ⟨ok bu bu (by omega) (by omega), ok (bu.mul bu) ble (by omega) (by omega), ok bv bv (by omega) (by omega), ok vv bv (by omega) (by omega), ok bu ble (by omega) (by omega), ok bv bv (by omega) (by omega), _, _, _, _, _, rfl, uul.mono (by decide), (vv.mul bv).mono (by decide), ul.mono (by decide), vv.mono (by decide), rfl⟩
    · exact ⟨p, q, rr, t, z, rfl, bp, bq, br, bt, rfl⟩
  refine cutS (wpF_mono _ _) (TB r u v kd le tw S2) ?_ fun σ S3 h => ?_
  · obtain ⟨p, q, rr, t, z, rfl, bp, bq, br, bt, rfl⟩ := h
    simp only [tSt, sd_cons, sd_nil, sd_zero, List.length_cons, List.length_nil, w_var, w_const, w_glob, w_prim, w_meth, w_cut, w_not, w_and, w_or, w_one, w_ite, w_chain, w_call, w_callk, wa_nil, wa_cons, wt_name, wt_tup, wts_nil, wts_cons, wt_sub, ws_nil, ws_cons, w_expr, w_asg, w_setc, w_par2, w_par3, w_aug, w_ret, w_retN, w_ifs, w_never, seqD_tup, tgsLen, p_add, p_sub, p_mul, p_div, p_mod, p_pow, p_neg, p_eq, p_ne, p_lt, p_le, p_gt, p_ge, p_abs, p_int, p_max, p_min, p_tup, p_lst, p_ixT, p_lenT, truth_bl, onV_some, onB_some, onN_some, onD_bl, onO_some, onL_some, on2_eq, on3_eq, onC_nil, onC_one, onAug_sub, onAug_add, onAug_mul, List.getElem?_cons_zero, List.getElem?_cons_succ, List.set_cons_zero, List.set_cons_succ, wipeD, List.map_cons, List.map_nil, true_and, and_true, decide_eq_true_eq, Bool.not_eq_true', decide_eq_false_iff_not, Nat.reduceAdd, Nat.zero_add, atI_0, atI_1, atI_2, p_eqT2, p_neT2, p_isT, p_isI, p_isB, reduceIte, reduceCtorEq, Int.cast_ofNat_Int, not_true_eq_false, not_false_eq_true, eq_self, if_false, if_true, Bool.true_eq_false, Bool.false_eq_true, Bool.not_true, Bool.not_false, Bool.and_true, Bool.true_and, Bool.and_false, Bool.false_and, p_inT2, p_neS, p_eqS]
    split
    · exact ⟨ok btw ble (by omega) (by omega), ok bv bv (by omega) (by omega), ok bu bv (by omega) (by omega), _, _, _, _, _, rfl, (btw.mul ble).mono (by decide), vv.mono (by decide), (btw.mul ble).mono (by decide), (bu.mul bv).mono (by decide), rfl⟩
    · exact ⟨p, q, rr, t, z, rfl, bp, bq, br, bt, rfl⟩
  refine cutS (wpF_mono _ _) (TB r u v kd le tw S2) ?_ fun σ S3 h => ?_
  · obtain ⟨p, q, rr, t, z, rfl, bp, bq, br, bt, rfl⟩ := h
    simp only [tSt, sd_cons, sd_nil, sd_zero, List.length_cons, List.length_nil, w_var, w_const, w_glob, w_prim, w_meth, w_cut, w_not, w_and, w_or, w_one, w_ite, w_chain, w_call, w_callk, wa_nil, wa_cons, wt_name, wt_tup, wts_nil, wts_cons, wt_sub, ws_nil, ws_cons, w_expr, w_asg, w_setc, w_par2, w_par3, w_aug, w_ret, w_retN, w_ifs, w_never, seqD_tup, tgsLen, p_add, p_sub, p_mul, p_div, p_mod, p_pow, p_neg, p_eq, p_ne, p_lt, p_le, p_gt, p_ge, p_abs, p_int, p_max, p_min, p_tup, p_lst, p_ixT, p_lenT, truth_bl, onV_some, onB_some, onN_some, onD_bl, onO_some, onL_some, on2_eq, on3_eq, onC_nil, onC_one, onAug_sub, onAug_add, onAug_mul, List.getElem?_cons_zero, List.getElem?_cons_succ, List.set_cons_zero, List.set_cons_succ, wipeD, List.map_cons, List.map_nil, true_and, and_true, decide_eq_true_eq, Bool.not_eq_true', decide_eq_false_iff_not, Nat.reduceAdd, Nat.zero_add, atI_0, atI_1, atI_2, p_eqT2, p_neT2, p_isT, p_isI, p_isB, reduceIte, reduceCtorEq, Int.cast_ofNat_Int, not_true_eq_false, not_false_eq_true, eq_self, if_false, if_true, Bool.true_eq_false, Bool.false_eq_true, Bool.not_true, Bool.not_false, Bool.and_true, Bool.true_and, Bool.and_false, Bool.false_and, p_inT2, p_neS, p_eqS]
    split
    · have v3 := vv.mul bv
      have s1 := ul.add vv
      exact ⟨ok bu bu (by omega) (by omega), ok (bu.mul bu) ble (by omega) (by omega), ok bv bv (by omega) (by omega), ok vv bv (by omega) (by omega), ok bu ble (by omega) (by omega), ok bv bv (by omega) (by omega), ok uul s1 (by omega) (by omega), ok v3 bv (by omega) (by omega), ok (v3.mul bv) bv (by omega) (by omega), _, _, _, _, _, rfl, (uul.mul s1).mono (by decide), ((v3.mul bv).mul bv).mono (by decide), uul.mono (by decide), v3.mono (by decide), rfl⟩
    · exact ⟨p, q, rr, t, z, rfl, bp, bq, br, bt, rfl⟩
  refine cutS (wpF_mono _ _) (TB r u v kd le tw S2) ?_ fun σ S3 h => ?_
  · obtain ⟨p, q, rr, t, z, rfl, bp, bq, br, bt, rfl⟩ := h
    simp only [tSt, sd_cons, sd_nil, sd_zero, List.length_cons, List.length_nil, w_var, w_const, w_glob, w_prim, w_meth, w_cut, w_not, w_and, w_or, w_one, w_ite, w_chain, w_call, w_callk, wa_nil, wa_cons, wt_name, wt_tup, wts_nil, wts_cons, wt_sub, ws_nil, ws_cons, w_expr, w_asg, w_setc, w_par2, w_par3, w_aug, w_ret, w_retN, w_ifs, w_never, seqD_tup, tgsLen, p_add, p_sub, p_mul, p_div, p_mod, p_pow, p_neg, p_eq, p_ne, p_lt, p_le, p_gt, p_ge, p_abs, p_int, p_max, p_min, p_tup, p_lst, p_ixT, p_lenT, truth_bl, onV_some, onB_some, onN_some, onD_bl, onO_some, onL_some, on2_eq, on3_eq, onC_nil, onC_one, onAug_sub, onAug_add, onAug_mul, List.getElem?_cons_zero, List.getElem?_cons_succ, List.set_cons_zero, List.set_cons_succ, wipeD, List.map_cons, List.map_nil, true_and, and_true, decide_eq_true_eq, Bool.not_eq_true', decide_eq_false_iff_not, Nat.reduceAdd, Nat.zero_add, atI_0, atI_1, atI_2, p_eqT2, p_neT2, p_isT, p_isI, p_isB, reduceIte, reduceCtorEq, Int.cast_ofNat_Int, not_true_eq_false, not_false_eq_true, eq_self, if_false, if_true, Bool.true_eq_false, Bool.false_eq_true, Bool.not_true, Bool.not_false, Bool.and_true, Bool.true_and, Bool.and_false, Bool.false_and, p_inT2, p_neS, p_eqS]
    split
    · have ld := (bu.mul bv).sub (ble.mul ble)
      have r1 := (bu.mul btw).mul ble
      have t1 := bv.mul ld
      exact ⟨ok bu bv (by omega) (by omega), ok ble ble (by omega) (by omega), ok bu btw (by omega) (by omega), ok (bu.mul btw) ble (by omega) (by omega), ok bv ld (by omega) (by omega), ok r1 bu (by omega) (by omega), ok (r1.mul bu) bu (by omega) (by omega), ok t1 ld (by omega) (by omega), _, _, _, _, _, rfl, ((r1.mul bu).mul bu).mono (by decide), (t1.mul ld).mono (by decide), r1.mono (by decide), t1.mono (by decide), rfl⟩
    · exact ⟨p, q, rr, t, z, rfl, bp, bq, br, bt, rfl⟩
  refine cutS (wpF_mono _ _) (TB r u v kd le tw S2) ?_ fun σ S3 h => ?_
  · obtain ⟨p, q, rr, t, z, rfl, bp, bq, br, bt, rfl⟩ := h
    simp only [tSt, sd_cons, sd_nil, sd_zero, List.length_cons, List.length_nil, w_var, w_const, w_glob, w_prim, w_meth, w_cut, w_not, w_and, w_or, w_one, w_ite, w_chain, w_call, w_callk, wa_nil, wa_cons, wt_name, wt_tup, wts_nil, wts_cons, wt_sub, ws_nil, ws_cons, w_expr, w_asg, w_setc, w_par2, w_par3, w_aug, w_ret, w_retN, w_ifs, w_never, seqD_tup, tgsLen, p_add, p_sub, p_mul, p_div, p_mod, p_pow, p_neg, p_eq, p_ne, p_lt, p_le, p_gt, p_ge, p_abs, p_int, p_max, p_min, p_tup, p_lst, p_ixT, p_lenT, truth_bl, onV_some, onB_some, onN_some, onD_bl, onO_some, onL_some, on2_eq, on3_eq, onC_nil, onC_one, onAug_sub, onAug_add, onAug_mul, List.getElem?_cons_zero, List.getElem?_cons_succ, List.set_cons_zero, List.set_cons_succ, wipeD, List.map_cons, List.map_nil, true_and, and_true, decide_eq_true_eq, Bool.not_eq_true', decide_eq_false_iff_not, Nat.reduceAdd, Nat.zero_add, atI_0, atI_1, atI_2, p_eqT2, p_neT2, p_isT, p_isI, p_isB, reduceIte, reduceCtorEq, Int.cast_ofNat_Int, not_true_eq_false, not_false_eq_true, eq_self, if_false, if_true, Bool.true_eq_false, Bool.false_eq_true, Bool.not_true, Bool.not_false, Bool.and_true, Bool.true_and, Bool.and_false, Bool.false_and, p_inT2, p_neS, p_eqS]
    split
    · have c3 : Bd 2 (3 : Int) := Bd.of (by decide) (by decide)
      have z0 : Bd 0 (0 : Int) := Bd.of (by decide) (by decide)
      have s1 := ((c3.mul bu).mul ble).add vv
      have r1 := s1.mul bu
      have r2 := z0.sub (r1.mul btw)
      have t1 := ((bv.mul ble).mul ble).mul ble
      have s2 := ((Bd.c2.mul bu).mul ble).add vv
      have p1 := z0.sub (r2.mul s2)
      have q1 := (t1.mul bv).mul ble
      exact ⟨ok c3 bu (by omega) (by omega), ok (c3.mul bu) ble (by omega) (by omega), ok bv bv (by omega) (by omega), ok s1 bu (by omega) (by omega), ok r1 btw (by omega) (by omega), ok bv ble (by omega) (by omega), ok (bv.mul ble) ble (by omega) (by omega), ok ((bv.mul ble).mul ble) ble (by omega) (by omega), ok Bd.c2 bu (by omega) (by omega), ok (Bd.c2.mul bu) ble (by omega) (by omega), ok bv bv (by omega) (by omega), ok r2 s2 (by omega) (by omega), ok t1 bv (by omega) (by omega), ok (t1.mul bv) ble (by omega) (by omega), _, _, _, _, _, rfl, p1.mono (by decide), q1.mono (by decide), r2.mono (by decide), t1.mono (by decide), rfl⟩
    · exact ⟨p, q, rr, t, z, rfl, bp, bq, br, bt, rfl⟩
  obtain ⟨p, q, rr, t, z, rfl, bp, bq, br, bt, rfl⟩ := h
  simp only [tSt, sd_cons, sd_nil, sd_zero, List.length_cons, List.length_nil, w_var, w_const, w_glob, w_prim, w_meth, w_cut, w_not, w_and, w_or, w_one, w_ite, w_chain, w_call, w_callk, wa_nil, wa_cons, wt_name, wt_tup, wts_nil, wts_cons, wt_sub, ws_nil, ws_cons, w_expr, w_asg, w_setc, w_par2, w_par3, w_aug, w_ret, w_retN, w_ifs, w_never, seqD_tup, tgsLen, p_add, p_sub, p_mul, p_div, p_mod, p_pow, p_neg, p_eq, p_ne, p_lt, p_le, p_gt, p_ge, p_abs, p_int, p_max, p_min, p_tup, p_lst, p_ixT, p_lenT, truth_bl, onV_some, onB_some, onN_some, onD_bl, onO_some, onL_some, on2_eq, on3_eq, onC_nil, onC_one, onAug_sub, onAug_add, onAug_mul, List.getElem?_cons_zero, List.getElem?_cons_succ, List.set_cons_zero, List.set_cons_succ, wipeD, List.map_cons, List.map_nil, true_and, and_true, decide_eq_true_eq, Bool.not_eq_true', decide_eq_false_iff_not, Nat.reduceAdd, Nat.zero_add, atI_0, atI_1, atI_2, p_eqT2, p_neT2, p_isT, p_isI, p_isB, reduceIte, reduceCtorEq, Int.cast_ofNat_Int, not_true_eq_false, not_false_eq_true, eq_self, if_false, if_true, Bool.true_eq_false, Bool.false_eq_true, Bool.not_true, Bool.not_false, Bool.and_true, Bool.true_and, Bool.and_false, Bool.false_and, p_inT2, p_neS, p_eqS]
  have z0 : Bd 0 (0 : Int) := Bd.of (by decide) (by decide)
  have w1 := ((bq.mul bq).mul bq).mul bt
  have w2 := ((bp.mul bq).mul bq).mul (bt.sub br)
  have w3 := z0.sub (((bp.mul bp).mul bq).mul bt)
  have w4 := ((bp.mul bp).mul bp).mul bt
  refine ⟨ok bq bq (by omega) (by omega), ok (bq.mul bq) bq (by omega) (by omega), ok ((bq.mul bq).mul bq) bt (by omega) (by omega), ok bp bq (by omega) (by omega), ok (bp.mul bq) bq (by omega) (by omega), ok ((bp.mul bq).mul bq) (bt.sub br) (by omega) (by omega), ok bp bp (by omega) (by omega), ok (bp.mul bp) bq (by omega) (by omega), ok ((bp.mul bp).mul bq) bt (by omega) (by omega), ok bp bp (by omega) (by omega), ok (bp.mul bp) bp (by omega) (by omega), ok ((bp.mul bp).mul bp) bt (by omega) (by omega), by decide, by decide, ?_⟩
  refine ⟨S3.length, [q * q * q * t, 0, 0, p * q * q * (t - rr), 0 - p * p * q * t, p * p * p * t], kd, rfl, g2.trans ((Gr.push _ _).x r), p2.gr (Gr.push _ _), by have := p2.lt; omega, by simp, rfl, fun n hn => ?_⟩
  simp only [List.mem_cons, List.not_mem_nil, or_false] at hn
  rcases hn with rfl | rfl | rfl | rfl | rfl | rfl
  · exact w1.mono (by decide)
  · exact z0.mono (by decide)
  · exact z0.mono (by decide)
  · exact w2.mono (by decide)
  · exact w3.mono (by decide)
  · exact w4.mono (by decide)
end CC
/-! Comprehensions that draw; the known relations. -/
namespace CC
open L2 PySem
theorem wp_compI {g : Bool} {φ : Phi} (hφ : PhiMono φ) {elt : Ex} {tg : Tg} {k : ItK} {src cond : Exs} {own : List (Str × Nat)} {σ : Sd} {S : Store} {Q : Post} {E : EPost}
    (h : wpAs g φ src σ S (fun ds S1 => ∃ (c : Prop) (w : Src), iterR k ds S1 = some (c, w) ∧ c ∧ ∃ I : Nat → List D → Store → Prop, I 0 [] (S1 ++ [.lst []]) ∧ (∀ i acc S2, I i acc S2 → w.ok S2) ∧
      (∀ (i : Nat) (x : CC.D) acc S2, w.xs[i]? = some x → I i acc S2 → wpTg g φ tg x (wipeD σ (own.map (·.2))) S2 (fun σ2 S3 => wpAs g φ cond σ2 S3 (fun bs S4 => onC bs S4 (wpE g φ elt σ2 S4 (fun d S5 => S5[S1.length]? = some (.lst acc) ∧ acc.length < sizeLine ∧ I (i + 1) (acc ++ [d]) (S5.set S1.length (.lst (acc ++ [d])))) (fun _ _ => False)) (I (i + 1) acc S4)) (fun _ _ => False)) (fun _ _ => False)) ∧ ∀ acc S2, I w.xs.length acc S2 → Q (.ref S1.length) S2) E) :
    wpE g φ (.comp elt tg k src cond own) σ S Q E := by
  simp only [wpE]
  refine wpAs_mono hφ src (fun ds S1 q => ?_) (fun _ _ z => z) h
  obtain ⟨c, w, hw, hc, I, h0, ok, step, done⟩ := q
  rw [hw]
  refine ⟨hc, ?_⟩
  have key := compW_of (w := w) (L := S1.length) (Q := Q) (turn := fun x S2 yes no => wpTg g φ tg x (wipeD σ (own.map (·.2))) S2 (fun σ2 S3 => wpAs g φ cond σ2 S3 (fun bs S4 => match bs with
        | [] => wpE g φ elt σ2 S4 yes (fun _ _ => False)
        | [b] => (match truth b S4 with
          | some true => wpE g φ elt σ2 S4 yes (fun _ _ => False)
          | some false => no S4
          | none => False)
        | _ => False) (fun _ _ => False)) (fun _ _ => False)) (fun x S2 y y' n n' hy hn t => ?_) I (fun i acc S2 _ hi => ok i acc S2 hi) (fun i x acc S2 hx hi => ?_) done w.xs.length 0 [] (S1 ++ [.lst []]) (by omega) h0
  · rw [List.drop_zero] at key
    exact key
  · refine wpTg_mono hφ tg (fun σ2 S3 t => wpAs_mono hφ cond (fun bs S4 t => ?_) (fun _ _ z => z) t) (fun _ _ z => z) t
    split at t
    · exact wpE_mono hφ elt hy (fun _ _ z => z) t
    · split at t
      · exact wpE_mono hφ elt hy (fun _ _ z => z) t
      · exact hn _ t
      · exact t
    · exact t
  · refine wpTg_mono hφ tg (fun σ2 S3 t => wpAs_mono hφ cond (fun bs S4 t => ?_) (fun _ _ z => z) t) (fun _ _ z => z) (step i x acc S2 hx hi)
    exact t
/-- N draws -/
theorem wp_draws {g : Bool} {φ : Phi} (hφ : PhiMono φ) {elt : Ex} {i N b r n : Nat} {x : Str} {σ : Sd} {S : Store} {Q : Post} {E : EPost} (hN : N < 1000) (hp : Pool S r n)
    (he : ∀ (v : D) (S2 : Store) (m : Nat), Pool S2 r m → m ≤ n + N → wpE g φ elt ((wipeD σ [i]).set i (some v)) S2 (fun d S3 => (∃ z : Int, d = .int z ∧ Bd b z) ∧ GrX r S2 S3 ∧ Pool S3 r (m + 1)) fun _ _ => False)
    (hq : ∀ (ns : List Int) (S2 : Store), ns.length = N → (∀ z ∈ ns, Bd b z) → GrX r S S2 → Pool S2 r (n + N) → S2[S.length]? = some (.lst (ns.map D.int)) → Q (.ref S.length) S2) :
    wpE g φ (.comp elt (.name i) .range (.cons (.const (.int (N : Nat))) .nil) .nil [(x, i)]) σ S Q E := by
  have hsz : (1000 : Nat) ≤ sizeLine := by decide
  refine wp_compI hφ ?_
  simp only [wa_cons, wa_nil, w_const, iterR]
  have rl := hp.lt
  refine ⟨_, _, rfl, by omega, fun j acc S2 => j ≤ N ∧ GrX r S S2 ∧ Pool S2 r (n + j) ∧ S2[S.length]? = some (.lst acc) ∧ ∃ ns : List Int, acc = ns.map D.int ∧ ns.length = j ∧ ∀ z ∈ ns, Bd b z, ⟨Nat.zero_le _, (Gr.push _ _).x r, hp.gr (Gr.push _ _), by simp, [], rfl, rfl, fun _ h => nomatch h⟩, fun _ _ _ _ => ok_nil, fun j y acc S2 hy hi => ?_, fun acc S2 hi => ?_⟩
  · obtain ⟨h1, h2, h3, h4, ns, rfl, h5, h6⟩ := hi
    have hj : j < N := by
      have := (List.getElem?_eq_some_iff.mp hy).1
      rw [rangeL_length] at this
      omega
    simp only [wt_name, wa_nil, onC_nil]
    refine wpE_mono hφ elt (fun d S3 q => ?_) (fun _ _ z => z) (he y S2 (n + j) h3 (by omega))
    obtain ⟨⟨z, rfl, bz⟩, g3, p3⟩ := q
    have e3 := g3 _ _ (by omega : S.length ≠ r) h4
    refine ⟨e3, by rw [List.length_map, h5]; omega, by omega, ?_, ?_, set_get e3, ns ++ [z], by simp, by simp [h5], fun w hw => ?_⟩
    · intro l o hl ho
      rw [List.getElem?_set_ne (by have := len_lt' ho; omega)]
      exact g3 _ _ hl (h2 _ _ hl ho)
    · obtain ⟨a, b', c, hr, h⟩ := p3
      exact ⟨a, b', c, by rw [List.getElem?_set_ne (by omega)]; exact hr, h⟩
    · rcases List.mem_append.mp hw with hw | hw
      · exact h6 w hw
      · rw [List.mem_singleton.mp hw]; exact bz
  · obtain ⟨h1, h2, h3, h4, ns, rfl, h5, h6⟩ := hi
    rw [rangeL_length] at h3 h5
    exact hq ns S2 (by omega) h6 h2 (by rw [show ((N : Nat) : Int).toNat = N by omega] at h3; exact h3) h4
/-! ### the known relations -/
structure KnO (ns : List Int) : Prop where
  h6 : ns.length = 6
  bd : ∀ n ∈ ns, Bd 35 n
  dq : discQ ns ≠ 0
def knB (ns : List Int) : Bool := decide (ns.length = 6) && (ns.all fun n => decide (n.natAbs < 2 ^ 35)) && !decide (discQ ns = 0)
theorem knB_ok {ns : List Int} (h : knB ns = true) : KnO ns := by
  unfold knB at h
  simp only [Bool.and_eq_true, decide_eq_true_eq, List.all_eq_true, Bool.not_eq_true', decide_eq_false_iff_not] at h
  exact ⟨h.1.1, h.1.2, h.2⟩
/-- a pair of a relation and a number -/
def KT (L0 : Nat) (d : D) (S : Store) : Prop := ∃ (m : Nat) (ns : List Int) (kd : Int), d = .tup [.ref m, .int kd] ∧ S[m]? = some (.lst (ns.map D.int)) ∧ KnO ns ∧ L0 ≤ m
def K4 (L0 : Nat) (d : D) (S : Store) : Prop := ∃ (m : Nat) (ns : List Int) (kd : Int) (a b : Int × Int), d = .tup [.ref m, ptD a, ptD b, .int kd] ∧ S[m]? = some (.lst (ns.map D.int)) ∧ KnO ns ∧ L0 ≤ m ∧ PtP a ∧ PtP b ∧ BdP 2 a ∧ BdP 2 b
theorem KT.gr {L0 : Nat} {d : D} {S S1 : Store} (h : KT L0 d S) (g : Gr S S1) : KT L0 d S1 := by
  obtain ⟨m, ns, kd, a, b, c⟩ := h
  exact ⟨m, ns, kd, a, g _ _ b, c⟩
theorem K4.gr {L0 : Nat} {d : D} {S S1 : Store} (h : K4 L0 d S) (g : Gr S S1) : K4 L0 d S1 := by
  obtain ⟨m, ns, kd, x, y, a, b, c⟩ := h
  exact ⟨m, ns, kd, x, y, a, g _ _ b, c⟩
theorem p_max1 {g : Bool} {S : Store} {Q : Post} {l : Nat} {ns : List Int} (h : seqAt S l = some (ns.map D.int)) (hne : ns ≠ []) (q : ∀ m ∈ ns, (∀ y ∈ ns, y ≤ m) → Q (.int m) S) : primW g (.blt .max1) [.ref l] S Q := by
  cases ns with
  | nil => exact absurd rfl hne
  | cons i r =>
    unfold primW primR bltR
    simp only [h, ints_of]
    refine ⟨trivial, ?_⟩
    obtain ⟨m, hm, hle⟩ : ∃ m ∈ i :: r, ∀ y ∈ i :: r, y ≤ m := by
      have : ∀ (l : List Int), l ≠ [] → ∃ m ∈ l, ∀ y ∈ l, y ≤ m := fun l => by
        induction l with
        | nil => exact fun h => absurd rfl h
        | cons a l ih =>
          intro _
          cases l with
          | nil => exact ⟨a, by simp, fun y hy => by simp at hy; omega⟩
          | cons b l =>
            obtain ⟨m, h1, h2⟩ := ih (by simp)
            by_cases c : a ≤ m
            · exact ⟨m, List.mem_cons_of_mem _ h1, fun y hy => by
                rcases List.mem_cons.mp hy with rfl | hy
                · exact c
                · exact h2 y hy⟩
            · exact ⟨a, List.mem_cons_self, fun y hy => by
                rcases List.mem_cons.mp hy with rfl | hy
                · exact Int.le_refl _
                · have := h2 y hy
                  omega⟩
      exact this _ (by simp)
    rw [← maxOf_is (by simp) hm hle]
    exact q m hm hle
theorem get_int' {ns : List Int} {i : Nat} {d : D} (h : (ns.map D.int)[i]? = some d) : ∃ n ∈ ns, d = .int n := by
  obtain ⟨n, h1, h2⟩ := get_ints h
  exact ⟨n, List.mem_of_getElem? h1, h2⟩
theorem GrX.len {r : Nat} {S S1 : Store} (h : GrX r S S1) (hr : r < S1.length) : S.length ≤ S1.length := by
  rcases Nat.eq_zero_or_pos S.length with z | z
  · omega
  · by_cases e : S.length - 1 = r
    · omega
    · have := len_lt' (h _ _ e (List.getElem?_eq_getElem (by omega : S.length - 1 < S.length)))
      omega
theorem discV_smul (s a b c d e : Int) : discV (s * a) (s * b) (s * c) (s * d) (s * e) = s * s * s * (s * s * s) * discV a b c d e := by
  have hX : 12 * (s * a) * (s * e) - 3 * (s * b) * (s * d) + s * c * (s * c) = s * s * (12 * a * e - 3 * b * d + c * c) := by grind
  have hY : 72 * (s * a) * (s * c) * (s * e) + 9 * (s * b) * (s * c) * (s * d) - 27 * (s * a) * (s * d) * (s * d) - 27 * (s * b) * (s * b) * (s * e) - 2 * (s * c) * (s * c) * (s * c) = s * s * s * (72 * a * c * e + 9 * b * c * d - 27 * a * d * d - 27 * b * b * e - 2 * c * c * c) := by grind
  unfold discV
  rw [hX, hY]
  generalize 12 * a * e - 3 * b * d + c * c = X
  generalize 72 * a * c * e + 9 * b * c * d - 27 * a * d * d - 27 * b * b * e - 2 * c * c * c = Y
  grind
theorem quartL_smul {ns : List Int} (h6 : ns.length = 6) (g : Int) : quartL (ns.map (g * ·)) = (quartL ns).map (g * g * ·) := by
  match ns, h6 with
  | [a, b, c, d, e, f], _ =>
    simp only [quartL, List.map_cons, List.map_nil, List.cons.injEq, and_true]
    refine ⟨?_, ?_, ?_, ?_, ?_⟩ <;> grind
theorem discQ_dvd {ns : List Int} (h6 : ns.length = 6) (h : discQ ns ≠ 0) : discQ (dvd ns) ≠ 0 := by
  obtain ⟨g, hg, e⟩ := dvd_back (ne_of_disc h6 h)
  have l6 : (dvd ns).length = 6 := by simp [dvd, h6]
  have q := quartL_smul l6 g
  rw [← e] at q
  intro z
  apply h
  unfold discQ at z ⊢
  rw [q]
  obtain ⟨a, b, c, d, f, eq⟩ : ∃ a b c d f, quartL (dvd ns) = [a, b, c, d, f] := by
    match dvd ns, l6 with
    | [_, _, _, _, _, _], _ => exact ⟨_, _, _, _, _, rfl⟩
  rw [eq] at z ⊢
  simp only [List.map_cons, List.map_nil] at z ⊢
  rw [discV_smul, z, Int.mul_zero]
/-- what the law's table has of relations -/
structure HasLaw (T : Nat → Option Fn) : Prop where
  h0 : T 0 = some f_law_pool
  h1 : T 1 = some f_law_draw
  h10 : T 10 = some f_law_low
  h30 : T 30 = some f_law_plain
  h31 : T 31 = some f_law_at
  h32 : T 32 = some f_law_form
  h33 : T 33 = some f_law_next
  h34 : T 34 = some f_law_chain
  h35 : T 35 = some f_law_five
  h36 : T 36 = some f_law_is_straight
  h37 : T 37 = some f_law_tate
  h38 : T 38 = some f_law_known
  h39 : T 39 = some f_law_start
  h40 : T 40 = some f_law_great
theorem gA0 (S t : Store) : (S ++ t)[S.length]? = t[0]? := by rw [List.getElem?_append_right (by omega)]; congr 1; omega
theorem gA1 (S t : Store) : (S ++ t)[S.length + 1]? = t[1]? := by rw [List.getElem?_append_right (by omega)]; congr 1; omega
theorem gA2 (S t : Store) : (S ++ t)[S.length + 1 + 1]? = t[2]? := by rw [List.getElem?_append_right (by omega)]; congr 1; omega
theorem gA3 (S t : Store) : (S ++ t)[S.length + 1 + 1 + 1]? = t[3]? := by rw [List.getElem?_append_right (by omega)]; congr 1; omega
theorem gA4 (S t : Store) : (S ++ t)[S.length + 1 + 1 + 1 + 1]? = t[4]? := by rw [List.getElem?_append_right (by omega)]; congr 1; omega
theorem fm_len {α β : Type} {F : α → Option β} : ∀ {l : List α}, (∀ x ∈ l, ∃ y, F x = some y) → (l.filterMap F).length = l.length
  | [], _ => rfl
  | a :: l, h => by
    obtain ⟨y, hy⟩ := h a List.mem_cons_self
    rw [List.filterMap_cons, hy]
    simp only [List.length_cons]
    rw [fm_len fun x hx => h x (List.mem_cons_of_mem _ hx)]
theorem gP (S : Store) (o : O) : (S ++ [o])[S.length]? = some o := by simp
theorem Gr.app (S t : Store) : Gr S (S ++ t) := fun l o e => by rw [List.getElem?_append_left (List.getElem?_eq_some_iff.mp e).1]; exact e
def knS (r : Nat) (z1 z2 z4 : Option D) : Sd := [some (.ref r), z1, z2, none, z4, none]
theorem sp_known {T : Nat → Option Fn} {k : Nat} (H : HasLaw T) (r n : Nat) (S : Store) (hp : Pool S r n) (hn : n ≤ 2 ^ 30) :
    wpF T (k + 5) 38 [.ref r] S (fun d S1 => K4 S.length d S1 ∧ GrX r S S1 ∧ Pool S1 r (n + 5)) fun _ _ => False := by
  rw [wF H.h38]
  refine ⟨rfl, ?_⟩
  simp only [f_law_known, sd_cons, sd_nil, sd_zero, List.length_cons, List.length_nil, Nat.reduceAdd, Nat.zero_add]
  refine cutS (wpF_mono _ _) (fun σ S1 => ∃ (m : Nat) (ns : List Int) (kd : Int), σ = knS r (some (.ref m)) (some (.int kd)) none ∧ GrX r S S1 ∧ Pool S1 r (n + 3) ∧ m ≠ r ∧ S1[m]? = some (.lst (ns.map D.int)) ∧ ns.length = 6 ∧ ∀ n ∈ ns, Bd 110 n) ?_ fun σ S1 h => ?_
  · simp only [sd_cons, sd_nil, sd_zero, List.length_cons, List.length_nil, w_var, w_const, w_glob, w_prim, w_meth, w_cut, w_not, w_and, w_or, w_one, w_ite, w_chain, w_call, w_callk, wa_nil, wa_cons, wt_name, wt_tup, wts_nil, wts_cons, wt_sub, ws_nil, ws_cons, w_expr, w_asg, w_setc, w_par2, w_par3, w_aug, w_ret, w_retN, w_ifs, w_never, seqD_tup, tgsLen, p_add, p_sub, p_mul, p_div, p_mod, p_pow, p_neg, p_eq, p_ne, p_lt, p_le, p_gt, p_ge, p_abs, p_int, p_max, p_min, p_tup, p_lst, p_ixT, p_lenT, truth_bl, onV_some, onB_some, onN_some, onD_bl, onO_some, onL_some, on2_eq, on3_eq, onC_nil, onC_one, onAug_sub, onAug_add, onAug_mul, List.getElem?_cons_zero, List.getElem?_cons_succ, List.set_cons_zero, List.set_cons_succ, wipeD, List.map_cons, List.map_nil, true_and, and_true, decide_eq_true_eq, Bool.not_eq_true', decide_eq_false_iff_not, Nat.reduceAdd, Nat.zero_add, atI_0, atI_1, atI_2, p_eqT2, p_neT2, p_isT, p_isI, p_isB, reduceIte, reduceCtorEq, Int.cast_ofNat_Int, not_true_eq_false, not_false_eq_true, eq_self, if_false, if_true, Bool.true_eq_false, Bool.false_eq_true, Bool.not_true, Bool.not_false, Bool.and_true, Bool.true_and, Bool.and_false, Bool.false_and, p_inT2, p_neS, p_eqS]
    refine use (sp_tate (k := k + 2) H.h1 H.h37 r n S hp hn) fun d S1 hd => ?_
    obtain ⟨m, ns, kd, rfl, g1, p1, h1, h2, h3, h4⟩ := hd
    simp only [sd_cons, sd_nil, sd_zero, List.length_cons, List.length_nil, w_var, w_const, w_glob, w_prim, w_meth, w_cut, w_not, w_and, w_or, w_one, w_ite, w_chain, w_call, w_callk, wa_nil, wa_cons, wt_name, wt_tup, wts_nil, wts_cons, wt_sub, ws_nil, ws_cons, w_expr, w_asg, w_setc, w_par2, w_par3, w_aug, w_ret, w_retN, w_ifs, w_never, seqD_tup, tgsLen, p_add, p_sub, p_mul, p_div, p_mod, p_pow, p_neg, p_eq, p_ne, p_lt, p_le, p_gt, p_ge, p_abs, p_int, p_max, p_min, p_tup, p_lst, p_ixT, p_lenT, truth_bl, onV_some, onB_some, onN_some, onD_bl, onO_some, onL_some, on2_eq, on3_eq, onC_nil, onC_one, onAug_sub, onAug_add, onAug_mul, List.getElem?_cons_zero, List.getElem?_cons_succ, List.set_cons_zero, List.set_cons_succ, wipeD, List.map_cons, List.map_nil, true_and, and_true, decide_eq_true_eq, Bool.not_eq_true', decide_eq_false_iff_not, Nat.reduceAdd, Nat.zero_add, atI_0, atI_1, atI_2, p_eqT2, p_neT2, p_isT, p_isI, p_isB, reduceIte, reduceCtorEq, Int.cast_ofNat_Int, not_true_eq_false, not_false_eq_true, eq_self, if_false, if_true, Bool.true_eq_false, Bool.false_eq_true, Bool.not_true, Bool.not_false, Bool.and_true, Bool.true_and, Bool.and_false, Bool.false_and, p_inT2, p_neS, p_eqS]
    exact ⟨m, ns, kd, rfl, g1, p1, h1, h2, h3, h4⟩
  obtain ⟨m, ns, kd, rfl, g1, p1, hm, e1, h6, hb⟩ := h
  refine cutS (wpF_mono _ _) (fun σ S2 => ∃ z1 z2, σ = knS r z1 z2 none ∧ GrX r S S2 ∧ Pool S2 r (n + 4)) ?_ fun σ S2 h => ?_
  · simp only [knS, sd_cons, sd_nil, sd_zero, List.length_cons, List.length_nil, w_var, w_const, w_glob, w_prim, w_meth, w_cut, w_not, w_and, w_or, w_one, w_ite, w_chain, w_call, w_callk, wa_nil, wa_cons, wt_name, wt_tup, wts_nil, wts_cons, wt_sub, ws_nil, ws_cons, w_expr, w_asg, w_setc, w_par2, w_par3, w_aug, w_ret, w_retN, w_ifs, w_never, seqD_tup, tgsLen, p_add, p_sub, p_mul, p_div, p_mod, p_pow, p_neg, p_eq, p_ne, p_lt, p_le, p_gt, p_ge, p_abs, p_int, p_max, p_min, p_tup, p_lst, p_ixT, p_lenT, truth_bl, onV_some, onB_some, onN_some, onD_bl, onO_some, onL_some, on2_eq, on3_eq, onC_nil, onC_one, onAug_sub, onAug_add, onAug_mul, List.getElem?_cons_zero, List.getElem?_cons_succ, List.set_cons_zero, List.set_cons_succ, wipeD, List.map_cons, List.map_nil, true_and, and_true, decide_eq_true_eq, Bool.not_eq_true', decide_eq_false_iff_not, Nat.reduceAdd, Nat.zero_add, atI_0, atI_1, atI_2, p_eqT2, p_neT2, p_isT, p_isI, p_isB, reduceIte, reduceCtorEq, Int.cast_ofNat_Int, not_true_eq_false, not_false_eq_true, eq_self, if_false, if_true, Bool.true_eq_false, Bool.false_eq_true, Bool.not_true, Bool.not_false, Bool.and_true, Bool.true_and, Bool.and_false, Bool.false_and, p_inT2, p_neS, p_eqS]
    refine use (sp_draw H.h1 r _ 3 S1 p1 (by omega) (by decide) (by decide)) fun d S2 hd => ?_
    obtain ⟨v, rfl, a1, b1, g2, p2⟩ := hd
    have e2 := g2 _ _ hm e1
    have g02 := g1.trans g2
    simp only [sd_cons, sd_nil, sd_zero, List.length_cons, List.length_nil, w_var, w_const, w_glob, w_prim, w_meth, w_cut, w_not, w_and, w_or, w_one, w_ite, w_chain, w_call, w_callk, wa_nil, wa_cons, wt_name, wt_tup, wts_nil, wts_cons, wt_sub, ws_nil, ws_cons, w_expr, w_asg, w_setc, w_par2, w_par3, w_aug, w_ret, w_retN, w_ifs, w_never, seqD_tup, tgsLen, p_add, p_sub, p_mul, p_div, p_mod, p_pow, p_neg, p_eq, p_ne, p_lt, p_le, p_gt, p_ge, p_abs, p_int, p_max, p_min, p_tup, p_lst, p_ixT, p_lenT, truth_bl, onV_some, onB_some, onN_some, onD_bl, onO_some, onL_some, on2_eq, on3_eq, onC_nil, onC_one, onAug_sub, onAug_add, onAug_mul, List.getElem?_cons_zero, List.getElem?_cons_succ, List.set_cons_zero, List.set_cons_succ, wipeD, List.map_cons, List.map_nil, true_and, and_true, decide_eq_true_eq, Bool.not_eq_true', decide_eq_false_iff_not, Nat.reduceAdd, Nat.zero_add, atI_0, atI_1, atI_2, p_eqT2, p_neT2, p_isT, p_isI, p_isB, reduceIte, reduceCtorEq, Int.cast_ofNat_Int, not_true_eq_false, not_false_eq_true, eq_self, if_false, if_true, Bool.true_eq_false, Bool.false_eq_true, Bool.not_true, Bool.not_false, Bool.and_true, Bool.true_and, Bool.and_false, Bool.false_and, p_inT2, p_neS, p_eqS]
    split
    · refine ⟨by decide, ?_⟩
      have gp := Gr.push S2 (O.lst [.int 0])
      refine p_rep (xs := [.int 0]) (k := 6) (by simp) (by decide) (by decide) ?_
      have gq := Gr.push (S2 ++ [O.lst [.int 0]]) (O.lst (List.replicate 6 [D.int 0]).flatten)
      have er : ((S2 ++ [O.lst [D.int 0]]) ++ [O.lst (List.replicate 6 [D.int 0]).flatten])[(S2 ++ [O.lst [D.int 0]]).length]? = some (.lst (([0, 0, 0, 0, 0, 0] : List Int).map D.int)) := by simp
      generalize (S2 ++ [O.lst [D.int 0]]) ++ [O.lst (List.replicate 6 [D.int 0]).flatten] = S3 at gq er
      have g3 := gp.trans gq
      have e3 := g3 _ _ e2
      refine p_neL (seqAt_lst e3) (seqAt_lst er) ?_
      simp only [sd_cons, sd_nil, sd_zero, List.length_cons, List.length_nil, w_var, w_const, w_glob, w_prim, w_meth, w_cut, w_not, w_and, w_or, w_one, w_ite, w_chain, w_call, w_callk, wa_nil, wa_cons, wt_name, wt_tup, wts_nil, wts_cons, wt_sub, ws_nil, ws_cons, w_expr, w_asg, w_setc, w_par2, w_par3, w_aug, w_ret, w_retN, w_ifs, w_never, seqD_tup, tgsLen, p_add, p_sub, p_mul, p_div, p_mod, p_pow, p_neg, p_eq, p_ne, p_lt, p_le, p_gt, p_ge, p_abs, p_int, p_max, p_min, p_tup, p_lst, p_ixT, p_lenT, truth_bl, onV_some, onB_some, onN_some, onD_bl, onO_some, onL_some, on2_eq, on3_eq, onC_nil, onC_one, onAug_sub, onAug_add, onAug_mul, List.getElem?_cons_zero, List.getElem?_cons_succ, List.set_cons_zero, List.set_cons_succ, wipeD, List.map_cons, List.map_nil, true_and, and_true, decide_eq_true_eq, Bool.not_eq_true', decide_eq_false_iff_not, Nat.reduceAdd, Nat.zero_add, atI_0, atI_1, atI_2, p_eqT2, p_neT2, p_isT, p_isI, p_isB, reduceIte, reduceCtorEq, Int.cast_ofNat_Int, not_true_eq_false, not_false_eq_true, eq_self, if_false, if_true, Bool.true_eq_false, Bool.false_eq_true, Bool.not_true, Bool.not_false, Bool.and_true, Bool.true_and, Bool.and_false, Bool.false_and, p_inT2, p_neS, p_eqS]
      split
      · refine use (sp_law_is_straight (k := k) H.h30 H.h31 H.h32 H.h35 H.h36 ns h6 m S3 (seqAt_lst e3) hb) fun d S4 hd => ?_
        obtain ⟨tv, rfl, g4, hs⟩ := hd
        have e4 := g4 _ _ e3
        have g24 := g3.trans g4
        have p4 := p2.gr g24
        simp only [sd_cons, sd_nil, sd_zero, List.length_cons, List.length_nil, w_var, w_const, w_glob, w_prim, w_meth, w_cut, w_not, w_and, w_or, w_one, w_ite, w_chain, w_call, w_callk, wa_nil, wa_cons, wt_name, wt_tup, wts_nil, wts_cons, wt_sub, ws_nil, ws_cons, w_expr, w_asg, w_setc, w_par2, w_par3, w_aug, w_ret, w_retN, w_ifs, w_never, seqD_tup, tgsLen, p_add, p_sub, p_mul, p_div, p_mod, p_pow, p_neg, p_eq, p_ne, p_lt, p_le, p_gt, p_ge, p_abs, p_int, p_max, p_min, p_tup, p_lst, p_ixT, p_lenT, truth_bl, onV_some, onB_some, onN_some, onD_bl, onO_some, onL_some, on2_eq, on3_eq, onC_nil, onC_one, onAug_sub, onAug_add, onAug_mul, List.getElem?_cons_zero, List.getElem?_cons_succ, List.set_cons_zero, List.set_cons_succ, wipeD, List.map_cons, List.map_nil, true_and, and_true, decide_eq_true_eq, Bool.not_eq_true', decide_eq_false_iff_not, Nat.reduceAdd, Nat.zero_add, atI_0, atI_1, atI_2, p_eqT2, p_neT2, p_isT, p_isI, p_isB, reduceIte, reduceCtorEq, Int.cast_ofNat_Int, not_true_eq_false, not_false_eq_true, eq_self, if_false, if_true, Bool.true_eq_false, Bool.false_eq_true, Bool.not_true, Bool.not_false, Bool.and_true, Bool.true_and, Bool.and_false, Bool.false_and, p_inT2, p_neS, p_eqS]
        cases tv with
        | false => simp only [Bool.false_eq_true, if_false]; exact ⟨_, _, rfl, g02.trans (g24.x r), p4⟩
        | true =>
          simp only [if_true]
          have dq := hs rfl
          refine use (sp_law_plain (k := k + 3) H.h30 m ns S4 (seqAt_lst e4) (ne_of_disc h6 dq) (fun n h => (hb n h).mono (by decide)) (by rw [h6]; decide)) fun d S5 hd => ?_
          obtain ⟨q, rfl, g5, hq, e5⟩ := hd
          have l6 : (dvd ns).length = 6 := by simp [dvd, h6]
          refine wp_comp (wpF_mono _ _) ?_
          simp only [sd_cons, sd_nil, sd_zero, List.length_cons, List.length_nil, w_var, w_const, w_glob, w_prim, w_meth, w_cut, w_not, w_and, w_or, w_one, w_ite, w_chain, w_call, w_callk, wa_nil, wa_cons, wt_name, wt_tup, wts_nil, wts_cons, wt_sub, ws_nil, ws_cons, w_expr, w_asg, w_setc, w_par2, w_par3, w_aug, w_ret, w_retN, w_ifs, w_never, seqD_tup, tgsLen, p_add, p_sub, p_mul, p_div, p_mod, p_pow, p_neg, p_eq, p_ne, p_lt, p_le, p_gt, p_ge, p_abs, p_int, p_max, p_min, p_tup, p_lst, p_ixT, p_lenT, truth_bl, onV_some, onB_some, onN_some, onD_bl, onO_some, onL_some, on2_eq, on3_eq, onC_nil, onC_one, onAug_sub, onAug_add, onAug_mul, List.getElem?_cons_zero, List.getElem?_cons_succ, List.set_cons_zero, List.set_cons_succ, wipeD, List.map_cons, List.map_nil, true_and, and_true, decide_eq_true_eq, Bool.not_eq_true', decide_eq_false_iff_not, Nat.reduceAdd, Nat.zero_add, atI_0, atI_1, atI_2, p_eqT2, p_neT2, p_isT, p_isI, p_isB, reduceIte, reduceCtorEq, Int.cast_ofNat_Int, not_true_eq_false, not_false_eq_true, eq_self, if_false, if_true, Bool.true_eq_false, Bool.false_eq_true, Bool.not_true, Bool.not_false, Bool.and_true, Bool.true_and, Bool.and_false, Bool.false_and, p_inT2, p_neS, p_eqS, iterR, seqD_ref, seqAt_lst e5, holdOf]
          refine ⟨_, _, rfl, trivial, ok_one (seqAt_lst e5), (by rw [List.length_map, l6]; decide), fun d => match d with
            | .int z => some (.int (z.natAbs : Nat))
            | _ => none, fun i d S6 hd hg => ?_, fun S6 hg h6' => ?_⟩
          · obtain ⟨z, hz, rfl⟩ := get_int' hd
            simp only [sd_cons, sd_nil, sd_zero, List.length_cons, List.length_nil, w_var, w_const, w_glob, w_prim, w_meth, w_cut, w_not, w_and, w_or, w_one, w_ite, w_chain, w_call, w_callk, wa_nil, wa_cons, wt_name, wt_tup, wts_nil, wts_cons, wt_sub, ws_nil, ws_cons, w_expr, w_asg, w_setc, w_par2, w_par3, w_aug, w_ret, w_retN, w_ifs, w_never, seqD_tup, tgsLen, p_add, p_sub, p_mul, p_div, p_mod, p_pow, p_neg, p_eq, p_ne, p_lt, p_le, p_gt, p_ge, p_abs, p_int, p_max, p_min, p_tup, p_lst, p_ixT, p_lenT, truth_bl, onV_some, onB_some, onN_some, onD_bl, onO_some, onL_some, on2_eq, on3_eq, onC_nil, onC_one, onAug_sub, onAug_add, onAug_mul, List.getElem?_cons_zero, List.getElem?_cons_succ, List.set_cons_zero, List.set_cons_succ, wipeD, List.map_cons, List.map_nil, true_and, and_true, decide_eq_true_eq, Bool.not_eq_true', decide_eq_false_iff_not, Nat.reduceAdd, Nat.zero_add, atI_0, atI_1, atI_2, p_eqT2, p_neT2, p_isT, p_isI, p_isB, reduceIte, reduceCtorEq, Int.cast_ofNat_Int, not_true_eq_false, not_false_eq_true, eq_self, if_false, if_true, Bool.true_eq_false, Bool.false_eq_true, Bool.not_true, Bool.not_false, Bool.and_true, Bool.true_and, Bool.and_false, Bool.false_and, p_inT2, p_neS, p_eqS]
            exact Gr.refl _
          · have h6' := h6'.trans (congrArg (fun z => some (O.lst z)) (map_some (fun z : Int => ((z.natAbs : Nat) : Int)) _ D.int D.int (fun a => rfl) (dvd ns)))
            refine p_max1 (seqAt_lst h6') (by intro z; have := congrArg List.length z; simp [l6] at this) fun mx hmx hle => ?_
            simp only [sd_cons, sd_nil, sd_zero, List.length_cons, List.length_nil, w_var, w_const, w_glob, w_prim, w_meth, w_cut, w_not, w_and, w_or, w_one, w_ite, w_chain, w_call, w_callk, wa_nil, wa_cons, wt_name, wt_tup, wts_nil, wts_cons, wt_sub, ws_nil, ws_cons, w_expr, w_asg, w_setc, w_par2, w_par3, w_aug, w_ret, w_retN, w_ifs, w_never, seqD_tup, tgsLen, p_add, p_sub, p_mul, p_div, p_mod, p_pow, p_neg, p_eq, p_ne, p_lt, p_le, p_gt, p_ge, p_abs, p_int, p_max, p_min, p_tup, p_lst, p_ixT, p_lenT, truth_bl, onV_some, onB_some, onN_some, onD_bl, onO_some, onL_some, on2_eq, on3_eq, onC_nil, onC_one, onAug_sub, onAug_add, onAug_mul, List.getElem?_cons_zero, List.getElem?_cons_succ, List.set_cons_zero, List.set_cons_succ, wipeD, List.map_cons, List.map_nil, true_and, and_true, decide_eq_true_eq, Bool.not_eq_true', decide_eq_false_iff_not, Nat.reduceAdd, Nat.zero_add, atI_0, atI_1, atI_2, p_eqT2, p_neT2, p_isT, p_isI, p_isB, reduceIte, reduceCtorEq, Int.cast_ofNat_Int, not_true_eq_false, not_false_eq_true, eq_self, if_false, if_true, Bool.true_eq_false, Bool.false_eq_true, Bool.not_true, Bool.not_false, Bool.and_true, Bool.true_and, Bool.and_false, Bool.false_and, p_inT2, p_neS, p_eqS]
            have e10 : (10 : Int) ^ Int.toNat 8 = 100000000 := by decide
            refine ⟨by decide, ?_⟩
            rw [e10]
            have g25 := (g24.trans g5).trans hg
            split
            · rename_i hc
              refine ⟨by decide, by decide, by decide, ?_⟩
              refine ⟨⟨q, dvd ns, kd, (1, 0), (0, 1), rfl, hg _ _ e5, ⟨l6, fun z hz => ?_, discQ_dvd h6 dq⟩, ?_, .inr ⟨rfl, rfl⟩, .inl ⟨by decide, by decide⟩, ⟨Bd.of (by decide) (by decide), Bd.of (by decide) (by decide)⟩, ⟨Bd.of (by decide) (by decide), Bd.of (by decide) (by decide)⟩⟩, g02.trans (g25.x r), (p2.gr g25).mono (by omega)⟩
              · have := hle _ (List.mem_map.mpr ⟨z, hz, rfl⟩)
                exact Bd.of (by omega) (by omega)
              · have := g02.len p2.lt
                have := g24.len
                omega
            · exact ⟨_, _, rfl, g02.trans (g25.x r), p2.gr g25⟩
      · exact ⟨_, _, rfl, g02.trans (g3.x r), p2.gr g3⟩
    · exact ⟨_, _, rfl, g02, p2⟩
  clear g1 p1 e1 hm hb h6
  obtain ⟨z1, z2, rfl, g1, p1⟩ := h
  have hle := g1.len p1.lt
  have sz : (20 : Nat) ≤ sizeLine := by decide
  -- a list of pairs, some more of them
  refine cutS (wpF_mono _ _) (fun σ S3 => ∃ L ds, σ = knS r z1 z2 (some (.ref L)) ∧ Gr S2 S3 ∧ S3[L]? = some (.lst ds) ∧ ds.length = 4 ∧ ∀ d ∈ ds, KT S.length d S3) ?_ fun σ S3 h => ?_
  · simp only [knS, sd_cons, sd_nil, sd_zero, List.length_cons, List.length_nil, w_var, w_const, w_glob, w_prim, w_meth, w_cut, w_not, w_and, w_or, w_one, w_ite, w_chain, w_call, w_callk, wa_nil, wa_cons, wt_name, wt_tup, wts_nil, wts_cons, wt_sub, ws_nil, ws_cons, w_expr, w_asg, w_setc, w_par2, w_par3, w_aug, w_ret, w_retN, w_ifs, w_never, seqD_tup, tgsLen, p_add, p_sub, p_mul, p_div, p_mod, p_pow, p_neg, p_eq, p_ne, p_lt, p_le, p_gt, p_ge, p_abs, p_int, p_max, p_min, p_tup, p_lst, p_ixT, p_lenT, truth_bl, onV_some, onB_some, onN_some, onD_bl, onO_some, onL_some, on2_eq, on3_eq, onC_nil, onC_one, onAug_sub, onAug_add, onAug_mul, List.getElem?_cons_zero, List.getElem?_cons_succ, List.set_cons_zero, List.set_cons_succ, wipeD, List.map_cons, List.map_nil, true_and, and_true, decide_eq_true_eq, Bool.not_eq_true', decide_eq_false_iff_not, Nat.reduceAdd, Nat.zero_add, atI_0, atI_1, atI_2, p_eqT2, p_neT2, p_isT, p_isI, p_isB, reduceIte, reduceCtorEq, Int.cast_ofNat_Int, not_true_eq_false, not_false_eq_true, eq_self, if_false, if_true, Bool.true_eq_false, Bool.false_eq_true, Bool.not_true, Bool.not_false, Bool.and_true, Bool.true_and, Bool.and_false, Bool.false_and, p_inT2, p_neS, p_eqS, List.append_assoc, List.cons_append, List.nil_append, List.length_append]
    refine ⟨by decide, by decide, by decide, by decide, by decide, by decide, by decide, by decide, by decide, ?_⟩
    refine ⟨_, _, rfl, Gr.app _ _, (gA4 _ _).trans rfl, rfl, fun d hd => ?_⟩
    simp only [List.mem_cons, List.not_mem_nil, or_false] at hd
    rcases hd with rfl | rfl | rfl | rfl
    · exact ⟨_, [1, 0, 0, 0, -1, 0], 3, rfl, (gA0 _ _).trans rfl, knB_ok (by decide +kernel), by omega⟩
    · exact ⟨_, [1, 0, 0, 1, -1, 1], 4, rfl, (gA1 _ _).trans rfl, knB_ok (by decide +kernel), by omega⟩
    · exact ⟨_, [1, 0, 0, 0, -1, 1], 5, rfl, (gA2 _ _).trans rfl, knB_ok (by decide +kernel), by omega⟩
    · exact ⟨_, [1, 0, 0, 0, -4, 8], 6, rfl, (gA3 _ _).trans rfl, knB_ok (by decide +kernel), by omega⟩
  obtain ⟨L1, ds1, rfl, g3, e3, l3, k3⟩ := h
  -- some more
  refine cutS (wpF_mono _ _) (fun σ S4 => ∃ L ds, σ = knS r z1 z2 (some (.ref L)) ∧ Gr S2 S4 ∧ S4[L]? = some (.lst ds) ∧ ds.length = 7 ∧ ∀ d ∈ ds, KT S.length d S4) ?_ fun σ S4 h => ?_
  · have h3 := g3.len
    simp only [knS, sd_cons, sd_nil, sd_zero, List.length_cons, List.length_nil, w_var, w_const, w_glob, w_prim, w_meth, w_cut, w_not, w_and, w_or, w_one, w_ite, w_chain, w_call, w_callk, wa_nil, wa_cons, wt_name, wt_tup, wts_nil, wts_cons, wt_sub, ws_nil, ws_cons, w_expr, w_asg, w_setc, w_par2, w_par3, w_aug, w_ret, w_retN, w_ifs, w_never, seqD_tup, tgsLen, p_add, p_sub, p_mul, p_div, p_mod, p_pow, p_neg, p_eq, p_ne, p_lt, p_le, p_gt, p_ge, p_abs, p_int, p_max, p_min, p_tup, p_lst, p_ixT, p_lenT, truth_bl, onV_some, onB_some, onN_some, onD_bl, onO_some, onL_some, on2_eq, on3_eq, onC_nil, onC_one, onAug_sub, onAug_add, onAug_mul, List.getElem?_cons_zero, List.getElem?_cons_succ, List.set_cons_zero, List.set_cons_succ, wipeD, List.map_cons, List.map_nil, true_and, and_true, decide_eq_true_eq, Bool.not_eq_true', decide_eq_false_iff_not, Nat.reduceAdd, Nat.zero_add, atI_0, atI_1, atI_2, p_eqT2, p_neT2, p_isT, p_isI, p_isB, reduceIte, reduceCtorEq, Int.cast_ofNat_Int, not_true_eq_false, not_false_eq_true, eq_self, if_false, if_true, Bool.true_eq_false, Bool.false_eq_true, Bool.not_true, Bool.not_false, Bool.and_true, Bool.true_and, Bool.and_false, Bool.false_and, p_inT2, p_neS, p_eqS, List.append_assoc, List.cons_append, List.nil_append, List.length_append]
    refine ⟨by decide, by decide, by decide, by decide, by decide, by decide, by decide, ?_⟩
    refine p_cat (Gr.app _ _ _ _ e3) ((gA3 _ _).trans rfl) (by rw [l3]; exact Nat.le_trans (show 4 + 3 ≤ 20 by decide) sz) ?_
    have ga := Gr.push (S3 ++ [O.lst [D.int 1, D.int 0, D.int 0, D.int (-4), D.int (-16), D.int 64], O.lst [D.int 2, D.int 0, D.int 0, D.int (-3), D.int (-18), D.int 54], O.lst [D.int 1, D.int 0, D.int 0, D.int (-36), D.int (-144), D.int 1728], O.lst [D.tup [D.ref S3.length, D.int 7], D.tup [D.ref (S3.length + 1), D.int 8], D.tup [D.ref (S3.length + 1 + 1), D.int 9]]])
    refine ⟨_, _, rfl, (g3.trans (Gr.app _ _)).trans (ga _), gP _ _, by rw [List.length_append, l3]; rfl, fun d hd => ?_⟩
    rcases List.mem_append.mp hd with hd | hd
    · exact ((k3 d hd).gr (Gr.app _ _)).gr (ga _)
    · simp only [List.mem_cons, List.not_mem_nil, or_false] at hd
      rcases hd with rfl | rfl | rfl
      · exact ⟨_, [1, 0, 0, -4, -16, 64], 7, rfl, ga _ _ _ ((gA0 _ _).trans rfl), knB_ok (by decide +kernel), by omega⟩
      · exact ⟨_, [2, 0, 0, -3, -18, 54], 8, rfl, ga _ _ _ ((gA1 _ _).trans rfl), knB_ok (by decide +kernel), by omega⟩
      · exact ⟨_, [1, 0, 0, -36, -144, 1728], 9, rfl, ga _ _ _ ((gA2 _ _).trans rfl), knB_ok (by decide +kernel), by omega⟩
  clear g3 e3 l3 k3
  obtain ⟨L2, ds2, rfl, g4, e4, l4, k4⟩ := h
  refine cutS (wpF_mono _ _) (fun σ S5 => ∃ L ds, σ = knS r z1 z2 (some (.ref L)) ∧ Gr S2 S5 ∧ S5[L]? = some (.lst ds) ∧ ds.length = 9 ∧ ∀ d ∈ ds, KT S.length d S5) ?_ fun σ S5 h => ?_
  · have h3 := g4.len
    simp only [knS, sd_cons, sd_nil, sd_zero, List.length_cons, List.length_nil, w_var, w_const, w_glob, w_prim, w_meth, w_cut, w_not, w_and, w_or, w_one, w_ite, w_chain, w_call, w_callk, wa_nil, wa_cons, wt_name, wt_tup, wts_nil, wts_cons, wt_sub, ws_nil, ws_cons, w_expr, w_asg, w_setc, w_par2, w_par3, w_aug, w_ret, w_retN, w_ifs, w_never, seqD_tup, tgsLen, p_add, p_sub, p_mul, p_div, p_mod, p_pow, p_neg, p_eq, p_ne, p_lt, p_le, p_gt, p_ge, p_abs, p_int, p_max, p_min, p_tup, p_lst, p_ixT, p_lenT, truth_bl, onV_some, onB_some, onN_some, onD_bl, onO_some, onL_some, on2_eq, on3_eq, onC_nil, onC_one, onAug_sub, onAug_add, onAug_mul, List.getElem?_cons_zero, List.getElem?_cons_succ, List.set_cons_zero, List.set_cons_succ, wipeD, List.map_cons, List.map_nil, true_and, and_true, decide_eq_true_eq, Bool.not_eq_true', decide_eq_false_iff_not, Nat.reduceAdd, Nat.zero_add, atI_0, atI_1, atI_2, p_eqT2, p_neT2, p_isT, p_isI, p_isB, reduceIte, reduceCtorEq, Int.cast_ofNat_Int, not_true_eq_false, not_false_eq_true, eq_self, if_false, if_true, Bool.true_eq_false, Bool.false_eq_true, Bool.not_true, Bool.not_false, Bool.and_true, Bool.true_and, Bool.and_false, Bool.false_and, p_inT2, p_neS, p_eqS, List.append_assoc, List.cons_append, List.nil_append, List.length_append]
    refine ⟨by decide, by decide, by decide, by decide, by decide, ?_⟩
    refine p_cat (Gr.app _ _ _ _ e4) ((gA2 _ _).trans rfl) (by rw [l4]; exact Nat.le_trans (show 7 + 2 ≤ 20 by decide) sz) ?_
    have ga := Gr.push (S4 ++ [O.lst [D.int 1, D.int 0, D.int 0, D.int (-120), D.int (-576), D.int 13824], O.lst [D.int 1, D.int 0, D.int 0, D.int 9030, D.int (-44100), D.int 9261000], O.lst [D.tup [D.ref S4.length, D.int 10], D.tup [D.ref (S4.length + 1), D.int 12]]])
    refine ⟨_, _, rfl, (g4.trans (Gr.app _ _)).trans (ga _), gP _ _, by rw [List.length_append, l4]; rfl, fun d hd => ?_⟩
    rcases List.mem_append.mp hd with hd | hd
    · exact ((k4 d hd).gr (Gr.app _ _)).gr (ga _)
    · simp only [List.mem_cons, List.not_mem_nil, or_false] at hd
      rcases hd with rfl | rfl
      · exact ⟨_, [1, 0, 0, -120, -576, 13824], 10, rfl, ga _ _ _ ((gA0 _ _).trans rfl), knB_ok (by decide +kernel), by omega⟩
      · exact ⟨_, [1, 0, 0, 9030, -44100, 9261000], 12, rfl, ga _ _ _ ((gA1 _ _).trans rfl), knB_ok (by decide +kernel), by omega⟩
  clear g4 e4 l4 k4
  obtain ⟨L3, ds3, rfl, g5, e5, l5, k5⟩ := h
  refine cutS (wpF_mono _ _) (fun σ S6 => ∃ L ds, σ = knS r z1 z2 (some (.ref L)) ∧ Gr S2 S6 ∧ S6[L]? = some (.lst ds) ∧ ds.length = 10 ∧ ∀ d ∈ ds, K4 S.length d S6) ?_ fun σ S6 h => ?_
  · have h3 := g5.len
    simp only [knS, w_setc]
    refine wp_comp (wpF_mono _ _) ?_
    simp only [sd_cons, sd_nil, sd_zero, List.length_cons, List.length_nil, w_var, w_const, w_glob, w_prim, w_meth, w_cut, w_not, w_and, w_or, w_one, w_ite, w_chain, w_call, w_callk, wa_nil, wa_cons, wt_name, wt_tup, wts_nil, wts_cons, wt_sub, ws_nil, ws_cons, w_expr, w_asg, w_setc, w_par2, w_par3, w_aug, w_ret, w_retN, w_ifs, w_never, seqD_tup, tgsLen, p_add, p_sub, p_mul, p_div, p_mod, p_pow, p_neg, p_eq, p_ne, p_lt, p_le, p_gt, p_ge, p_abs, p_int, p_max, p_min, p_tup, p_lst, p_ixT, p_lenT, truth_bl, onV_some, onB_some, onN_some, onD_bl, onO_some, onL_some, on2_eq, on3_eq, onC_nil, onC_one, onAug_sub, onAug_add, onAug_mul, List.getElem?_cons_zero, List.getElem?_cons_succ, List.set_cons_zero, List.set_cons_succ, wipeD, List.map_cons, List.map_nil, true_and, and_true, decide_eq_true_eq, Bool.not_eq_true', decide_eq_false_iff_not, Nat.reduceAdd, Nat.zero_add, atI_0, atI_1, atI_2, p_eqT2, p_neT2, p_isT, p_isI, p_isB, reduceIte, reduceCtorEq, Int.cast_ofNat_Int, not_true_eq_false, not_false_eq_true, eq_self, if_false, if_true, Bool.true_eq_false, Bool.false_eq_true, Bool.not_true, Bool.not_false, Bool.and_true, Bool.true_and, Bool.and_false, Bool.false_and, p_inT2, p_neS, p_eqS, List.append_assoc, List.cons_append, List.nil_append, List.length_append]
    refine ⟨by decide, by decide, by decide, ?_⟩
    refine p_cat (Gr.app _ _ _ _ e5) ((gA1 _ _).trans rfl) (by rw [l5]; exact Nat.le_trans (show 9 + 1 ≤ 20 by decide) sz) ?_
    have ga := Gr.push (S5 ++ [O.lst [D.int 1, D.int 0, D.int 0, D.int 2, D.int (-1), D.int 1], O.lst [D.tup [D.ref S5.length, D.int 0]]]) (O.lst (ds3 ++ [D.tup [D.ref S5.length, D.int 0]]))
    have gt := (Gr.app S5 _).trans ga
    have kd' : ∀ d ∈ ds3 ++ [D.tup [D.ref S5.length, D.int 0]], KT S.length d ((S5 ++ [O.lst [D.int 1, D.int 0, D.int 0, D.int 2, D.int (-1), D.int 1], O.lst [D.tup [D.ref S5.length, D.int 0]]]) ++ [O.lst (ds3 ++ [D.tup [D.ref S5.length, D.int 0]])]) := fun d hd => by
      rcases List.mem_append.mp hd with hd | hd
      · exact (k5 d hd).gr gt
      · rw [List.mem_singleton.mp hd]
        exact ⟨_, [1, 0, 0, 2, -1, 1], 0, rfl, ga _ _ ((gA0 _ _).trans rfl), knB_ok (by decide +kernel), by omega⟩
    have eL := gP (S5 ++ [O.lst [D.int 1, D.int 0, D.int 0, D.int 2, D.int (-1), D.int 1], O.lst [D.tup [D.ref S5.length, D.int 0]]]) (O.lst (ds3 ++ [D.tup [D.ref S5.length, D.int 0]]))
    have l10 : (ds3 ++ [D.tup [D.ref S5.length, D.int 0]]).length = 10 := by rw [List.length_append, l5]; rfl
    generalize ds3 ++ [D.tup [D.ref S5.length, D.int 0]] = dq at kd' eL l10 gt ⊢
    generalize (S5 ++ [O.lst [D.int 1, D.int 0, D.int 0, D.int 2, D.int (-1), D.int 1], O.lst [D.tup [D.ref S5.length, D.int 0]]]).length = LL at eL ⊢
    generalize (S5 ++ [O.lst [D.int 1, D.int 0, D.int 0, D.int 2, D.int (-1), D.int 1], O.lst [D.tup [D.ref S5.length, D.int 0]]]) ++ [O.lst dq] = SS at kd' eL gt ⊢
    simp only [iterR, seqD_ref, seqAt_lst eL, holdOf]
    refine ⟨_, _, rfl, trivial, ok_one (seqAt_lst eL), by rw [l10]; exact Nat.le_trans (by decide) sz, fun d => match d with
      | .tup [a, b] => some (.tup [a, ptD (1, 0), ptD (0, 1), b])
      | _ => none, fun i d S7 hd hg => ?_, fun S7 hg h7 => ?_⟩
    · obtain ⟨m', ns', kd2, rfl, _⟩ := kd' d (List.mem_of_getElem? hd)
      simp only [sd_cons, sd_nil, sd_zero, List.length_cons, List.length_nil, w_var, w_const, w_glob, w_prim, w_meth, w_cut, w_not, w_and, w_or, w_one, w_ite, w_chain, w_call, w_callk, wa_nil, wa_cons, wt_name, wt_tup, wts_nil, wts_cons, wt_sub, ws_nil, ws_cons, w_expr, w_asg, w_setc, w_par2, w_par3, w_aug, w_ret, w_retN, w_ifs, w_never, seqD_tup, tgsLen, p_add, p_sub, p_mul, p_div, p_mod, p_pow, p_neg, p_eq, p_ne, p_lt, p_le, p_gt, p_ge, p_abs, p_int, p_max, p_min, p_tup, p_lst, p_ixT, p_lenT, truth_bl, onV_some, onB_some, onN_some, onD_bl, onO_some, onL_some, on2_eq, on3_eq, onC_nil, onC_one, onAug_sub, onAug_add, onAug_mul, List.getElem?_cons_zero, List.getElem?_cons_succ, List.set_cons_zero, List.set_cons_succ, wipeD, List.map_cons, List.map_nil, true_and, and_true, decide_eq_true_eq, Bool.not_eq_true', decide_eq_false_iff_not, Nat.reduceAdd, Nat.zero_add, atI_0, atI_1, atI_2, p_eqT2, p_neT2, p_isT, p_isI, p_isB, reduceIte, reduceCtorEq, Int.cast_ofNat_Int, not_true_eq_false, not_false_eq_true, eq_self, if_false, if_true, Bool.true_eq_false, Bool.false_eq_true, Bool.not_true, Bool.not_false, Bool.and_true, Bool.true_and, Bool.and_false, Bool.false_and, p_inT2, p_neS, p_eqS]
      exact ⟨by decide, by decide, by decide, rfl, Gr.refl _⟩
    · refine ⟨_, _, rfl, (g5.trans gt).trans hg, h7, ?_, fun d hd => ?_⟩
      · rw [fm_len fun x hx => ?_, l10]
        obtain ⟨m', ns', kd2, rfl, _⟩ := kd' x hx
        exact ⟨_, rfl⟩
      · obtain ⟨d0, h0, h1⟩ := List.mem_filterMap.mp hd
        obtain ⟨m', ns', kd2, rfl, q1, q2, q3⟩ := kd' d0 h0
        cases h1
        exact ⟨m', ns', kd2, (1, 0), (0, 1), rfl, hg _ _ q1, q2, q3, .inr ⟨rfl, rfl⟩, .inl ⟨by decide, by decide⟩, ⟨Bd.of (by decide) (by decide), Bd.of (by decide) (by decide)⟩, ⟨Bd.of (by decide) (by decide), Bd.of (by decide) (by decide)⟩⟩
  clear g5 e5 l5 k5
  obtain ⟨L4, ds4, rfl, g6, e6, l6, k6⟩ := h
  have b11 : BdP 2 (1, 1) := ⟨Bd.of (by decide) (by decide), Bd.of (by decide) (by decide)⟩
  have b21 : BdP 2 (2, 1) := ⟨Bd.of (by decide) (by decide), Bd.of (by decide) (by decide)⟩
  have p11 : PtP (1, 1) := .inl ⟨by decide, by decide⟩
  have p21 : PtP (2, 1) := .inl ⟨by decide, by decide⟩
  refine cutS (wpF_mono _ _) (fun σ S7 => ∃ L ds, σ = knS r z1 z2 (some (.ref L)) ∧ Gr S2 S7 ∧ S7[L]? = some (.lst ds) ∧ ds.length = 12 ∧ ∀ d ∈ ds, K4 S.length d S7) ?_ fun σ S7 h => ?_
  · have h3 := g6.len
    simp only [knS, sd_cons, sd_nil, sd_zero, List.length_cons, List.length_nil, w_var, w_const, w_glob, w_prim, w_meth, w_cut, w_not, w_and, w_or, w_one, w_ite, w_chain, w_call, w_callk, wa_nil, wa_cons, wt_name, wt_tup, wts_nil, wts_cons, wt_sub, ws_nil, ws_cons, w_expr, w_asg, w_setc, w_par2, w_par3, w_aug, w_ret, w_retN, w_ifs, w_never, seqD_tup, tgsLen, p_add, p_sub, p_mul, p_div, p_mod, p_pow, p_neg, p_eq, p_ne, p_lt, p_le, p_gt, p_ge, p_abs, p_int, p_max, p_min, p_tup, p_lst, p_ixT, p_lenT, truth_bl, onV_some, onB_some, onN_some, onD_bl, onO_some, onL_some, on2_eq, on3_eq, onC_nil, onC_one, onAug_sub, onAug_add, onAug_mul, List.getElem?_cons_zero, List.getElem?_cons_succ, List.set_cons_zero, List.set_cons_succ, wipeD, List.map_cons, List.map_nil, true_and, and_true, decide_eq_true_eq, Bool.not_eq_true', decide_eq_false_iff_not, Nat.reduceAdd, Nat.zero_add, atI_0, atI_1, atI_2, p_eqT2, p_neT2, p_isT, p_isI, p_isB, reduceIte, reduceCtorEq, Int.cast_ofNat_Int, not_true_eq_false, not_false_eq_true, eq_self, if_false, if_true, Bool.true_eq_false, Bool.false_eq_true, Bool.not_true, Bool.not_false, Bool.and_true, Bool.true_and, Bool.and_false, Bool.false_and, p_inT2, p_neS, p_eqS, List.append_assoc, List.cons_append, List.nil_append, List.length_append]
    refine ⟨by decide, by decide, by decide, by decide, by decide, by decide, by decide, by decide, by decide, ?_⟩
    refine p_cat (Gr.app _ _ _ _ e6) ((gA2 _ _).trans rfl) (by rw [l6]; exact Nat.le_trans (show 10 + 2 ≤ 20 by decide) sz) ?_
    refine ⟨_, _, rfl, (g6.trans (Gr.app _ _)).trans (Gr.push _ _), gP _ _, by rw [List.length_append, l6]; rfl, fun d hd => ?_⟩
    rcases List.mem_append.mp hd with hd | hd
    · exact ((k6 d hd).gr (Gr.app _ _)).gr (Gr.push _ _)
    · simp only [List.mem_cons, List.not_mem_nil, or_false] at hd
      rcases hd with rfl | rfl
      · exact ⟨_, [0, 1, 1, -9, 2, 1], 5, (1, 1), (1, 1), rfl, Gr.push _ _ _ _ ((gA0 _ _).trans rfl), knB_ok (by decide +kernel), by omega, p11, p11, b11, b11⟩
      · exact ⟨_, [0, 2, 0, -7, 0, 2], 3, (1, 1), (2, 1), rfl, Gr.push _ _ _ _ ((gA1 _ _).trans rfl), knB_ok (by decide +kernel), by omega, p11, p21, b11, b21⟩
  clear g6 e6 l6 k6
  obtain ⟨L5, ds5, rfl, g7, e7, l7, k7⟩ := h
  refine cutS (wpF_mono _ _) (fun σ S8 => ∃ L ds, σ = knS r z1 z2 (some (.ref L)) ∧ Gr S2 S8 ∧ S2.length ≤ L ∧ S8[L]? = some (.lst ds) ∧ ds.length = 14 ∧ ∀ d ∈ ds, K4 S.length d S8) ?_ fun σ S8 h => ?_
  · have h3 := g7.len
    simp only [knS, sd_cons, sd_nil, sd_zero, List.length_cons, List.length_nil, w_var, w_const, w_glob, w_prim, w_meth, w_cut, w_not, w_and, w_or, w_one, w_ite, w_chain, w_call, w_callk, wa_nil, wa_cons, wt_name, wt_tup, wts_nil, wts_cons, wt_sub, ws_nil, ws_cons, w_expr, w_asg, w_setc, w_par2, w_par3, w_aug, w_ret, w_retN, w_ifs, w_never, seqD_tup, tgsLen, p_add, p_sub, p_mul, p_div, p_mod, p_pow, p_neg, p_eq, p_ne, p_lt, p_le, p_gt, p_ge, p_abs, p_int, p_max, p_min, p_tup, p_lst, p_ixT, p_lenT, truth_bl, onV_some, onB_some, onN_some, onD_bl, onO_some, onL_some, on2_eq, on3_eq, onC_nil, onC_one, onAug_sub, onAug_add, onAug_mul, List.getElem?_cons_zero, List.getElem?_cons_succ, List.set_cons_zero, List.set_cons_succ, wipeD, List.map_cons, List.map_nil, true_and, and_true, decide_eq_true_eq, Bool.not_eq_true', decide_eq_false_iff_not, Nat.reduceAdd, Nat.zero_add, atI_0, atI_1, atI_2, p_eqT2, p_neT2, p_isT, p_isI, p_isB, reduceIte, reduceCtorEq, Int.cast_ofNat_Int, not_true_eq_false, not_false_eq_true, eq_self, if_false, if_true, Bool.true_eq_false, Bool.false_eq_true, Bool.not_true, Bool.not_false, Bool.and_true, Bool.true_and, Bool.and_false, Bool.false_and, p_inT2, p_neS, p_eqS, List.append_assoc, List.cons_append, List.nil_append, List.length_append]
    refine ⟨by decide, by decide, by decide, by decide, by decide, by decide, by decide, by decide, by decide, ?_⟩
    refine p_cat (Gr.app _ _ _ _ e7) ((gA2 _ _).trans rfl) (by rw [l7]; exact Nat.le_trans (show 12 + 2 ≤ 20 by decide) sz) ?_
    refine ⟨_, _, rfl, (g7.trans (Gr.app _ _)).trans (Gr.push _ _), by have := (Gr.app S7 [O.lst [], O.lst [], O.lst []]).len; simp only [List.length_append]; omega, gP _ _, by rw [List.length_append, l7]; rfl, fun d hd => ?_⟩
    rcases List.mem_append.mp hd with hd | hd
    · exact ((k7 d hd).gr (Gr.app _ _)).gr (Gr.push _ _)
    · simp only [List.mem_cons, List.not_mem_nil, or_false] at hd
      rcases hd with rfl | rfl
      · exact ⟨_, [0, 1, 1, -7, 1, 0], 6, (1, 1), (2, 1), rfl, Gr.push _ _ _ _ ((gA0 _ _).trans rfl), knB_ok (by decide +kernel), by omega, p11, p21, b11, b21⟩
      · exact ⟨_, [1, 0, 1, -5, 0, 1], 4, (1, 1), (2, 1), rfl, Gr.push _ _ _ _ ((gA1 _ _).trans rfl), knB_ok (by decide +kernel), by omega, p11, p21, b11, b21⟩
  clear g7 e7 l7 k7
  obtain ⟨L6, ds6, rfl, g8, hL, e8, l8, k8⟩ := h
  simp only [knS, sd_cons, sd_nil, sd_zero, List.length_cons, List.length_nil, w_var, w_const, w_glob, w_prim, w_meth, w_cut, w_not, w_and, w_or, w_one, w_ite, w_chain, w_call, w_callk, wa_nil, wa_cons, wt_name, wt_tup, wts_nil, wts_cons, wt_sub, ws_nil, ws_cons, w_expr, w_asg, w_setc, w_par2, w_par3, w_aug, w_ret, w_retN, w_ifs, w_never, seqD_tup, tgsLen, p_add, p_sub, p_mul, p_div, p_mod, p_pow, p_neg, p_eq, p_ne, p_lt, p_le, p_gt, p_ge, p_abs, p_int, p_max, p_min, p_tup, p_lst, p_ixT, p_lenT, truth_bl, onV_some, onB_some, onN_some, onD_bl, onO_some, onL_some, on2_eq, on3_eq, onC_nil, onC_one, onAug_sub, onAug_add, onAug_mul, List.getElem?_cons_zero, List.getElem?_cons_succ, List.set_cons_zero, List.set_cons_succ, wipeD, List.map_cons, List.map_nil, true_and, and_true, decide_eq_true_eq, Bool.not_eq_true', decide_eq_false_iff_not, Nat.reduceAdd, Nat.zero_add, atI_0, atI_1, atI_2, p_eqT2, p_neT2, p_isT, p_isI, p_isB, reduceIte, reduceCtorEq, Int.cast_ofNat_Int, not_true_eq_false, not_false_eq_true, eq_self, if_false, if_true, Bool.true_eq_false, Bool.false_eq_true, Bool.not_true, Bool.not_false, Bool.and_true, Bool.true_and, Bool.and_false, Bool.false_and, p_inT2, p_neS, p_eqS]
  have p8 := p1.gr g8
  refine use (sp_draw H.h1 r _ 14 S8 p8 (by omega) (by decide) (by decide)) fun d S9 hd => ?_
  obtain ⟨v, rfl, a1, b1, g9, p9⟩ := hd
  have rl := p1.lt
  have e9 := g9 _ _ (by omega : L6 ≠ r) e8
  obtain ⟨j, rfl⟩ : ∃ j : Nat, v = j := ⟨v.toNat, by omega⟩
  have jl : j < ds6.length := by omega
  have hj : ds6[j]? = some ds6[j] := List.getElem?_eq_getElem jl
  have kj := k8 _ (List.getElem_mem jl)
  generalize ds6[j] = dj at hj kj
  simp only [p_ixE (seqAt_lst e9), atI_nat hj, onO_some]
  obtain ⟨m', ns', kd', x, y, rfl, q1, q2, q3, q4⟩ := kj
  have rl0 := hp.lt
  exact ⟨⟨m', ns', kd', x, y, rfl, g9 _ _ (by omega) q1, q2, q3, q4⟩, (g1.trans (g8.x r)).trans g9, p9.mono (by omega)⟩
end CC
/-! Relations with two of their points, as the law draws them. -/
namespace CC
open L2 PySem
def StO (L0 : Nat) (d : D) (S : Store) : Prop := ∃ (m : Nat) (ns : List Int) (a b : Int × Int), d = .tup [.ref m, ptD a, ptD b] ∧ S[m]? = some (.lst (ns.map D.int)) ∧ KnO ns ∧ L0 ≤ m ∧ PtP a ∧ PtP b ∧ BdP 21 a ∧ BdP 21 b
theorem BdP.mono {m n : Nat} {a : Int × Int} (h : BdP m a) (k : m ≤ n) : BdP n a := ⟨h.1.mono k, h.2.mono k⟩
theorem Bd.sq {n : Nat} {i : Int} (h : Bd n i) : Bd (n + n) (i ^ 2) := by
  have e : i ^ 2 = i * i := by rw [Int.pow_succ, Int.pow_succ, Int.pow_zero, Int.one_mul]
  rw [e]
  exact h.mul h
theorem pt_nonneg {a : Int × Int} (h : PtP a) : 0 ≤ a.2 := by
  rcases h with ⟨h, _⟩ | ⟨_, h⟩
  · omega
  · omega
theorem p_cutIJ {g : Bool} {S : Store} {Q : Post} {l : Nat} {xs : List D} {i j : Nat} (h : seqAt S l = some xs) (hij : i ≤ j) (hj : j ≤ xs.length) (q : Q (.ref S.length) (S ++ [.lst ((xs.drop i).take (j - i))])) : primW g (.slc true true) [.ref l, .int (i : Nat), .int (j : Nat)] S Q := by
  have e : cutD xs (some (i : Int)) (some (j : Int)) = (xs.drop i).take (j - i) := by
    unfold cutD
    rw [HT.sIx_nat, HT.sIx_nat, Nat.min_eq_left (show i ≤ xs.length by omega), Nat.min_eq_left hj]
  unfold primW primR slcR
  simp only [h, newL, e]
  exact ⟨trivial, q⟩
theorem p_sliceT3 {g : Bool} {S : Store} {Q : Post} {a b c d : D} (q : Q (.tup [a, b, c]) S) : primW g (.slc false true) [.tup [a, b, c, d], .int 3] S Q := by
  unfold primW primR slcR
  have e : cutD [a, b, c, d] none (some 3) = [a, b, c] := rfl
  have h : ¬ (HT.sIx [a, b, c, d].length 0 none = 0 ∧ HT.sIx [a, b, c, d].length [a, b, c, d].length (some 3) = [a, b, c, d].length) := by
    show ¬ (0 = 0 ∧ min 3 4 = 4)
    decide
  simp only [if_neg h, e]
  exact ⟨trivial, q⟩
def stS2 (r : Nat) (a b : Int × Int) (L : Nat) (z5 z6 z8 z9 z10 : Option D) : Sd := [some (.ref r), some (ptD a), some (ptD b), some (.ref L), none, z5, z6, none, z8, z9, z10, none]
theorem sp_start {T : Nat → Option Fn} {k : Nat} (H : HasLaw T) (r n : Nat) (S : Store) (hp : Pool S r n) (hn : n ≤ 2 ^ 29) :
    wpF T (k + 6) 39 [.ref r] S (fun d S1 => StO S.length d S1 ∧ GrX r S S1 ∧ Pool S1 r (n + 20)) fun _ _ => False := by
  have sz : (20 : Nat) ≤ sizeLine := by decide
  rw [wF H.h39]
  refine ⟨rfl, ?_⟩
  simp only [f_law_start, sd_cons, sd_nil, sd_zero, List.length_cons, List.length_nil, Nat.reduceAdd, Nat.zero_add]
  refine cutS (wpF_mono _ _) (fun σ S1 => ∃ x y : Int, σ = [some (.ref r), some (.tup [.int x, .int y]), none, none, none, none, none, none, none, none, none, none] ∧ Bd 3 x ∧ Bd 3 y ∧ GrX r S S1 ∧ Pool S1 r (n + 2)) ?_ fun σ S1 h => ?_
  · simp only [sd_cons, sd_nil, sd_zero, List.length_cons, List.length_nil, w_var, w_const, w_glob, w_prim, w_meth, w_cut, w_not, w_and, w_or, w_one, w_ite, w_chain, w_call, w_callk, wa_nil, wa_cons, wt_name, wt_tup, wts_nil, wts_cons, wt_sub, ws_nil, ws_cons, w_expr, w_asg, w_setc, w_par2, w_par3, w_aug, w_ret, w_retN, w_ifs, w_never, seqD_tup, tgsLen, p_add, p_sub, p_mul, p_div, p_mod, p_pow, p_neg, p_eq, p_ne, p_lt, p_le, p_gt, p_ge, p_abs, p_int, p_max, p_min, p_tup, p_lst, p_ixT, p_lenT, truth_bl, onV_some, onB_some, onN_some, onD_bl, onO_some, onL_some, on2_eq, on3_eq, onC_nil, onC_one, onAug_sub, onAug_add, onAug_mul, List.getElem?_cons_zero, List.getElem?_cons_succ, List.set_cons_zero, List.set_cons_succ, wipeD, List.map_cons, List.map_nil, true_and, and_true, decide_eq_true_eq, Bool.not_eq_true', decide_eq_false_iff_not, Nat.reduceAdd, Nat.zero_add, atI_0, atI_1, atI_2, p_eqT2, p_neT2, p_isT, p_isI, p_isB, reduceIte, reduceCtorEq, Int.cast_ofNat_Int, not_true_eq_false, not_false_eq_true, eq_self, if_false, if_true, Bool.true_eq_false, Bool.false_eq_true, Bool.not_true, Bool.not_false, Bool.and_true, Bool.true_and, Bool.and_false, Bool.false_and, p_inT2, p_neS, p_eqS]
    refine use (sp_draw H.h1 r n 9 S hp (by omega) (by decide) (by decide)) fun d S1 hd => ?_
    obtain ⟨v1, rfl, a1, b1, g1, p1⟩ := hd
    simp only [sd_cons, sd_nil, sd_zero, List.length_cons, List.length_nil, w_var, w_const, w_glob, w_prim, w_meth, w_cut, w_not, w_and, w_or, w_one, w_ite, w_chain, w_call, w_callk, wa_nil, wa_cons, wt_name, wt_tup, wts_nil, wts_cons, wt_sub, ws_nil, ws_cons, w_expr, w_asg, w_setc, w_par2, w_par3, w_aug, w_ret, w_retN, w_ifs, w_never, seqD_tup, tgsLen, p_add, p_sub, p_mul, p_div, p_mod, p_pow, p_neg, p_eq, p_ne, p_lt, p_le, p_gt, p_ge, p_abs, p_int, p_max, p_min, p_tup, p_lst, p_ixT, p_lenT, truth_bl, onV_some, onB_some, onN_some, onD_bl, onO_some, onL_some, on2_eq, on3_eq, onC_nil, onC_one, onAug_sub, onAug_add, onAug_mul, List.getElem?_cons_zero, List.getElem?_cons_succ, List.set_cons_zero, List.set_cons_succ, wipeD, List.map_cons, List.map_nil, true_and, and_true, decide_eq_true_eq, Bool.not_eq_true', decide_eq_false_iff_not, Nat.reduceAdd, Nat.zero_add, atI_0, atI_1, atI_2, p_eqT2, p_neT2, p_isT, p_isI, p_isB, reduceIte, reduceCtorEq, Int.cast_ofNat_Int, not_true_eq_false, not_false_eq_true, eq_self, if_false, if_true, Bool.true_eq_false, Bool.false_eq_true, Bool.not_true, Bool.not_false, Bool.and_true, Bool.true_and, Bool.and_false, Bool.false_and, p_inT2, p_neS, p_eqS]
    refine use (sp_draw H.h1 r _ 2 S1 p1 (by omega) (by decide) (by decide)) fun d S2 hd => ?_
    obtain ⟨v2, rfl, a2, b2, g2, p2⟩ := hd
    simp only [sd_cons, sd_nil, sd_zero, List.length_cons, List.length_nil, w_var, w_const, w_glob, w_prim, w_meth, w_cut, w_not, w_and, w_or, w_one, w_ite, w_chain, w_call, w_callk, wa_nil, wa_cons, wt_name, wt_tup, wts_nil, wts_cons, wt_sub, ws_nil, ws_cons, w_expr, w_asg, w_setc, w_par2, w_par3, w_aug, w_ret, w_retN, w_ifs, w_never, seqD_tup, tgsLen, p_add, p_sub, p_mul, p_div, p_mod, p_pow, p_neg, p_eq, p_ne, p_lt, p_le, p_gt, p_ge, p_abs, p_int, p_max, p_min, p_tup, p_lst, p_ixT, p_lenT, truth_bl, onV_some, onB_some, onN_some, onD_bl, onO_some, onL_some, on2_eq, on3_eq, onC_nil, onC_one, onAug_sub, onAug_add, onAug_mul, List.getElem?_cons_zero, List.getElem?_cons_succ, List.set_cons_zero, List.set_cons_succ, wipeD, List.map_cons, List.map_nil, true_and, and_true, decide_eq_true_eq, Bool.not_eq_true', decide_eq_false_iff_not, Nat.reduceAdd, Nat.zero_add, atI_0, atI_1, atI_2, p_eqT2, p_neT2, p_isT, p_isI, p_isB, reduceIte, reduceCtorEq, Int.cast_ofNat_Int, not_true_eq_false, not_false_eq_true, eq_self, if_false, if_true, Bool.true_eq_false, Bool.false_eq_true, Bool.not_true, Bool.not_false, Bool.and_true, Bool.true_and, Bool.and_false, Bool.false_and, p_inT2, p_neS, p_eqS]
    exact ⟨by decide, _, _, rfl, Bd.of (by omega) (by omega), Bd.of (by omega) (by omega), g1.trans g2, p2⟩
  obtain ⟨x, y, rfl, bx, by', g1, p1⟩ := h
  refine cutS (wpF_mono _ _) (fun σ S2 => ∃ u v : Int, σ = [some (.ref r), some (.tup [.int x, .int y]), some (.tup [.int u, .int v]), none, none, none, none, none, none, none, none, none] ∧ Bd 3 u ∧ Bd 3 v ∧ GrX r S S2 ∧ Pool S2 r (n + 4)) ?_ fun σ S2 h => ?_
  · simp only [sd_cons, sd_nil, sd_zero, List.length_cons, List.length_nil, w_var, w_const, w_glob, w_prim, w_meth, w_cut, w_not, w_and, w_or, w_one, w_ite, w_chain, w_call, w_callk, wa_nil, wa_cons, wt_name, wt_tup, wts_nil, wts_cons, wt_sub, ws_nil, ws_cons, w_expr, w_asg, w_setc, w_par2, w_par3, w_aug, w_ret, w_retN, w_ifs, w_never, seqD_tup, tgsLen, p_add, p_sub, p_mul, p_div, p_mod, p_pow, p_neg, p_eq, p_ne, p_lt, p_le, p_gt, p_ge, p_abs, p_int, p_max, p_min, p_tup, p_lst, p_ixT, p_lenT, truth_bl, onV_some, onB_some, onN_some, onD_bl, onO_some, onL_some, on2_eq, on3_eq, onC_nil, onC_one, onAug_sub, onAug_add, onAug_mul, List.getElem?_cons_zero, List.getElem?_cons_succ, List.set_cons_zero, List.set_cons_succ, wipeD, List.map_cons, List.map_nil, true_and, and_true, decide_eq_true_eq, Bool.not_eq_true', decide_eq_false_iff_not, Nat.reduceAdd, Nat.zero_add, atI_0, atI_1, atI_2, p_eqT2, p_neT2, p_isT, p_isI, p_isB, reduceIte, reduceCtorEq, Int.cast_ofNat_Int, not_true_eq_false, not_false_eq_true, eq_self, if_false, if_true, Bool.true_eq_false, Bool.false_eq_true, Bool.not_true, Bool.not_false, Bool.and_true, Bool.true_and, Bool.and_false, Bool.false_and, p_inT2, p_neS, p_eqS]
    refine use (sp_draw H.h1 r _ 9 S1 p1 (by omega) (by decide) (by decide)) fun d S2 hd => ?_
    obtain ⟨v1, rfl, a1, b1, g2, p2⟩ := hd
    simp only [sd_cons, sd_nil, sd_zero, List.length_cons, List.length_nil, w_var, w_const, w_glob, w_prim, w_meth, w_cut, w_not, w_and, w_or, w_one, w_ite, w_chain, w_call, w_callk, wa_nil, wa_cons, wt_name, wt_tup, wts_nil, wts_cons, wt_sub, ws_nil, ws_cons, w_expr, w_asg, w_setc, w_par2, w_par3, w_aug, w_ret, w_retN, w_ifs, w_never, seqD_tup, tgsLen, p_add, p_sub, p_mul, p_div, p_mod, p_pow, p_neg, p_eq, p_ne, p_lt, p_le, p_gt, p_ge, p_abs, p_int, p_max, p_min, p_tup, p_lst, p_ixT, p_lenT, truth_bl, onV_some, onB_some, onN_some, onD_bl, onO_some, onL_some, on2_eq, on3_eq, onC_nil, onC_one, onAug_sub, onAug_add, onAug_mul, List.getElem?_cons_zero, List.getElem?_cons_succ, List.set_cons_zero, List.set_cons_succ, wipeD, List.map_cons, List.map_nil, true_and, and_true, decide_eq_true_eq, Bool.not_eq_true', decide_eq_false_iff_not, Nat.reduceAdd, Nat.zero_add, atI_0, atI_1, atI_2, p_eqT2, p_neT2, p_isT, p_isI, p_isB, reduceIte, reduceCtorEq, Int.cast_ofNat_Int, not_true_eq_false, not_false_eq_true, eq_self, if_false, if_true, Bool.true_eq_false, Bool.false_eq_true, Bool.not_true, Bool.not_false, Bool.and_true, Bool.true_and, Bool.and_false, Bool.false_and, p_inT2, p_neS, p_eqS]
    refine use (sp_draw H.h1 r _ 3 S2 p2 (by omega) (by decide) (by decide)) fun d S3 hd => ?_
    obtain ⟨v2, rfl, a2, b2, g3, p3⟩ := hd
    simp only [sd_cons, sd_nil, sd_zero, List.length_cons, List.length_nil, w_var, w_const, w_glob, w_prim, w_meth, w_cut, w_not, w_and, w_or, w_one, w_ite, w_chain, w_call, w_callk, wa_nil, wa_cons, wt_name, wt_tup, wts_nil, wts_cons, wt_sub, ws_nil, ws_cons, w_expr, w_asg, w_setc, w_par2, w_par3, w_aug, w_ret, w_retN, w_ifs, w_never, seqD_tup, tgsLen, p_add, p_sub, p_mul, p_div, p_mod, p_pow, p_neg, p_eq, p_ne, p_lt, p_le, p_gt, p_ge, p_abs, p_int, p_max, p_min, p_tup, p_lst, p_ixT, p_lenT, truth_bl, onV_some, onB_some, onN_some, onD_bl, onO_some, onL_some, on2_eq, on3_eq, onC_nil, onC_one, onAug_sub, onAug_add, onAug_mul, List.getElem?_cons_zero, List.getElem?_cons_succ, List.set_cons_zero, List.set_cons_succ, wipeD, List.map_cons, List.map_nil, true_and, and_true, decide_eq_true_eq, Bool.not_eq_true', decide_eq_false_iff_not, Nat.reduceAdd, Nat.zero_add, atI_0, atI_1, atI_2, p_eqT2, p_neT2, p_isT, p_isI, p_isB, reduceIte, reduceCtorEq, Int.cast_ofNat_Int, not_true_eq_false, not_false_eq_true, eq_self, if_false, if_true, Bool.true_eq_false, Bool.false_eq_true, Bool.not_true, Bool.not_false, Bool.and_true, Bool.true_and, Bool.and_false, Bool.false_and, p_inT2, p_neS, p_eqS]
    exact ⟨by decide, _, _, rfl, Bd.of (by omega) (by omega), Bd.of (by omega) (by omega), (g1.trans g2).trans g3, p3⟩
  clear g1 p1
  obtain ⟨u, v, rfl, bu, bv, g1, p1⟩ := h
  refine cutS (wpF_mono _ _) (fun σ S3 => ∃ a b : Int × Int, σ = [some (.ref r), some (ptD a), some (ptD b), none, none, none, none, none, none, none, none, none] ∧ PtP a ∧ PtP b ∧ BdP 3 a ∧ BdP 3 b ∧ S3 = S2) ?_ fun σ S3 h => ?_
  · simp only [sd_cons, sd_nil, sd_zero, List.length_cons, List.length_nil, w_var, w_const, w_glob, w_prim, w_meth, w_cut, w_not, w_and, w_or, w_one, w_ite, w_chain, w_call, w_callk, wa_nil, wa_cons, wt_name, wt_tup, wts_nil, wts_cons, wt_sub, ws_nil, ws_cons, w_expr, w_asg, w_setc, w_par2, w_par3, w_aug, w_ret, w_retN, w_ifs, w_never, seqD_tup, tgsLen, p_add, p_sub, p_mul, p_div, p_mod, p_pow, p_neg, p_eq, p_ne, p_lt, p_le, p_gt, p_ge, p_abs, p_int, p_max, p_min, p_tup, p_lst, p_ixT, p_lenT, truth_bl, onV_some, onB_some, onN_some, onD_bl, onO_some, onL_some, on2_eq, on3_eq, onC_nil, onC_one, onAug_sub, onAug_add, onAug_mul, List.getElem?_cons_zero, List.getElem?_cons_succ, List.set_cons_zero, List.set_cons_succ, wipeD, List.map_cons, List.map_nil, true_and, and_true, decide_eq_true_eq, Bool.not_eq_true', decide_eq_false_iff_not, Nat.reduceAdd, Nat.zero_add, atI_0, atI_1, atI_2, p_eqT2, p_neT2, p_isT, p_isI, p_isB, reduceIte, reduceCtorEq, Int.cast_ofNat_Int, not_true_eq_false, not_false_eq_true, eq_self, if_false, if_true, Bool.true_eq_false, Bool.false_eq_true, Bool.not_true, Bool.not_false, Bool.and_true, Bool.true_and, Bool.and_false, Bool.false_and, p_inT2, p_neS, p_eqS]
    refine use (sp_law_low H.h10 x y S2 (bx.mono (by decide)) (by'.mono (by decide))) fun d S3 hd => ?_
    obtain ⟨rfl, rfl⟩ := hd
    refine use (sp_law_low H.h10 u v S3 (bu.mono (by decide)) (bv.mono (by decide))) fun d S4 hd => ?_
    obtain ⟨rfl, rfl⟩ := hd
    exact ⟨_, _, rfl, Pt.of _ _, Pt.of _ _, ptOf_bd (by decide) bx by', ptOf_bd (by decide) bu bv, rfl⟩
  obtain ⟨a, b, rfl, pa, pb, ba, bb, rfl⟩ := h
  refine cutS (wpF_mono _ _) (fun σ S4 => ∃ L, ∃ ns : List Int, σ = stS2 r a b L none none none none none ∧ ns.length = 5 ∧ (∀ z ∈ ns, Bd 3 z) ∧ GrX r S S4 ∧ Pool S4 r (n + 9) ∧ L ≠ r ∧ S4[L]? = some (.lst (ns.map D.int))) ?_ fun σ S4 h => ?_
  · simp only [w_setc]
    refine wp_draws (N := 5) (b := 3) (wpF_mono _ _) (by decide) p1 (fun v S5 m hm hm2 => ?_) fun ns S5 h5 hb g5 p5 e5 => ?_
    · simp only [sd_cons, sd_nil, sd_zero, List.length_cons, List.length_nil, w_var, w_const, w_glob, w_prim, w_meth, w_cut, w_not, w_and, w_or, w_one, w_ite, w_chain, w_call, w_callk, wa_nil, wa_cons, wt_name, wt_tup, wts_nil, wts_cons, wt_sub, ws_nil, ws_cons, w_expr, w_asg, w_setc, w_par2, w_par3, w_aug, w_ret, w_retN, w_ifs, w_never, seqD_tup, tgsLen, p_add, p_sub, p_mul, p_div, p_mod, p_pow, p_neg, p_eq, p_ne, p_lt, p_le, p_gt, p_ge, p_abs, p_int, p_max, p_min, p_tup, p_lst, p_ixT, p_lenT, truth_bl, onV_some, onB_some, onN_some, onD_bl, onO_some, onL_some, on2_eq, on3_eq, onC_nil, onC_one, onAug_sub, onAug_add, onAug_mul, List.getElem?_cons_zero, List.getElem?_cons_succ, List.set_cons_zero, List.set_cons_succ, wipeD, List.map_cons, List.map_nil, true_and, and_true, decide_eq_true_eq, Bool.not_eq_true', decide_eq_false_iff_not, Nat.reduceAdd, Nat.zero_add, atI_0, atI_1, atI_2, p_eqT2, p_neT2, p_isT, p_isI, p_isB, reduceIte, reduceCtorEq, Int.cast_ofNat_Int, not_true_eq_false, not_false_eq_true, eq_self, if_false, if_true, Bool.true_eq_false, Bool.false_eq_true, Bool.not_true, Bool.not_false, Bool.and_true, Bool.true_and, Bool.and_false, Bool.false_and, p_inT2, p_neS, p_eqS]
      refine use (sp_draw H.h1 r _ 7 S5 hm (by omega) (by decide) (by decide)) fun d S6 hd => ?_
      obtain ⟨v1, rfl, a1, b1, g2, p2⟩ := hd
      simp only [sd_cons, sd_nil, sd_zero, List.length_cons, List.length_nil, w_var, w_const, w_glob, w_prim, w_meth, w_cut, w_not, w_and, w_or, w_one, w_ite, w_chain, w_call, w_callk, wa_nil, wa_cons, wt_name, wt_tup, wts_nil, wts_cons, wt_sub, ws_nil, ws_cons, w_expr, w_asg, w_setc, w_par2, w_par3, w_aug, w_ret, w_retN, w_ifs, w_never, seqD_tup, tgsLen, p_add, p_sub, p_mul, p_div, p_mod, p_pow, p_neg, p_eq, p_ne, p_lt, p_le, p_gt, p_ge, p_abs, p_int, p_max, p_min, p_tup, p_lst, p_ixT, p_lenT, truth_bl, onV_some, onB_some, onN_some, onD_bl, onO_some, onL_some, on2_eq, on3_eq, onC_nil, onC_one, onAug_sub, onAug_add, onAug_mul, List.getElem?_cons_zero, List.getElem?_cons_succ, List.set_cons_zero, List.set_cons_succ, wipeD, List.map_cons, List.map_nil, true_and, and_true, decide_eq_true_eq, Bool.not_eq_true', decide_eq_false_iff_not, Nat.reduceAdd, Nat.zero_add, atI_0, atI_1, atI_2, p_eqT2, p_neT2, p_isT, p_isI, p_isB, reduceIte, reduceCtorEq, Int.cast_ofNat_Int, not_true_eq_false, not_false_eq_true, eq_self, if_false, if_true, Bool.true_eq_false, Bool.false_eq_true, Bool.not_true, Bool.not_false, Bool.and_true, Bool.true_and, Bool.and_false, Bool.false_and, p_inT2, p_neS, p_eqS]
      exact ⟨⟨_, rfl, Bd.of (by omega) (by omega)⟩, g2, p2⟩
    · exact ⟨_, ns, rfl, h5, hb, g1.trans g5, p5, by have := p1.lt; omega, e5⟩
  clear g1 p1
  obtain ⟨L, ns, rfl, h5, hb, g1, p1, hL, e1⟩ := h
  refine cutS (wpF_mono _ _) (fun σ S5 => ∃ sc : Int, σ = stS2 r a b L (some (.int sc)) none none none none ∧ Bd 12 sc ∧ S5 = S4) ?_ fun σ S5 h => ?_
  · obtain ⟨a1, a2⟩ := a
    obtain ⟨b1, b2⟩ := b
    simp only [stS2, ptD, sd_cons, sd_nil, sd_zero, List.length_cons, List.length_nil, w_var, w_const, w_glob, w_prim, w_meth, w_cut, w_not, w_and, w_or, w_one, w_ite, w_chain, w_call, w_callk, wa_nil, wa_cons, wt_name, wt_tup, wts_nil, wts_cons, wt_sub, ws_nil, ws_cons, w_expr, w_asg, w_setc, w_par2, w_par3, w_aug, w_ret, w_retN, w_ifs, w_never, seqD_tup, tgsLen, p_add, p_sub, p_mul, p_div, p_mod, p_pow, p_neg, p_eq, p_ne, p_lt, p_le, p_gt, p_ge, p_abs, p_int, p_max, p_min, p_tup, p_lst, p_ixT, p_lenT, truth_bl, onV_some, onB_some, onN_some, onD_bl, onO_some, onL_some, on2_eq, on3_eq, onC_nil, onC_one, onAug_sub, onAug_add, onAug_mul, List.getElem?_cons_zero, List.getElem?_cons_succ, List.set_cons_zero, List.set_cons_succ, wipeD, List.map_cons, List.map_nil, true_and, and_true, decide_eq_true_eq, Bool.not_eq_true', decide_eq_false_iff_not, Nat.reduceAdd, Nat.zero_add, atI_0, atI_1, atI_2, p_eqT2, p_neT2, p_isT, p_isI, p_isB, reduceIte, reduceCtorEq, Int.cast_ofNat_Int, not_true_eq_false, not_false_eq_true, eq_self, if_false, if_true, Bool.true_eq_false, Bool.false_eq_true, Bool.not_true, Bool.not_false, Bool.and_true, Bool.true_and, Bool.and_false, Bool.false_and, p_inT2, p_neS, p_eqS]
    have bm := ba.2.mul bb.2
    exact ⟨ba.2.mulOk bb.2 (by decide) (by decide), ⟨by decide, bm.powOk (by decide) (by decide)⟩, _, rfl, bm.sq⟩
  obtain ⟨sc, rfl, bsc, rfl⟩ := h
  refine cutS (wpF_mono _ _) (fun σ S6 => ∃ la : Int, σ = stS2 r a b L (some (.int sc)) (some (.int la)) none none none ∧ Bd 20 la ∧ Gr S5 S6) ?_ fun σ S6 h => ?_
  · simp only [stS2, sd_cons, sd_nil, sd_zero, List.length_cons, List.length_nil, w_var, w_const, w_glob, w_prim, w_meth, w_cut, w_not, w_and, w_or, w_one, w_ite, w_chain, w_call, w_callk, wa_nil, wa_cons, wt_name, wt_tup, wts_nil, wts_cons, wt_sub, ws_nil, ws_cons, w_expr, w_asg, w_setc, w_par2, w_par3, w_aug, w_ret, w_retN, w_ifs, w_never, seqD_tup, tgsLen, p_add, p_sub, p_mul, p_div, p_mod, p_pow, p_neg, p_eq, p_ne, p_lt, p_le, p_gt, p_ge, p_abs, p_int, p_max, p_min, p_tup, p_lst, p_ixT, p_lenT, truth_bl, onV_some, onB_some, onN_some, onD_bl, onO_some, onL_some, on2_eq, on3_eq, onC_nil, onC_one, onAug_sub, onAug_add, onAug_mul, List.getElem?_cons_zero, List.getElem?_cons_succ, List.set_cons_zero, List.set_cons_succ, wipeD, List.map_cons, List.map_nil, true_and, and_true, decide_eq_true_eq, Bool.not_eq_true', decide_eq_false_iff_not, Nat.reduceAdd, Nat.zero_add, atI_0, atI_1, atI_2, p_eqT2, p_neT2, p_isT, p_isI, p_isB, reduceIte, reduceCtorEq, Int.cast_ofNat_Int, not_true_eq_false, not_false_eq_true, eq_self, if_false, if_true, Bool.true_eq_false, Bool.false_eq_true, Bool.not_true, Bool.not_false, Bool.and_true, Bool.true_and, Bool.and_false, Bool.false_and, p_inT2, p_neS, p_eqS]
    refine ⟨by decide, ?_⟩
    have gp := Gr.push S5 (O.lst [.int 0])
    refine p_cat (gp _ _ e1) (gP _ _) (by rw [List.length_map, h5]; exact Nat.le_trans (show 5 + 1 ≤ 20 by decide) sz) ?_
    have gq := Gr.push (S5 ++ [O.lst [.int 0]]) (O.lst (ns.map D.int ++ [D.int 0]))
    have eq := gP (S5 ++ [O.lst [.int 0]]) (O.lst (ns.map D.int ++ [D.int 0]))
    have em : ns.map D.int ++ [D.int 0] = (ns ++ [0]).map D.int := by simp
    rw [em] at eq gq ⊢
    have b6 : ∀ z ∈ ns ++ [0], Bd 3 z := fun z hz => by
      rcases List.mem_append.mp hz with hz | hz
      · exact hb z hz
      · rw [List.mem_singleton.mp hz]; exact Bd.of (by decide) (by decide)
    have l6 : (ns ++ [0]).length = 6 := by simp [h5]
    refine use (sp_at (k := k + 4) H.h31 (ns ++ [0]) l6 a.1 a.2 b.1 b.2 _ _ (seqAt_lst eq) (by decide) (by decide) b6 ba.1 ba.2 bb.1 bb.2) fun d S7 hd => ?_
    obtain ⟨rfl, g7⟩ := hd
    simp only [sd_cons, sd_nil, sd_zero, List.length_cons, List.length_nil, w_var, w_const, w_glob, w_prim, w_meth, w_cut, w_not, w_and, w_or, w_one, w_ite, w_chain, w_call, w_callk, wa_nil, wa_cons, wt_name, wt_tup, wts_nil, wts_cons, wt_sub, ws_nil, ws_cons, w_expr, w_asg, w_setc, w_par2, w_par3, w_aug, w_ret, w_retN, w_ifs, w_never, seqD_tup, tgsLen, p_add, p_sub, p_mul, p_div, p_mod, p_pow, p_neg, p_eq, p_ne, p_lt, p_le, p_gt, p_ge, p_abs, p_int, p_max, p_min, p_tup, p_lst, p_ixT, p_lenT, truth_bl, onV_some, onB_some, onN_some, onD_bl, onO_some, onL_some, on2_eq, on3_eq, onC_nil, onC_one, onAug_sub, onAug_add, onAug_mul, List.getElem?_cons_zero, List.getElem?_cons_succ, List.set_cons_zero, List.set_cons_succ, wipeD, List.map_cons, List.map_nil, true_and, and_true, decide_eq_true_eq, Bool.not_eq_true', decide_eq_false_iff_not, Nat.reduceAdd, Nat.zero_add, atI_0, atI_1, atI_2, p_eqT2, p_neT2, p_isT, p_isI, p_isB, reduceIte, reduceCtorEq, Int.cast_ofNat_Int, not_true_eq_false, not_false_eq_true, eq_self, if_false, if_true, Bool.true_eq_false, Bool.false_eq_true, Bool.not_true, Bool.not_false, Bool.and_true, Bool.true_and, Bool.and_false, Bool.false_and, p_inT2, p_neS, p_eqS]
    have z0 : Bd 0 (0 : Int) := Bd.of (by decide) (by decide)
    exact ⟨_, rfl, (z0.sub (atV_bd l6 b6 ba.1 ba.2 bb.1 bb.2)).mono (by decide), (gp.trans gq).trans g7⟩
  obtain ⟨la, rfl, bla, g6⟩ := h
  have e6 := g6 _ _ e1
  have p6 := p1.gr g6
  refine cutS (wpF_mono _ _) (fun σ S7 => ∃ L2, ∃ ms : List Int, σ = stS2 r a b L2 (some (.int sc)) (some (.int la)) none none none ∧ ms.length = 6 ∧ (∀ z ∈ ms, Bd 20 z) ∧ Gr S6 S7 ∧ L2 ≠ r ∧ S7[L2]? = some (.lst (ms.map D.int))) ?_ fun σ S7 h => ?_
  · simp only [stS2, w_asg, w_prim, wa_cons, wa_nil]
    refine wp_comp (wpF_mono _ _) ?_
    simp only [sd_cons, sd_nil, sd_zero, List.length_cons, List.length_nil, w_var, w_const, w_glob, w_prim, w_meth, w_cut, w_not, w_and, w_or, w_one, w_ite, w_chain, w_call, w_callk, wa_nil, wa_cons, wt_name, wt_tup, wts_nil, wts_cons, wt_sub, ws_nil, ws_cons, w_expr, w_asg, w_setc, w_par2, w_par3, w_aug, w_ret, w_retN, w_ifs, w_never, seqD_tup, tgsLen, p_add, p_sub, p_mul, p_div, p_mod, p_pow, p_neg, p_eq, p_ne, p_lt, p_le, p_gt, p_ge, p_abs, p_int, p_max, p_min, p_tup, p_lst, p_ixT, p_lenT, truth_bl, onV_some, onB_some, onN_some, onD_bl, onO_some, onL_some, on2_eq, on3_eq, onC_nil, onC_one, onAug_sub, onAug_add, onAug_mul, List.getElem?_cons_zero, List.getElem?_cons_succ, List.set_cons_zero, List.set_cons_succ, wipeD, List.map_cons, List.map_nil, true_and, and_true, decide_eq_true_eq, Bool.not_eq_true', decide_eq_false_iff_not, Nat.reduceAdd, Nat.zero_add, atI_0, atI_1, atI_2, p_eqT2, p_neT2, p_isT, p_isI, p_isB, reduceIte, reduceCtorEq, Int.cast_ofNat_Int, not_true_eq_false, not_false_eq_true, eq_self, if_false, if_true, Bool.true_eq_false, Bool.false_eq_true, Bool.not_true, Bool.not_false, Bool.and_true, Bool.true_and, Bool.and_false, Bool.false_and, p_inT2, p_neS, p_eqS, iterR, seqD_ref, seqAt_lst e6, holdOf]
    refine ⟨_, _, rfl, trivial, ok_one (seqAt_lst e6), (by rw [List.length_map, h5]; exact Nat.le_trans (by decide) sz), fun d => match d with
      | .int z => some (.int (sc * z))
      | _ => none, fun i d S8 hd hg => ?_, fun S8 hg h8 => ?_⟩
    · obtain ⟨z, hz, rfl⟩ := get_int' hd
      simp only [sd_cons, sd_nil, sd_zero, List.length_cons, List.length_nil, w_var, w_const, w_glob, w_prim, w_meth, w_cut, w_not, w_and, w_or, w_one, w_ite, w_chain, w_call, w_callk, wa_nil, wa_cons, wt_name, wt_tup, wts_nil, wts_cons, wt_sub, ws_nil, ws_cons, w_expr, w_asg, w_setc, w_par2, w_par3, w_aug, w_ret, w_retN, w_ifs, w_never, seqD_tup, tgsLen, p_add, p_sub, p_mul, p_div, p_mod, p_pow, p_neg, p_eq, p_ne, p_lt, p_le, p_gt, p_ge, p_abs, p_int, p_max, p_min, p_tup, p_lst, p_ixT, p_lenT, truth_bl, onV_some, onB_some, onN_some, onD_bl, onO_some, onL_some, on2_eq, on3_eq, onC_nil, onC_one, onAug_sub, onAug_add, onAug_mul, List.getElem?_cons_zero, List.getElem?_cons_succ, List.set_cons_zero, List.set_cons_succ, wipeD, List.map_cons, List.map_nil, true_and, and_true, decide_eq_true_eq, Bool.not_eq_true', decide_eq_false_iff_not, Nat.reduceAdd, Nat.zero_add, atI_0, atI_1, atI_2, p_eqT2, p_neT2, p_isT, p_isI, p_isB, reduceIte, reduceCtorEq, Int.cast_ofNat_Int, not_true_eq_false, not_false_eq_true, eq_self, if_false, if_true, Bool.true_eq_false, Bool.false_eq_true, Bool.not_true, Bool.not_false, Bool.and_true, Bool.true_and, Bool.and_false, Bool.false_and, p_inT2, p_neS, p_eqS]
      exact ⟨bsc.mulOk (hb z hz) (by decide) (by decide), Gr.refl _⟩
    · have h8 := h8.trans (congrArg (fun z => some (O.lst z)) (map_some (fun z : Int => sc * z) _ D.int D.int (fun a => rfl) ns))
      have l5 : (ns.map fun z : Int => sc * z).length = 5 := by simp [h5]
      have b5 : ∀ z ∈ ns.map (fun z : Int => sc * z), Bd 20 z := fun z hz => by
        obtain ⟨w, hw, rfl⟩ := List.mem_map.mp hz
        exact (bsc.mul (hb w hw)).mono (by decide)
      generalize (ns.map fun z : Int => sc * z) = ms at h8 l5 b5
      refine ⟨by decide, ?_⟩
      have gp := Gr.push S8 (O.lst [.int la])
      refine p_cat (gp _ _ h8) (gP _ _) (by rw [List.length_map, l5]; exact Nat.le_trans (show 5 + 1 ≤ 20 by decide) sz) ?_
      have em : ms.map D.int ++ [D.int la] = (ms ++ [la]).map D.int := by simp
      rw [em]
      refine ⟨_, ms ++ [la], rfl, by simp [l5], fun z hz => ?_, (hg.trans gp).trans (Gr.push _ _), ?_, gP _ _⟩
      · rcases List.mem_append.mp hz with hz | hz
        · exact b5 z hz
        · rw [List.mem_singleton.mp hz]; exact bla
      · have := (p6.gr hg).lt
        simp only [List.length_append, List.length_cons, List.length_nil]
        omega
  clear e6 e1 hb h5
  obtain ⟨L2, ms, rfl, l6, b6, g7, hL2, e7⟩ := h
  have g17 := g1.trans ((g6.trans g7).x r)
  have p7 := p6.gr g7
  clear g1 g6 g7 p1 p6
  refine cutS (wpF_mono _ _) (fun σ S8 => σ = stS2 r a b L2 (some (.int sc)) (some (.int la)) none none none ∧ GrX r S S8 ∧ Pool S8 r (n + 10)) ?_ fun σ S8 h => ?_
  · simp only [stS2, sd_cons, sd_nil, sd_zero, List.length_cons, List.length_nil, w_var, w_const, w_glob, w_prim, w_meth, w_cut, w_not, w_and, w_or, w_one, w_ite, w_chain, w_call, w_callk, wa_nil, wa_cons, wt_name, wt_tup, wts_nil, wts_cons, wt_sub, ws_nil, ws_cons, w_expr, w_asg, w_setc, w_par2, w_par3, w_aug, w_ret, w_retN, w_ifs, w_never, seqD_tup, tgsLen, p_add, p_sub, p_mul, p_div, p_mod, p_pow, p_neg, p_eq, p_ne, p_lt, p_le, p_gt, p_ge, p_abs, p_int, p_max, p_min, p_tup, p_lst, p_ixT, p_lenT, truth_bl, onV_some, onB_some, onN_some, onD_bl, onO_some, onL_some, on2_eq, on3_eq, onC_nil, onC_one, onAug_sub, onAug_add, onAug_mul, List.getElem?_cons_zero, List.getElem?_cons_succ, List.set_cons_zero, List.set_cons_succ, wipeD, List.map_cons, List.map_nil, true_and, and_true, decide_eq_true_eq, Bool.not_eq_true', decide_eq_false_iff_not, Nat.reduceAdd, Nat.zero_add, atI_0, atI_1, atI_2, p_eqT2, p_neT2, p_isT, p_isI, p_isB, reduceIte, reduceCtorEq, Int.cast_ofNat_Int, not_true_eq_false, not_false_eq_true, eq_self, if_false, if_true, Bool.true_eq_false, Bool.false_eq_true, Bool.not_true, Bool.not_false, Bool.and_true, Bool.true_and, Bool.and_false, Bool.false_and, p_inT2, p_neS, p_eqS]
    refine use (sp_draw H.h1 r _ 4 S7 p7 (by omega) (by decide) (by decide)) fun d S8 hd => ?_
    obtain ⟨w, rfl, a1, b1, g8, p8⟩ := hd
    have e8 := g8 _ _ hL2 e7
    have g18 := g17.trans g8
    simp only [sd_cons, sd_nil, sd_zero, List.length_cons, List.length_nil, w_var, w_const, w_glob, w_prim, w_meth, w_cut, w_not, w_and, w_or, w_one, w_ite, w_chain, w_call, w_callk, wa_nil, wa_cons, wt_name, wt_tup, wts_nil, wts_cons, wt_sub, ws_nil, ws_cons, w_expr, w_asg, w_setc, w_par2, w_par3, w_aug, w_ret, w_retN, w_ifs, w_never, seqD_tup, tgsLen, p_add, p_sub, p_mul, p_div, p_mod, p_pow, p_neg, p_eq, p_ne, p_lt, p_le, p_gt, p_ge, p_abs, p_int, p_max, p_min, p_tup, p_lst, p_ixT, p_lenT, truth_bl, onV_some, onB_some, onN_some, onD_bl, onO_some, onL_some, on2_eq, on3_eq, onC_nil, onC_one, onAug_sub, onAug_add, onAug_mul, List.getElem?_cons_zero, List.getElem?_cons_succ, List.set_cons_zero, List.set_cons_succ, wipeD, List.map_cons, List.map_nil, true_and, and_true, decide_eq_true_eq, Bool.not_eq_true', decide_eq_false_iff_not, Nat.reduceAdd, Nat.zero_add, atI_0, atI_1, atI_2, p_eqT2, p_neT2, p_isT, p_isI, p_isB, reduceIte, reduceCtorEq, Int.cast_ofNat_Int, not_true_eq_false, not_false_eq_true, eq_self, if_false, if_true, Bool.true_eq_false, Bool.false_eq_true, Bool.not_true, Bool.not_false, Bool.and_true, Bool.true_and, Bool.and_false, Bool.false_and, p_inT2, p_neS, p_eqS]
    split
    · refine ⟨by decide, ?_⟩
      have gp := Gr.push S8 (O.lst [.int 0])
      refine p_rep (xs := [.int 0]) (k := 6) (by simp) (by decide) (by decide) ?_
      have gq := Gr.push (S8 ++ [O.lst [.int 0]]) (O.lst (List.replicate 6 [D.int 0]).flatten)
      have er : ((S8 ++ [O.lst [D.int 0]]) ++ [O.lst (List.replicate 6 [D.int 0]).flatten])[(S8 ++ [O.lst [D.int 0]]).length]? = some (.lst (([0, 0, 0, 0, 0, 0] : List Int).map D.int)) := by simp
      generalize (S8 ++ [O.lst [D.int 0]]) ++ [O.lst (List.replicate 6 [D.int 0]).flatten] = S9 at gq er
      have g9 := gp.trans gq
      have e9 := g9 _ _ e8
      refine p_neL (seqAt_lst e9) (seqAt_lst er) ?_
      simp only [sd_cons, sd_nil, sd_zero, List.length_cons, List.length_nil, w_var, w_const, w_glob, w_prim, w_meth, w_cut, w_not, w_and, w_or, w_one, w_ite, w_chain, w_call, w_callk, wa_nil, wa_cons, wt_name, wt_tup, wts_nil, wts_cons, wt_sub, ws_nil, ws_cons, w_expr, w_asg, w_setc, w_par2, w_par3, w_aug, w_ret, w_retN, w_ifs, w_never, seqD_tup, tgsLen, p_add, p_sub, p_mul, p_div, p_mod, p_pow, p_neg, p_eq, p_ne, p_lt, p_le, p_gt, p_ge, p_abs, p_int, p_max, p_min, p_tup, p_lst, p_ixT, p_lenT, truth_bl, onV_some, onB_some, onN_some, onD_bl, onO_some, onL_some, on2_eq, on3_eq, onC_nil, onC_one, onAug_sub, onAug_add, onAug_mul, List.getElem?_cons_zero, List.getElem?_cons_succ, List.set_cons_zero, List.set_cons_succ, wipeD, List.map_cons, List.map_nil, true_and, and_true, decide_eq_true_eq, Bool.not_eq_true', decide_eq_false_iff_not, Nat.reduceAdd, Nat.zero_add, atI_0, atI_1, atI_2, p_eqT2, p_neT2, p_isT, p_isI, p_isB, reduceIte, reduceCtorEq, Int.cast_ofNat_Int, not_true_eq_false, not_false_eq_true, eq_self, if_false, if_true, Bool.true_eq_false, Bool.false_eq_true, Bool.not_true, Bool.not_false, Bool.and_true, Bool.true_and, Bool.and_false, Bool.false_and, p_inT2, p_neS, p_eqS]
      split
      · refine use (sp_law_is_straight (k := k + 1) H.h30 H.h31 H.h32 H.h35 H.h36 ms l6 L2 S9 (seqAt_lst e9) (fun z hz => (b6 z hz).mono (by decide))) fun d S10 hd => ?_
        obtain ⟨tv, rfl, g10, hs⟩ := hd
        have e10 := g10 _ _ e9
        have g810 := g9.trans g10
        simp only [sd_cons, sd_nil, sd_zero, List.length_cons, List.length_nil, w_var, w_const, w_glob, w_prim, w_meth, w_cut, w_not, w_and, w_or, w_one, w_ite, w_chain, w_call, w_callk, wa_nil, wa_cons, wt_name, wt_tup, wts_nil, wts_cons, wt_sub, ws_nil, ws_cons, w_expr, w_asg, w_setc, w_par2, w_par3, w_aug, w_ret, w_retN, w_ifs, w_never, seqD_tup, tgsLen, p_add, p_sub, p_mul, p_div, p_mod, p_pow, p_neg, p_eq, p_ne, p_lt, p_le, p_gt, p_ge, p_abs, p_int, p_max, p_min, p_tup, p_lst, p_ixT, p_lenT, truth_bl, onV_some, onB_some, onN_some, onD_bl, onO_some, onL_some, on2_eq, on3_eq, onC_nil, onC_one, onAug_sub, onAug_add, onAug_mul, List.getElem?_cons_zero, List.getElem?_cons_succ, List.set_cons_zero, List.set_cons_succ, wipeD, List.map_cons, List.map_nil, true_and, and_true, decide_eq_true_eq, Bool.not_eq_true', decide_eq_false_iff_not, Nat.reduceAdd, Nat.zero_add, atI_0, atI_1, atI_2, p_eqT2, p_neT2, p_isT, p_isI, p_isB, reduceIte, reduceCtorEq, Int.cast_ofNat_Int, not_true_eq_false, not_false_eq_true, eq_self, if_false, if_true, Bool.true_eq_false, Bool.false_eq_true, Bool.not_true, Bool.not_false, Bool.and_true, Bool.true_and, Bool.and_false, Bool.false_and, p_inT2, p_neS, p_eqS]
        cases tv with
        | false => simp only [Bool.false_eq_true, if_false]; exact ⟨g18.trans (g810.x r), p8.gr g810⟩
        | true =>
          simp only [if_true]
          have dq := hs rfl
          refine use (sp_law_plain (k := k + 4) H.h30 L2 ms S10 (seqAt_lst e10) (ne_of_disc l6 dq) (fun z h => (b6 z h).mono (by decide)) (by rw [l6]; exact Nat.le_trans (by decide) sz)) fun d S11 hd => ?_
          obtain ⟨q, rfl, g11, hq, e11⟩ := hd
          refine ⟨by decide, ⟨q, dvd ms, a, b, rfl, e11, ⟨by simp [dvd, l6], fun z hz => (dvd_bd b6 z hz).mono (by decide), discQ_dvd l6 dq⟩, ?_, pa, pb, ba.mono (by decide), bb.mono (by decide)⟩, (g18.trans (g810.x r)).trans (g11.x r), ((p8.gr g810).gr g11).mono (by omega)⟩
          have := g18.len p8.lt
          have := g810.len
          omega
      · exact ⟨g18.trans (g9.x r), p8.gr g9⟩
    · exact ⟨g18, p8⟩
  clear g17 p7 e7 hL2 b6 l6
  obtain ⟨rfl, g1, p1⟩ := h
  have hle := g1.len p1.lt
  refine cutS (wpF_mono _ _) (fun σ S9 => ∃ d, σ = stS2 r a b L2 (some (.int sc)) (some (.int la)) (some d) none none ∧ K4 S8.length d S9 ∧ GrX r S S9 ∧ Pool S9 r (n + 15)) ?_ fun σ S9 h => ?_
  · simp only [stS2, sd_cons, sd_nil, sd_zero, List.length_cons, List.length_nil, w_var, w_const, w_glob, w_prim, w_meth, w_cut, w_not, w_and, w_or, w_one, w_ite, w_chain, w_call, w_callk, wa_nil, wa_cons, wt_name, wt_tup, wts_nil, wts_cons, wt_sub, ws_nil, ws_cons, w_expr, w_asg, w_setc, w_par2, w_par3, w_aug, w_ret, w_retN, w_ifs, w_never, seqD_tup, tgsLen, p_add, p_sub, p_mul, p_div, p_mod, p_pow, p_neg, p_eq, p_ne, p_lt, p_le, p_gt, p_ge, p_abs, p_int, p_max, p_min, p_tup, p_lst, p_ixT, p_lenT, truth_bl, onV_some, onB_some, onN_some, onD_bl, onO_some, onL_some, on2_eq, on3_eq, onC_nil, onC_one, onAug_sub, onAug_add, onAug_mul, List.getElem?_cons_zero, List.getElem?_cons_succ, List.set_cons_zero, List.set_cons_succ, wipeD, List.map_cons, List.map_nil, true_and, and_true, decide_eq_true_eq, Bool.not_eq_true', decide_eq_false_iff_not, Nat.reduceAdd, Nat.zero_add, atI_0, atI_1, atI_2, p_eqT2, p_neT2, p_isT, p_isI, p_isB, reduceIte, reduceCtorEq, Int.cast_ofNat_Int, not_true_eq_false, not_false_eq_true, eq_self, if_false, if_true, Bool.true_eq_false, Bool.false_eq_true, Bool.not_true, Bool.not_false, Bool.and_true, Bool.true_and, Bool.and_false, Bool.false_and, p_inT2, p_neS, p_eqS]
    refine use (sp_known (k := k) H r _ S8 p1 (by omega)) fun d S9 hd => ?_
    obtain ⟨k4, g9, p9⟩ := hd
    exact ⟨d, rfl, k4, g1.trans g9, p9⟩
  obtain ⟨d, rfl, ⟨m, ks, kd, c, e, rfl, hm, kn, lm, pc, pe, bc, be⟩, g9, p9⟩ := h
  have a2' : ∀ (x y z w : D), atI [x, y, z, w] 0 = some x ∧ atI [x, y, z, w] 1 = some y ∧ atI [x, y, z, w] 2 = some z := fun x y z w => ⟨atI_nat (i := 0) (by simp), atI_nat (i := 1) (by simp), atI_nat (i := 2) (by simp)⟩
  refine cutS (wpF_mono _ _) (fun σ S10 => ∃ L3, σ = stS2 r a b L2 (some (.int sc)) (some (.int la)) (some (.tup [.ref m, ptD c, ptD e, .int kd])) (some (.ref L3)) none ∧ Gr S9 S10 ∧ S9.length ≤ L3 ∧ S10[L3]? = some (.lst ((chL ks c e 8).map ptD))) ?_ fun σ S10 h => ?_
  · simp only [stS2, sd_cons, sd_nil, sd_zero, List.length_cons, List.length_nil, w_var, w_const, w_glob, w_prim, w_meth, w_cut, w_not, w_and, w_or, w_one, w_ite, w_chain, w_call, w_callk, wa_nil, wa_cons, wt_name, wt_tup, wts_nil, wts_cons, wt_sub, ws_nil, ws_cons, w_expr, w_asg, w_setc, w_par2, w_par3, w_aug, w_ret, w_retN, w_ifs, w_never, seqD_tup, tgsLen, p_add, p_sub, p_mul, p_div, p_mod, p_pow, p_neg, p_eq, p_ne, p_lt, p_le, p_gt, p_ge, p_abs, p_int, p_max, p_min, p_tup, p_lst, p_ixT, p_lenT, truth_bl, onV_some, onB_some, onN_some, onD_bl, onO_some, onL_some, on2_eq, on3_eq, onC_nil, onC_one, onAug_sub, onAug_add, onAug_mul, List.getElem?_cons_zero, List.getElem?_cons_succ, List.set_cons_zero, List.set_cons_succ, wipeD, List.map_cons, List.map_nil, true_and, and_true, decide_eq_true_eq, Bool.not_eq_true', decide_eq_false_iff_not, Nat.reduceAdd, Nat.zero_add, atI_0, atI_1, atI_2, p_eqT2, p_neT2, p_isT, p_isI, p_isB, reduceIte, reduceCtorEq, Int.cast_ofNat_Int, not_true_eq_false, not_false_eq_true, eq_self, if_false, if_true, Bool.true_eq_false, Bool.false_eq_true, Bool.not_true, Bool.not_false, Bool.and_true, Bool.true_and, Bool.and_false, Bool.false_and, p_inT2, p_neS, p_eqS, (a2' _ _ _ _).1, (a2' _ _ _ _).2.1, (a2' _ _ _ _).2.2]
    refine use (sp_chain (k := k + 1) (N := 35) (x := 2) (n := 8) H.h10 H.h31 H.h32 H.h33 H.h34 ks kn.h6 c e m S9 (seqAt_lst hm) (by decide) (by decide) (by decide) kn.bd bc be pc pe (by decide)) fun d S10 hd => ?_
    obtain ⟨L3, rfl, g10, hl, e10⟩ := hd
    exact ⟨L3, rfl, g10, hl, e10⟩
  obtain ⟨L3, rfl, g10, hL3, e10⟩ := h
  have p10 := p9.gr g10
  have r3 := p9.lt
  have hm10 := g10 _ _ hm
  refine cutS (wpF_mono _ _) (fun σ S11 => ∃ j : Nat, σ = stS2 r a b L2 (some (.int sc)) (some (.int la)) (some (.tup [.ref m, ptD c, ptD e, .int kd])) (some (.ref L3)) (some (.int (j : Nat))) ∧ j < 6 ∧ GrX r S10 S11 ∧ Pool S11 r (n + 16)) ?_ fun σ S11 h => ?_
  · simp only [stS2, sd_cons, sd_nil, sd_zero, List.length_cons, List.length_nil, w_var, w_const, w_glob, w_prim, w_meth, w_cut, w_not, w_and, w_or, w_one, w_ite, w_chain, w_call, w_callk, wa_nil, wa_cons, wt_name, wt_tup, wts_nil, wts_cons, wt_sub, ws_nil, ws_cons, w_expr, w_asg, w_setc, w_par2, w_par3, w_aug, w_ret, w_retN, w_ifs, w_never, seqD_tup, tgsLen, p_add, p_sub, p_mul, p_div, p_mod, p_pow, p_neg, p_eq, p_ne, p_lt, p_le, p_gt, p_ge, p_abs, p_int, p_max, p_min, p_tup, p_lst, p_ixT, p_lenT, truth_bl, onV_some, onB_some, onN_some, onD_bl, onO_some, onL_some, on2_eq, on3_eq, onC_nil, onC_one, onAug_sub, onAug_add, onAug_mul, List.getElem?_cons_zero, List.getElem?_cons_succ, List.set_cons_zero, List.set_cons_succ, wipeD, List.map_cons, List.map_nil, true_and, and_true, decide_eq_true_eq, Bool.not_eq_true', decide_eq_false_iff_not, Nat.reduceAdd, Nat.zero_add, atI_0, atI_1, atI_2, p_eqT2, p_neT2, p_isT, p_isI, p_isB, reduceIte, reduceCtorEq, Int.cast_ofNat_Int, not_true_eq_false, not_false_eq_true, eq_self, if_false, if_true, Bool.true_eq_false, Bool.false_eq_true, Bool.not_true, Bool.not_false, Bool.and_true, Bool.true_and, Bool.and_false, Bool.false_and, p_inT2, p_neS, p_eqS]
    refine use (sp_draw H.h1 r _ 6 S10 p10 (by omega) (by decide) (by decide)) fun d S11 hd => ?_
    obtain ⟨w, rfl, a1, b1, g11, p11⟩ := hd
    obtain ⟨j, rfl⟩ : ∃ j : Nat, w = j := ⟨w.toNat, by omega⟩
    exact ⟨j, rfl, by omega, g11, p11⟩
  obtain ⟨j, rfl, hj, g11, p11⟩ := h
  have e11 := g11 _ _ (by omega : L3 ≠ r) e10
  have lr : m ≠ r := by
    have := p1.lt
    omega
  have hm11 := g11 _ _ lr hm10
  have gA := (g9.trans (g10.x r)).trans g11
  have ck := ch_ok kn.h6 kn.bd bc be pc pe
  refine cutS (wpF_mono _ _) (fun σ S12 => ∃ i : Nat, σ = stS2 r a b L2 (some (.int sc)) (some (.int la)) (some (.tup [.ref m, ptD c, ptD e, .int kd])) (some (.ref L3)) (some (.int (i : Nat))) ∧ i < 6 ∧ BdP 21 (chV ks c e i) ∧ BdP 21 (chV ks c e (i + 1)) ∧ Gr S11 S12) ?_ fun σ S12 h => ?_
  · simp only [stS2, w_ifs, w_prim, wa_cons, wa_nil]
    refine wp_comp (wpF_mono _ _) ?_
    have s11 := seqAt_lst e11
    simp only [wa_cons, wa_nil, w_cut, w_prim, w_var, w_const, p_add, List.getElem?_cons_succ, List.getElem?_cons_zero, onV_some]
    refine ⟨rfl, p_cutIJ s11 (i := j) (j := j + 2) (by omega) (by simp [chL]; omega) ?_⟩
    have gp := Gr.push S11 (O.lst ((((chL ks c e 8).map ptD).drop j).take 2))
    have ep := gP S11 (O.lst ((((chL ks c e 8).map ptD).drop j).take 2))
    have two : (((chL ks c e 8).map ptD).drop j).take 2 = [ptD (chV ks c e j), ptD (chV ks c e (j + 1))] := by
      have h6 : j = 0 ∨ j = 1 ∨ j = 2 ∨ j = 3 ∨ j = 4 ∨ j = 5 := by omega
      rcases h6 with rfl | rfl | rfl | rfl | rfl | rfl <;> rfl
    rw [show j + 2 - j = 2 by omega]
    rw [two] at gp ep ⊢
    generalize S11 ++ [O.lst [ptD (chV ks c e j), ptD (chV ks c e (j + 1))]] = S12 at gp ep ⊢
    simp only [iterR, seqD_ref, seqAt_lst ep, holdOf]
    have mk : ∀ d ∈ [ptD (chV ks c e j), ptD (chV ks c e (j + 1))], ∃ x y : Int, d = .tup [.int x, .int y] := fun d hd => by
      simp only [List.mem_cons, List.not_mem_nil, or_false] at hd
      rcases hd with rfl | rfl <;> exact ⟨_, _, rfl⟩
    refine ⟨_, _, rfl, trivial, ok_one (seqAt_lst ep), (by exact Nat.le_trans (show 2 ≤ 20 by decide) sz), fun d => match d with
      | .tup [.int x, .int y] => some (.int (max ((x.natAbs : Nat) : Int) y))
      | _ => none, fun i d S13 hd hg => ?_, fun S13 hg h13 => ?_⟩
    · obtain ⟨x, y, rfl⟩ := mk d (List.mem_of_getElem? hd)
      simp only [sd_cons, sd_nil, sd_zero, List.length_cons, List.length_nil, w_var, w_const, w_glob, w_prim, w_meth, w_cut, w_not, w_and, w_or, w_one, w_ite, w_chain, w_call, w_callk, wa_nil, wa_cons, wt_name, wt_tup, wts_nil, wts_cons, wt_sub, ws_nil, ws_cons, w_expr, w_asg, w_setc, w_par2, w_par3, w_aug, w_ret, w_retN, w_ifs, w_never, seqD_tup, tgsLen, p_add, p_sub, p_mul, p_div, p_mod, p_pow, p_neg, p_eq, p_ne, p_lt, p_le, p_gt, p_ge, p_abs, p_int, p_max, p_min, p_tup, p_lst, p_ixT, p_lenT, truth_bl, onV_some, onB_some, onN_some, onD_bl, onO_some, onL_some, on2_eq, on3_eq, onC_nil, onC_one, onAug_sub, onAug_add, onAug_mul, List.getElem?_cons_zero, List.getElem?_cons_succ, List.set_cons_zero, List.set_cons_succ, wipeD, List.map_cons, List.map_nil, true_and, and_true, decide_eq_true_eq, Bool.not_eq_true', decide_eq_false_iff_not, Nat.reduceAdd, Nat.zero_add, atI_0, atI_1, atI_2, p_eqT2, p_neT2, p_isT, p_isI, p_isB, reduceIte, reduceCtorEq, Int.cast_ofNat_Int, not_true_eq_false, not_false_eq_true, eq_self, if_false, if_true, Bool.true_eq_false, Bool.false_eq_true, Bool.not_true, Bool.not_false, Bool.and_true, Bool.true_and, Bool.and_false, Bool.false_and, p_inT2, p_neS, p_eqS]
      exact Gr.refl _
    · have h13 : S13[S12.length]? = some (.lst (([max (((chV ks c e j).1.natAbs : Nat) : Int) (chV ks c e j).2, max (((chV ks c e (j + 1)).1.natAbs : Nat) : Int) (chV ks c e (j + 1)).2] : List Int).map D.int)) := h13
      refine p_max1 (seqAt_lst h13) (by simp) fun mx hmx hle => ?_
      have e10 : (10 : Int) ^ Int.toNat 6 = 1000000 := by decide
      simp only [sd_cons, sd_nil, sd_zero, List.length_cons, List.length_nil, w_var, w_const, w_glob, w_prim, w_meth, w_cut, w_not, w_and, w_or, w_one, w_ite, w_chain, w_call, w_callk, wa_nil, wa_cons, wt_name, wt_tup, wts_nil, wts_cons, wt_sub, ws_nil, ws_cons, w_expr, w_asg, w_setc, w_par2, w_par3, w_aug, w_ret, w_retN, w_ifs, w_never, seqD_tup, tgsLen, p_add, p_sub, p_mul, p_div, p_mod, p_pow, p_neg, p_eq, p_ne, p_lt, p_le, p_gt, p_ge, p_abs, p_int, p_max, p_min, p_tup, p_lst, p_ixT, p_lenT, truth_bl, onV_some, onB_some, onN_some, onD_bl, onO_some, onL_some, on2_eq, on3_eq, onC_nil, onC_one, onAug_sub, onAug_add, onAug_mul, List.getElem?_cons_zero, List.getElem?_cons_succ, List.set_cons_zero, List.set_cons_succ, wipeD, List.map_cons, List.map_nil, true_and, and_true, decide_eq_true_eq, Bool.not_eq_true', decide_eq_false_iff_not, Nat.reduceAdd, Nat.zero_add, atI_0, atI_1, atI_2, p_eqT2, p_neT2, p_isT, p_isI, p_isB, reduceIte, reduceCtorEq, Int.cast_ofNat_Int, not_true_eq_false, not_false_eq_true, eq_self, if_false, if_true, Bool.true_eq_false, Bool.false_eq_true, Bool.not_true, Bool.not_false, Bool.and_true, Bool.true_and, Bool.and_false, Bool.false_and, p_inT2, p_neS, p_eqS, e10]
      refine ⟨by decide, ?_⟩
      have gz := gp.trans hg
      split
      · exact ⟨0, rfl, by decide, (ck 0).1.2.mono (by decide), (ck 0).2.2.mono (by decide), gz⟩
      · rename_i hc
        have m1 := hle _ List.mem_cons_self
        have m2 := hle _ (List.mem_cons_of_mem _ List.mem_cons_self)
        have n1 : 0 ≤ (chV ks c e j).2 := pt_nonneg (ck j).1.1
        have n2 : 0 ≤ (chV ks c e (j + 1)).2 := pt_nonneg (ck j).2.1
        have q1 : BdP 21 (chV ks c e j) := ⟨Bd.of (by omega) (by omega), Bd.of (by omega) (by omega)⟩
        have q2 : BdP 21 (chV ks c e (j + 1)) := ⟨Bd.of (by omega) (by omega), Bd.of (by omega) (by omega)⟩
        exact ⟨j, rfl, hj, q1, q2, gz⟩
  obtain ⟨i, rfl, hi, b1, b2, g12⟩ := h
  have s12 := seqAt_lst (g12 _ _ e11)
  have x1 : atI ((chL ks c e 8).map ptD) (i : Int) = some (ptD (chV ks c e i)) := atI_nat (chL_get (by omega))
  have x2 : atI ((chL ks c e 8).map ptD) ((i : Int) + 1) = some (ptD (chV ks c e (i + 1))) := by
    rw [show (i : Int) + 1 = ((i + 1 : Nat) : Int) by omega]
    exact atI_nat (chL_get (by omega))
  simp only [stS2, sd_cons, sd_nil, sd_zero, List.length_cons, List.length_nil, w_var, w_const, w_glob, w_prim, w_meth, w_cut, w_not, w_and, w_or, w_one, w_ite, w_chain, w_call, w_callk, wa_nil, wa_cons, wt_name, wt_tup, wts_nil, wts_cons, wt_sub, ws_nil, ws_cons, w_expr, w_asg, w_setc, w_par2, w_par3, w_aug, w_ret, w_retN, w_ifs, w_never, seqD_tup, tgsLen, p_add, p_sub, p_mul, p_div, p_mod, p_pow, p_neg, p_eq, p_ne, p_lt, p_le, p_gt, p_ge, p_abs, p_int, p_max, p_min, p_tup, p_lst, p_ixT, p_lenT, truth_bl, onV_some, onB_some, onN_some, onD_bl, onO_some, onL_some, on2_eq, on3_eq, onC_nil, onC_one, onAug_sub, onAug_add, onAug_mul, List.getElem?_cons_zero, List.getElem?_cons_succ, List.set_cons_zero, List.set_cons_succ, wipeD, List.map_cons, List.map_nil, true_and, and_true, decide_eq_true_eq, Bool.not_eq_true', decide_eq_false_iff_not, Nat.reduceAdd, Nat.zero_add, atI_0, atI_1, atI_2, p_eqT2, p_neT2, p_isT, p_isI, p_isB, reduceIte, reduceCtorEq, Int.cast_ofNat_Int, not_true_eq_false, not_false_eq_true, eq_self, if_false, if_true, Bool.true_eq_false, Bool.false_eq_true, Bool.not_true, Bool.not_false, Bool.and_true, Bool.true_and, Bool.and_false, Bool.false_and, p_inT2, p_neS, p_eqS, (a2' _ _ _ _).1, p_ixE s12, x1, x2]
  exact ⟨by decide, ⟨m, ks, _, _, rfl, g12 _ _ hm11, kn, by omega, (ck i).1.1, (ck i).2.1, b1, b2⟩, gA.trans (g12.x r), (p11.gr g12).mono (by omega)⟩
def grS (r L : Nat) (a b : Int × Int) : Sd := [some (.ref r), some (.ref L), some (ptD a), some (ptD b), none]
theorem sp_great {T : Nat → Option Fn} {k : Nat} (H : HasLaw T) (r n : Nat) (S : Store) (hp : Pool S r n) (hn : n ≤ 2 ^ 29) :
    wpF T (k + 6) 40 [.ref r] S (fun d S1 => StO S.length d S1 ∧ GrX r S S1 ∧ Pool S1 r (n + 20)) fun _ _ => False := by
  have sz : (20 : Nat) ≤ sizeLine := by decide
  have e10 : (10 : Int) ^ Int.toNat 6 = 1000000 := by decide
  have pw : (0 : Int) ≤ 6 ∧ (Builtin.Int.intBits 10 : Int) * 6 ≤ 2 ^ 27 := by decide
  have m2 : IntMulOk 2 1000000 := Bd.c2.mulOk (Bd.of (n := 20) (by decide) (by decide)) (by decide) (by decide)
  have z0 : Bd 0 (0 : Int) := Bd.of (by decide) (by decide)
  rw [wF H.h40]
  refine ⟨rfl, ?_⟩
  simp only [f_law_great, sd_cons, sd_nil, sd_zero, List.length_cons, List.length_nil, Nat.reduceAdd, Nat.zero_add]
  refine cutS (wpF_mono _ _) (fun σ S1 => ∃ L, ∃ ms : List Int, ∃ a b : Int × Int, σ = grS r L a b ∧ ms.length = 6 ∧ (∀ z ∈ ms, Bd 35 z) ∧ PtP a ∧ PtP b ∧ BdP 21 a ∧ BdP 21 b ∧ GrX r S S1 ∧ Pool S1 r (n + 9) ∧ L ≠ r ∧ S1[L]? = some (.lst (ms.map D.int))) ?_ fun σ S1 h => ?_
  · simp only [w_ifs, w_prim, w_call, wa_cons, wa_nil, w_var, w_const, List.getElem?_cons_succ, List.getElem?_cons_zero, onV_some]
    refine use (sp_draw H.h1 r n 2 S hp (by omega) (by decide) (by decide)) fun d S1 hd => ?_
    obtain ⟨w0, rfl, _, _, g1, p1⟩ := hd
    simp only [p_eq, truth_bl, onB_some, decide_eq_true_eq]
    split
    · refine cutS (wpF_mono _ _) (fun σ S3 => ∃ x y : Int, σ = [some (.ref r), none, some (ptD (x, 1)), some (ptD (y, 1)), none] ∧ Bd 2 x ∧ Bd 2 y ∧ GrX r S S3 ∧ Pool S3 r (n + 3)) ?_ fun σ S3 h => ?_
      · simp only [sd_cons, sd_nil, sd_zero, List.length_cons, List.length_nil, w_var, w_const, w_glob, w_prim, w_meth, w_cut, w_not, w_and, w_or, w_one, w_ite, w_chain, w_call, w_callk, wa_nil, wa_cons, wt_name, wt_tup, wts_nil, wts_cons, wt_sub, ws_nil, ws_cons, w_expr, w_asg, w_setc, w_par2, w_par3, w_aug, w_ret, w_retN, w_ifs, w_never, seqD_tup, tgsLen, p_add, p_sub, p_mul, p_div, p_mod, p_pow, p_neg, p_eq, p_ne, p_lt, p_le, p_gt, p_ge, p_abs, p_int, p_max, p_min, p_tup, p_lst, p_ixT, p_lenT, truth_bl, onV_some, onB_some, onN_some, onD_bl, onO_some, onL_some, on2_eq, on3_eq, onC_nil, onC_one, onAug_sub, onAug_add, onAug_mul, List.getElem?_cons_zero, List.getElem?_cons_succ, List.set_cons_zero, List.set_cons_succ, wipeD, List.map_cons, List.map_nil, true_and, and_true, decide_eq_true_eq, Bool.not_eq_true', decide_eq_false_iff_not, Nat.reduceAdd, Nat.zero_add, atI_0, atI_1, atI_2, p_eqT2, p_neT2, p_isT, p_isI, p_isB, reduceIte, reduceCtorEq, Int.cast_ofNat_Int, not_true_eq_false, not_false_eq_true, eq_self, if_false, if_true, Bool.true_eq_false, Bool.false_eq_true, Bool.not_true, Bool.not_false, Bool.and_true, Bool.true_and, Bool.and_false, Bool.false_and, p_inT2, p_neS, p_eqS]
        refine use (sp_draw H.h1 r _ 5 S1 p1 (by omega) (by decide) (by decide)) fun d S2 hd => ?_
        obtain ⟨v1, rfl, a1, b1, g2, p2⟩ := hd
        simp only [sd_cons, sd_nil, sd_zero, List.length_cons, List.length_nil, w_var, w_const, w_glob, w_prim, w_meth, w_cut, w_not, w_and, w_or, w_one, w_ite, w_chain, w_call, w_callk, wa_nil, wa_cons, wt_name, wt_tup, wts_nil, wts_cons, wt_sub, ws_nil, ws_cons, w_expr, w_asg, w_setc, w_par2, w_par3, w_aug, w_ret, w_retN, w_ifs, w_never, seqD_tup, tgsLen, p_add, p_sub, p_mul, p_div, p_mod, p_pow, p_neg, p_eq, p_ne, p_lt, p_le, p_gt, p_ge, p_abs, p_int, p_max, p_min, p_tup, p_lst, p_ixT, p_lenT, truth_bl, onV_some, onB_some, onN_some, onD_bl, onO_some, onL_some, on2_eq, on3_eq, onC_nil, onC_one, onAug_sub, onAug_add, onAug_mul, List.getElem?_cons_zero, List.getElem?_cons_succ, List.set_cons_zero, List.set_cons_succ, wipeD, List.map_cons, List.map_nil, true_and, and_true, decide_eq_true_eq, Bool.not_eq_true', decide_eq_false_iff_not, Nat.reduceAdd, Nat.zero_add, atI_0, atI_1, atI_2, p_eqT2, p_neT2, p_isT, p_isI, p_isB, reduceIte, reduceCtorEq, Int.cast_ofNat_Int, not_true_eq_false, not_false_eq_true, eq_self, if_false, if_true, Bool.true_eq_false, Bool.false_eq_true, Bool.not_true, Bool.not_false, Bool.and_true, Bool.true_and, Bool.and_false, Bool.false_and, p_inT2, p_neS, p_eqS]
        refine ⟨by decide, ?_⟩
        refine use (sp_draw H.h1 r _ 5 S2 p2 (by omega) (by decide) (by decide)) fun d S3 hd => ?_
        obtain ⟨v2, rfl, a2, b2, g3, p3⟩ := hd
        simp only [sd_cons, sd_nil, sd_zero, List.length_cons, List.length_nil, w_var, w_const, w_glob, w_prim, w_meth, w_cut, w_not, w_and, w_or, w_one, w_ite, w_chain, w_call, w_callk, wa_nil, wa_cons, wt_name, wt_tup, wts_nil, wts_cons, wt_sub, ws_nil, ws_cons, w_expr, w_asg, w_setc, w_par2, w_par3, w_aug, w_ret, w_retN, w_ifs, w_never, seqD_tup, tgsLen, p_add, p_sub, p_mul, p_div, p_mod, p_pow, p_neg, p_eq, p_ne, p_lt, p_le, p_gt, p_ge, p_abs, p_int, p_max, p_min, p_tup, p_lst, p_ixT, p_lenT, truth_bl, onV_some, onB_some, onN_some, onD_bl, onO_some, onL_some, on2_eq, on3_eq, onC_nil, onC_one, onAug_sub, onAug_add, onAug_mul, List.getElem?_cons_zero, List.getElem?_cons_succ, List.set_cons_zero, List.set_cons_succ, wipeD, List.map_cons, List.map_nil, true_and, and_true, decide_eq_true_eq, Bool.not_eq_true', decide_eq_false_iff_not, Nat.reduceAdd, Nat.zero_add, atI_0, atI_1, atI_2, p_eqT2, p_neT2, p_isT, p_isI, p_isB, reduceIte, reduceCtorEq, Int.cast_ofNat_Int, not_true_eq_false, not_false_eq_true, eq_self, if_false, if_true, Bool.true_eq_false, Bool.false_eq_true, Bool.not_true, Bool.not_false, Bool.and_true, Bool.true_and, Bool.and_false, Bool.false_and, p_inT2, p_neS, p_eqS]
        exact ⟨by decide, _, _, rfl, Bd.of (by omega) (by omega), Bd.of (by omega) (by omega), (g1.trans g2).trans g3, p3⟩
      obtain ⟨x, y, rfl, bx, by', g3, p3⟩ := h
      refine cutS (wpF_mono _ _) (fun σ S4 => ∃ L, ∃ ns : List Int, σ = grS r L (x, 1) (y, 1) ∧ ns.length = 5 ∧ (∀ z ∈ ns, Bd 21 z) ∧ GrX r S S4 ∧ Pool S4 r (n + 8) ∧ L ≠ r ∧ S4[L]? = some (.lst (ns.map D.int))) ?_ fun σ S4 h => ?_
      · simp only [w_setc]
        refine wp_draws (N := 5) (b := 21) (wpF_mono _ _) (by decide) p3 (fun v S5 m hm hm2 => ?_) fun ns S5 h5 hb g5 p5 e5 => ?_
        · simp only [sd_cons, sd_nil, sd_zero, List.length_cons, List.length_nil, w_var, w_const, w_glob, w_prim, w_meth, w_cut, w_not, w_and, w_or, w_one, w_ite, w_chain, w_call, w_callk, wa_nil, wa_cons, wt_name, wt_tup, wts_nil, wts_cons, wt_sub, ws_nil, ws_cons, w_expr, w_asg, w_setc, w_par2, w_par3, w_aug, w_ret, w_retN, w_ifs, w_never, seqD_tup, tgsLen, p_add, p_sub, p_mul, p_div, p_mod, p_pow, p_neg, p_eq, p_ne, p_lt, p_le, p_gt, p_ge, p_abs, p_int, p_max, p_min, p_tup, p_lst, p_ixT, p_lenT, truth_bl, onV_some, onB_some, onN_some, onD_bl, onO_some, onL_some, on2_eq, on3_eq, onC_nil, onC_one, onAug_sub, onAug_add, onAug_mul, List.getElem?_cons_zero, List.getElem?_cons_succ, List.set_cons_zero, List.set_cons_succ, wipeD, List.map_cons, List.map_nil, true_and, and_true, decide_eq_true_eq, Bool.not_eq_true', decide_eq_false_iff_not, Nat.reduceAdd, Nat.zero_add, atI_0, atI_1, atI_2, p_eqT2, p_neT2, p_isT, p_isI, p_isB, reduceIte, reduceCtorEq, Int.cast_ofNat_Int, not_true_eq_false, not_false_eq_true, eq_self, if_false, if_true, Bool.true_eq_false, Bool.false_eq_true, Bool.not_true, Bool.not_false, Bool.and_true, Bool.true_and, Bool.and_false, Bool.false_and, p_inT2, p_neS, p_eqS, e10]
          refine ⟨pw, m2, ?_⟩
          refine use (sp_draw H.h1 r _ _ S5 hm (by omega) (by decide) (by decide)) fun d S6 hd => ?_
          obtain ⟨v1, rfl, a1, b1, g2, p2⟩ := hd
          simp only [sd_cons, sd_nil, sd_zero, List.length_cons, List.length_nil, w_var, w_const, w_glob, w_prim, w_meth, w_cut, w_not, w_and, w_or, w_one, w_ite, w_chain, w_call, w_callk, wa_nil, wa_cons, wt_name, wt_tup, wts_nil, wts_cons, wt_sub, ws_nil, ws_cons, w_expr, w_asg, w_setc, w_par2, w_par3, w_aug, w_ret, w_retN, w_ifs, w_never, seqD_tup, tgsLen, p_add, p_sub, p_mul, p_div, p_mod, p_pow, p_neg, p_eq, p_ne, p_lt, p_le, p_gt, p_ge, p_abs, p_int, p_max, p_min, p_tup, p_lst, p_ixT, p_lenT, truth_bl, onV_some, onB_some, onN_some, onD_bl, onO_some, onL_some, on2_eq, on3_eq, onC_nil, onC_one, onAug_sub, onAug_add, onAug_mul, List.getElem?_cons_zero, List.getElem?_cons_succ, List.set_cons_zero, List.set_cons_succ, wipeD, List.map_cons, List.map_nil, true_and, and_true, decide_eq_true_eq, Bool.not_eq_true', decide_eq_false_iff_not, Nat.reduceAdd, Nat.zero_add, atI_0, atI_1, atI_2, p_eqT2, p_neT2, p_isT, p_isI, p_isB, reduceIte, reduceCtorEq, Int.cast_ofNat_Int, not_true_eq_false, not_false_eq_true, eq_self, if_false, if_true, Bool.true_eq_false, Bool.false_eq_true, Bool.not_true, Bool.not_false, Bool.and_true, Bool.true_and, Bool.and_false, Bool.false_and, p_inT2, p_neS, p_eqS, e10]
          exact ⟨pw, ⟨_, rfl, Bd.of (by omega) (by omega)⟩, g2, p2⟩
        · exact ⟨_, ns, rfl, h5, hb, g3.trans g5, p5, by have := p3.lt; omega, e5⟩
      obtain ⟨L, ns, rfl, h5, hb, g4, p4, hL, e4⟩ := h
      simp only [grS, sd_cons, sd_nil, sd_zero, List.length_cons, List.length_nil, w_var, w_const, w_glob, w_prim, w_meth, w_cut, w_not, w_and, w_or, w_one, w_ite, w_chain, w_call, w_callk, wa_nil, wa_cons, wt_name, wt_tup, wts_nil, wts_cons, wt_sub, ws_nil, ws_cons, w_expr, w_asg, w_setc, w_par2, w_par3, w_aug, w_ret, w_retN, w_ifs, w_never, seqD_tup, tgsLen, p_add, p_sub, p_mul, p_div, p_mod, p_pow, p_neg, p_eq, p_ne, p_lt, p_le, p_gt, p_ge, p_abs, p_int, p_max, p_min, p_tup, p_lst, p_ixT, p_lenT, truth_bl, onV_some, onB_some, onN_some, onD_bl, onO_some, onL_some, on2_eq, on3_eq, onC_nil, onC_one, onAug_sub, onAug_add, onAug_mul, List.getElem?_cons_zero, List.getElem?_cons_succ, List.set_cons_zero, List.set_cons_succ, wipeD, List.map_cons, List.map_nil, true_and, and_true, decide_eq_true_eq, Bool.not_eq_true', decide_eq_false_iff_not, Nat.reduceAdd, Nat.zero_add, atI_0, atI_1, atI_2, p_eqT2, p_neT2, p_isT, p_isI, p_isB, reduceIte, reduceCtorEq, Int.cast_ofNat_Int, not_true_eq_false, not_false_eq_true, eq_self, if_false, if_true, Bool.true_eq_false, Bool.false_eq_true, Bool.not_true, Bool.not_false, Bool.and_true, Bool.true_and, Bool.and_false, Bool.false_and, p_inT2, p_neS, p_eqS]
      have gp := Gr.push S4 (O.lst [.int 0])
      refine ⟨by decide, ?_⟩
      refine p_cat (gp _ _ e4) (gP _ _) (by rw [List.length_map, h5]; exact Nat.le_trans (show 5 + 1 ≤ 20 by decide) sz) ?_
      have gq := Gr.push (S4 ++ [O.lst [.int 0]]) (O.lst (ns.map D.int ++ [D.int 0]))
      have eq := gP (S4 ++ [O.lst [.int 0]]) (O.lst (ns.map D.int ++ [D.int 0]))
      have em : ns.map D.int ++ [D.int 0] = (ns ++ [0]).map D.int := by simp
      rw [em] at eq gq ⊢
      have b6 : ∀ z ∈ ns ++ [0], Bd 21 z := fun z hz => by
        rcases List.mem_append.mp hz with hz | hz
        · exact hb z hz
        · rw [List.mem_singleton.mp hz]; exact Bd.of (by decide) (by decide)
      have l6 : (ns ++ [0]).length = 6 := by simp [h5]
      have b1 : Bd 2 (1 : Int) := Bd.of (by decide) (by decide)
      refine use (sp_at (k := k + 4) H.h31 (ns ++ [0]) l6 x 1 y 1 _ _ (seqAt_lst eq) (by decide) (by decide) b6 bx b1 by' b1) fun d S7 hd => ?_
      obtain ⟨rfl, g7⟩ := hd
      have bl := (z0.sub (atV_bd l6 b6 bx b1 by' b1))
      have g47 := (gp.trans gq).trans g7
      have p7 := p4.gr g47
      have e7 := g47 _ _ e4
      generalize atV (ns ++ [0]) x 1 y 1 = av at bl
      simp only [sd_cons, sd_nil, sd_zero, List.length_cons, List.length_nil, w_var, w_const, w_glob, w_prim, w_meth, w_cut, w_not, w_and, w_or, w_one, w_ite, w_chain, w_call, w_callk, wa_nil, wa_cons, wt_name, wt_tup, wts_nil, wts_cons, wt_sub, ws_nil, ws_cons, w_expr, w_asg, w_setc, w_par2, w_par3, w_aug, w_ret, w_retN, w_ifs, w_never, seqD_tup, tgsLen, p_add, p_sub, p_mul, p_div, p_mod, p_pow, p_neg, p_eq, p_ne, p_lt, p_le, p_gt, p_ge, p_abs, p_int, p_max, p_min, p_tup, p_lst, p_ixT, p_lenT, truth_bl, onV_some, onB_some, onN_some, onD_bl, onO_some, onL_some, on2_eq, on3_eq, onC_nil, onC_one, onAug_sub, onAug_add, onAug_mul, List.getElem?_cons_zero, List.getElem?_cons_succ, List.set_cons_zero, List.set_cons_succ, wipeD, List.map_cons, List.map_nil, true_and, and_true, decide_eq_true_eq, Bool.not_eq_true', decide_eq_false_iff_not, Nat.reduceAdd, Nat.zero_add, atI_0, atI_1, atI_2, p_eqT2, p_neT2, p_isT, p_isI, p_isB, reduceIte, reduceCtorEq, Int.cast_ofNat_Int, not_true_eq_false, not_false_eq_true, eq_self, if_false, if_true, Bool.true_eq_false, Bool.false_eq_true, Bool.not_true, Bool.not_false, Bool.and_true, Bool.true_and, Bool.and_false, Bool.false_and, p_inT2, p_neS, p_eqS]
      refine ⟨by decide, ?_⟩
      have gr := Gr.push S7 (O.lst [.int (0 - av)])
      refine p_cat (gr _ _ e7) (gP _ _) (by rw [List.length_map, h5]; exact Nat.le_trans (show 5 + 1 ≤ 20 by decide) sz) ?_
      have em : ns.map D.int ++ [D.int (0 - av)] = (ns ++ [0 - av]).map D.int := by simp
      rw [em]
      refine ⟨_, ns ++ [0 - av], (x, 1), (y, 1), rfl, by simp [h5], fun z hz => ?_, .inl ⟨(by decide : (0 : Int) < 1), by simp⟩, .inl ⟨(by decide : (0 : Int) < 1), by simp⟩, ⟨bx.mono (by decide), b1.mono (by decide)⟩, ⟨by'.mono (by decide), b1.mono (by decide)⟩, g4.trans ((g47.trans (gr.trans (Gr.push _ _))).x r), (p7.gr (gr.trans (Gr.push _ _))).mono (by omega), ?_, gP _ _⟩
      · rcases List.mem_append.mp hz with hz | hz
        · exact (hb z hz).mono (by decide)
        · rw [List.mem_singleton.mp hz]; exact bl.mono (by decide)
      · have := p7.lt
        simp only [List.length_append, List.length_cons, List.length_nil]
        omega
    · refine cutS (wpF_mono _ _) (fun σ S3 => ∃ x : Int, σ = [some (.ref r), none, some (ptD (x, 1)), some (ptD (0, 1)), none] ∧ Bd 21 x ∧ GrX r S S3 ∧ Pool S3 r (n + 2)) ?_ fun σ S3 h => ?_
      · simp only [sd_cons, sd_nil, sd_zero, List.length_cons, List.length_nil, w_var, w_const, w_glob, w_prim, w_meth, w_cut, w_not, w_and, w_or, w_one, w_ite, w_chain, w_call, w_callk, wa_nil, wa_cons, wt_name, wt_tup, wts_nil, wts_cons, wt_sub, ws_nil, ws_cons, w_expr, w_asg, w_setc, w_par2, w_par3, w_aug, w_ret, w_retN, w_ifs, w_never, seqD_tup, tgsLen, p_add, p_sub, p_mul, p_div, p_mod, p_pow, p_neg, p_eq, p_ne, p_lt, p_le, p_gt, p_ge, p_abs, p_int, p_max, p_min, p_tup, p_lst, p_ixT, p_lenT, truth_bl, onV_some, onB_some, onN_some, onD_bl, onO_some, onL_some, on2_eq, on3_eq, onC_nil, onC_one, onAug_sub, onAug_add, onAug_mul, List.getElem?_cons_zero, List.getElem?_cons_succ, List.set_cons_zero, List.set_cons_succ, wipeD, List.map_cons, List.map_nil, true_and, and_true, decide_eq_true_eq, Bool.not_eq_true', decide_eq_false_iff_not, Nat.reduceAdd, Nat.zero_add, atI_0, atI_1, atI_2, p_eqT2, p_neT2, p_isT, p_isI, p_isB, reduceIte, reduceCtorEq, Int.cast_ofNat_Int, not_true_eq_false, not_false_eq_true, eq_self, if_false, if_true, Bool.true_eq_false, Bool.false_eq_true, Bool.not_true, Bool.not_false, Bool.and_true, Bool.true_and, Bool.and_false, Bool.false_and, p_inT2, p_neS, p_eqS, e10]
        refine ⟨pw, m2, ?_⟩
        refine use (sp_draw H.h1 r _ _ S1 p1 (by omega) (by decide) (by decide)) fun d S2 hd => ?_
        obtain ⟨v1, rfl, a1, b1, g2, p2⟩ := hd
        simp only [sd_cons, sd_nil, sd_zero, List.length_cons, List.length_nil, w_var, w_const, w_glob, w_prim, w_meth, w_cut, w_not, w_and, w_or, w_one, w_ite, w_chain, w_call, w_callk, wa_nil, wa_cons, wt_name, wt_tup, wts_nil, wts_cons, wt_sub, ws_nil, ws_cons, w_expr, w_asg, w_setc, w_par2, w_par3, w_aug, w_ret, w_retN, w_ifs, w_never, seqD_tup, tgsLen, p_add, p_sub, p_mul, p_div, p_mod, p_pow, p_neg, p_eq, p_ne, p_lt, p_le, p_gt, p_ge, p_abs, p_int, p_max, p_min, p_tup, p_lst, p_ixT, p_lenT, truth_bl, onV_some, onB_some, onN_some, onD_bl, onO_some, onL_some, on2_eq, on3_eq, onC_nil, onC_one, onAug_sub, onAug_add, onAug_mul, List.getElem?_cons_zero, List.getElem?_cons_succ, List.set_cons_zero, List.set_cons_succ, wipeD, List.map_cons, List.map_nil, true_and, and_true, decide_eq_true_eq, Bool.not_eq_true', decide_eq_false_iff_not, Nat.reduceAdd, Nat.zero_add, atI_0, atI_1, atI_2, p_eqT2, p_neT2, p_isT, p_isI, p_isB, reduceIte, reduceCtorEq, Int.cast_ofNat_Int, not_true_eq_false, not_false_eq_true, eq_self, if_false, if_true, Bool.true_eq_false, Bool.false_eq_true, Bool.not_true, Bool.not_false, Bool.and_true, Bool.true_and, Bool.and_false, Bool.false_and, p_inT2, p_neS, p_eqS, e10]
        exact ⟨pw, by decide, by decide, _, rfl, Bd.of (by omega) (by omega), g1.trans g2, p2⟩
      obtain ⟨x, rfl, bx, g3, p3⟩ := h
      refine cutS (wpF_mono _ _) (fun σ S4 => ∃ L, ∃ ns : List Int, σ = grS r L (x, 1) (0, 1) ∧ ns.length = 5 ∧ (∀ z ∈ ns, Bd 8 z) ∧ GrX r S S4 ∧ Pool S4 r (n + 7) ∧ S.length ≤ L ∧ L ≠ r ∧ S4[L]? = some (.lst (ns.map D.int))) ?_ fun σ S4 h => ?_
      · simp only [w_setc]
        refine wp_draws (N := 5) (b := 8) (wpF_mono _ _) (by decide) p3 (fun v S5 m hm hm2 => ?_) fun ns S5 h5 hb g5 p5 e5 => ?_
        · simp only [sd_cons, sd_nil, sd_zero, List.length_cons, List.length_nil, w_var, w_const, w_glob, w_prim, w_meth, w_cut, w_not, w_and, w_or, w_one, w_ite, w_chain, w_call, w_callk, wa_nil, wa_cons, wt_name, wt_tup, wts_nil, wts_cons, wt_sub, ws_nil, ws_cons, w_expr, w_asg, w_setc, w_par2, w_par3, w_aug, w_ret, w_retN, w_ifs, w_never, seqD_tup, tgsLen, p_add, p_sub, p_mul, p_div, p_mod, p_pow, p_neg, p_eq, p_ne, p_lt, p_le, p_gt, p_ge, p_abs, p_int, p_max, p_min, p_tup, p_lst, p_ixT, p_lenT, truth_bl, onV_some, onB_some, onN_some, onD_bl, onO_some, onL_some, on2_eq, on3_eq, onC_nil, onC_one, onAug_sub, onAug_add, onAug_mul, List.getElem?_cons_zero, List.getElem?_cons_succ, List.set_cons_zero, List.set_cons_succ, wipeD, List.map_cons, List.map_nil, true_and, and_true, decide_eq_true_eq, Bool.not_eq_true', decide_eq_false_iff_not, Nat.reduceAdd, Nat.zero_add, atI_0, atI_1, atI_2, p_eqT2, p_neT2, p_isT, p_isI, p_isB, reduceIte, reduceCtorEq, Int.cast_ofNat_Int, not_true_eq_false, not_false_eq_true, eq_self, if_false, if_true, Bool.true_eq_false, Bool.false_eq_true, Bool.not_true, Bool.not_false, Bool.and_true, Bool.true_and, Bool.and_false, Bool.false_and, p_inT2, p_neS, p_eqS]
          refine use (sp_draw H.h1 r _ _ S5 hm (by omega) (by decide) (by decide)) fun d S6 hd => ?_
          obtain ⟨v1, rfl, a1, b1, g2, p2⟩ := hd
          simp only [sd_cons, sd_nil, sd_zero, List.length_cons, List.length_nil, w_var, w_const, w_glob, w_prim, w_meth, w_cut, w_not, w_and, w_or, w_one, w_ite, w_chain, w_call, w_callk, wa_nil, wa_cons, wt_name, wt_tup, wts_nil, wts_cons, wt_sub, ws_nil, ws_cons, w_expr, w_asg, w_setc, w_par2, w_par3, w_aug, w_ret, w_retN, w_ifs, w_never, seqD_tup, tgsLen, p_add, p_sub, p_mul, p_div, p_mod, p_pow, p_neg, p_eq, p_ne, p_lt, p_le, p_gt, p_ge, p_abs, p_int, p_max, p_min, p_tup, p_lst, p_ixT, p_lenT, truth_bl, onV_some, onB_some, onN_some, onD_bl, onO_some, onL_some, on2_eq, on3_eq, onC_nil, onC_one, onAug_sub, onAug_add, onAug_mul, List.getElem?_cons_zero, List.getElem?_cons_succ, List.set_cons_zero, List.set_cons_succ, wipeD, List.map_cons, List.map_nil, true_and, and_true, decide_eq_true_eq, Bool.not_eq_true', decide_eq_false_iff_not, Nat.reduceAdd, Nat.zero_add, atI_0, atI_1, atI_2, p_eqT2, p_neT2, p_isT, p_isI, p_isB, reduceIte, reduceCtorEq, Int.cast_ofNat_Int, not_true_eq_false, not_false_eq_true, eq_self, if_false, if_true, Bool.true_eq_false, Bool.false_eq_true, Bool.not_true, Bool.not_false, Bool.and_true, Bool.true_and, Bool.and_false, Bool.false_and, p_inT2, p_neS, p_eqS]
          exact ⟨⟨_, rfl, Bd.of (by omega) (by omega)⟩, g2, p2⟩
        · exact ⟨_, ns, rfl, h5, hb, g3.trans g5, p5, g3.len p3.lt, by have := p3.lt; omega, e5⟩
      obtain ⟨L, ns, rfl, h5, hb, g4, p4, hlL, hL, e4⟩ := h
      match ns, h5 with
      | [n0, n1, n2, n3, n4], _ =>
        simp only [grS, sd_cons, sd_nil, sd_zero, List.length_cons, List.length_nil, w_var, w_const, w_glob, w_prim, w_meth, w_cut, w_not, w_and, w_or, w_one, w_ite, w_chain, w_call, w_callk, wa_nil, wa_cons, wt_name, wt_tup, wts_nil, wts_cons, wt_sub, ws_nil, ws_cons, w_expr, w_asg, w_setc, w_par2, w_par3, w_aug, w_ret, w_retN, w_ifs, w_never, seqD_tup, tgsLen, p_add, p_sub, p_mul, p_div, p_mod, p_pow, p_neg, p_eq, p_ne, p_lt, p_le, p_gt, p_ge, p_abs, p_int, p_max, p_min, p_tup, p_lst, p_ixT, p_lenT, truth_bl, onV_some, onB_some, onN_some, onD_bl, onO_some, onL_some, on2_eq, on3_eq, onC_nil, onC_one, onAug_sub, onAug_add, onAug_mul, List.getElem?_cons_zero, List.getElem?_cons_succ, List.set_cons_zero, List.set_cons_succ, wipeD, List.map_cons, List.map_nil, true_and, and_true, decide_eq_true_eq, Bool.not_eq_true', decide_eq_false_iff_not, Nat.reduceAdd, Nat.zero_add, atI_0, atI_1, atI_2, p_eqT2, p_neT2, p_isT, p_isI, p_isB, reduceIte, reduceCtorEq, Int.cast_ofNat_Int, not_true_eq_false, not_false_eq_true, eq_self, if_false, if_true, Bool.true_eq_false, Bool.false_eq_true, Bool.not_true, Bool.not_false, Bool.and_true, Bool.true_and, Bool.and_false, Bool.false_and, p_inT2, p_neS, p_eqS]
        refine onSet_eq e4 (ixN_nat (i := 2) (by simp)) ?_
        have e5 := set_get (o' := O.lst ((([n0, n1, n2, n3, n4] : List Int).map D.int).set 2 (.int 0))) e4
        have e5 : (S4.set L (.lst ((([n0, n1, n2, n3, n4] : List Int).map D.int).set 2 (.int 0))))[L]? = some (.lst ([n0, n1, 0, n3, n4].map D.int)) := e5
        have p5 : Pool (S4.set L (.lst ((([n0, n1, n2, n3, n4] : List Int).map D.int).set 2 (.int 0)))) r (n + 7) := by
          obtain ⟨a, b, c, hr, h⟩ := p4
          exact ⟨a, b, c, by rw [List.getElem?_set_ne hL]; exact hr, h⟩
        have g5 : GrX r S (S4.set L (.lst ((([n0, n1, n2, n3, n4] : List Int).map D.int).set 2 (.int 0)))) := fun l o hl ho => by
          rw [List.getElem?_set_ne (by have := len_lt' ho; omega)]
          exact g4 _ _ hl ho
        generalize S4.set L (.lst ((([n0, n1, n2, n3, n4] : List Int).map D.int).set 2 (.int 0))) = S5 at e5 p5 g5
        have a4 : atI (([n0, n1, 0, n3, n4] : List Int).map D.int) 4 = some (.int n4) := atI_nat (i := 4) (by simp)
        simp only [ptD, sd_cons, sd_nil, sd_zero, List.length_cons, List.length_nil, w_var, w_const, w_glob, w_prim, w_meth, w_cut, w_not, w_and, w_or, w_one, w_ite, w_chain, w_call, w_callk, wa_nil, wa_cons, wt_name, wt_tup, wts_nil, wts_cons, wt_sub, ws_nil, ws_cons, w_expr, w_asg, w_setc, w_par2, w_par3, w_aug, w_ret, w_retN, w_ifs, w_never, seqD_tup, tgsLen, p_add, p_sub, p_mul, p_div, p_mod, p_pow, p_neg, p_eq, p_ne, p_lt, p_le, p_gt, p_ge, p_abs, p_int, p_max, p_min, p_tup, p_lst, p_ixT, p_lenT, truth_bl, onV_some, onB_some, onN_some, onD_bl, onO_some, onL_some, on2_eq, on3_eq, onC_nil, onC_one, onAug_sub, onAug_add, onAug_mul, List.getElem?_cons_zero, List.getElem?_cons_succ, List.set_cons_zero, List.set_cons_succ, wipeD, List.map_cons, List.map_nil, true_and, and_true, decide_eq_true_eq, Bool.not_eq_true', decide_eq_false_iff_not, Nat.reduceAdd, Nat.zero_add, atI_0, atI_1, atI_2, p_eqT2, p_neT2, p_isT, p_isI, p_isB, reduceIte, reduceCtorEq, Int.cast_ofNat_Int, not_true_eq_false, not_false_eq_true, eq_self, if_false, if_true, Bool.true_eq_false, Bool.false_eq_true, Bool.not_true, Bool.not_false, Bool.and_true, Bool.true_and, Bool.and_false, Bool.false_and, p_inT2, p_neS, p_eqS, p_ixE (seqAt_lst e5), a4]
        have bn4 := hb n4 (by simp)
        refine ⟨isL_of e5, bn4.mulOk bx (by decide) (by decide), ?_⟩
        simp only [p_sub]
        refine p_app e5 (by rw [List.length_map]; exact Nat.lt_of_lt_of_le (show 5 < 20 by decide) sz) ?_
        refine ⟨L, [n0, n1, 0, n3, n4, 0 - n4 * x], (x, 1), (0, 1), rfl, rfl, fun z hz => ?_, .inl ⟨(by decide : (0 : Int) < 1), by simp⟩, .inl ⟨by decide, by decide⟩, ⟨bx, (Bd.of (by decide) (by decide) : Bd 21 (1 : Int))⟩, ⟨Bd.of (by decide) (by decide), Bd.of (by decide) (by decide)⟩, fun l o hl ho => ?_, ?_, hL, ?_⟩
        · simp only [List.mem_cons, List.not_mem_nil, or_false] at hz
          rcases hz with rfl | rfl | rfl | rfl | rfl | rfl
          · exact (hb _ (by simp)).mono (by decide)
          · exact (hb _ (by simp)).mono (by decide)
          · exact z0.mono (by decide)
          · exact (hb _ (by simp)).mono (by decide)
          · exact (hb _ (by simp)).mono (by decide)
          · exact (z0.sub (bn4.mul bx)).mono (by decide)
        · rw [List.getElem?_set_ne (by have := len_lt' ho; omega)]
          exact g5 _ _ hl ho
        · obtain ⟨a, b, c, hr, h⟩ := p5.mono (show n + 7 ≤ n + 9 by omega)
          exact ⟨a, b, c, by rw [List.getElem?_set_ne hL]; exact hr, h⟩
        · rw [set_get e5]
          rfl
  obtain ⟨L2, ms, a, b, rfl, l6, b6, pa, pb, ba, bb, g1, p1, hL, e1⟩ := h
  refine cutS (wpF_mono _ _) (fun σ S8 => σ = grS r L2 a b ∧ GrX r S S8 ∧ Pool S8 r (n + 9)) ?_ fun σ S8 h => ?_
  · simp only [grS, sd_cons, sd_nil, sd_zero, List.length_cons, List.length_nil, w_var, w_const, w_glob, w_prim, w_meth, w_cut, w_not, w_and, w_or, w_one, w_ite, w_chain, w_call, w_callk, wa_nil, wa_cons, wt_name, wt_tup, wts_nil, wts_cons, wt_sub, ws_nil, ws_cons, w_expr, w_asg, w_setc, w_par2, w_par3, w_aug, w_ret, w_retN, w_ifs, w_never, seqD_tup, tgsLen, p_add, p_sub, p_mul, p_div, p_mod, p_pow, p_neg, p_eq, p_ne, p_lt, p_le, p_gt, p_ge, p_abs, p_int, p_max, p_min, p_tup, p_lst, p_ixT, p_lenT, truth_bl, onV_some, onB_some, onN_some, onD_bl, onO_some, onL_some, on2_eq, on3_eq, onC_nil, onC_one, onAug_sub, onAug_add, onAug_mul, List.getElem?_cons_zero, List.getElem?_cons_succ, List.set_cons_zero, List.set_cons_succ, wipeD, List.map_cons, List.map_nil, true_and, and_true, decide_eq_true_eq, Bool.not_eq_true', decide_eq_false_iff_not, Nat.reduceAdd, Nat.zero_add, atI_0, atI_1, atI_2, p_eqT2, p_neT2, p_isT, p_isI, p_isB, reduceIte, reduceCtorEq, Int.cast_ofNat_Int, not_true_eq_false, not_false_eq_true, eq_self, if_false, if_true, Bool.true_eq_false, Bool.false_eq_true, Bool.not_true, Bool.not_false, Bool.and_true, Bool.true_and, Bool.and_false, Bool.false_and, p_inT2, p_neS, p_eqS]
    refine ⟨by decide, ?_⟩
    have gp := Gr.push S1 (O.lst [.int 0])
    refine p_rep (xs := [.int 0]) (k := 6) (by simp) (by decide) (by decide) ?_
    have gq := Gr.push (S1 ++ [O.lst [.int 0]]) (O.lst (List.replicate 6 [D.int 0]).flatten)
    have er : ((S1 ++ [O.lst [D.int 0]]) ++ [O.lst (List.replicate 6 [D.int 0]).flatten])[(S1 ++ [O.lst [D.int 0]]).length]? = some (.lst (([0, 0, 0, 0, 0, 0] : List Int).map D.int)) := by simp
    generalize (S1 ++ [O.lst [D.int 0]]) ++ [O.lst (List.replicate 6 [D.int 0]).flatten] = S9 at gq er
    have g9 := gp.trans gq
    have e9 := g9 _ _ e1
    refine p_neL (seqAt_lst e9) (seqAt_lst er) ?_
    simp only [sd_cons, sd_nil, sd_zero, List.length_cons, List.length_nil, w_var, w_const, w_glob, w_prim, w_meth, w_cut, w_not, w_and, w_or, w_one, w_ite, w_chain, w_call, w_callk, wa_nil, wa_cons, wt_name, wt_tup, wts_nil, wts_cons, wt_sub, ws_nil, ws_cons, w_expr, w_asg, w_setc, w_par2, w_par3, w_aug, w_ret, w_retN, w_ifs, w_never, seqD_tup, tgsLen, p_add, p_sub, p_mul, p_div, p_mod, p_pow, p_neg, p_eq, p_ne, p_lt, p_le, p_gt, p_ge, p_abs, p_int, p_max, p_min, p_tup, p_lst, p_ixT, p_lenT, truth_bl, onV_some, onB_some, onN_some, onD_bl, onO_some, onL_some, on2_eq, on3_eq, onC_nil, onC_one, onAug_sub, onAug_add, onAug_mul, List.getElem?_cons_zero, List.getElem?_cons_succ, List.set_cons_zero, List.set_cons_succ, wipeD, List.map_cons, List.map_nil, true_and, and_true, decide_eq_true_eq, Bool.not_eq_true', decide_eq_false_iff_not, Nat.reduceAdd, Nat.zero_add, atI_0, atI_1, atI_2, p_eqT2, p_neT2, p_isT, p_isI, p_isB, reduceIte, reduceCtorEq, Int.cast_ofNat_Int, not_true_eq_false, not_false_eq_true, eq_self, if_false, if_true, Bool.true_eq_false, Bool.false_eq_true, Bool.not_true, Bool.not_false, Bool.and_true, Bool.true_and, Bool.and_false, Bool.false_and, p_inT2, p_neS, p_eqS]
    split
    · refine use (sp_law_is_straight (k := k + 1) H.h30 H.h31 H.h32 H.h35 H.h36 ms l6 L2 S9 (seqAt_lst e9) (fun z hz => (b6 z hz).mono (by decide))) fun d S10 hd => ?_
      obtain ⟨tv, rfl, g10, hs⟩ := hd
      have e10 := g10 _ _ e9
      have g810 := g9.trans g10
      simp only [sd_cons, sd_nil, sd_zero, List.length_cons, List.length_nil, w_var, w_const, w_glob, w_prim, w_meth, w_cut, w_not, w_and, w_or, w_one, w_ite, w_chain, w_call, w_callk, wa_nil, wa_cons, wt_name, wt_tup, wts_nil, wts_cons, wt_sub, ws_nil, ws_cons, w_expr, w_asg, w_setc, w_par2, w_par3, w_aug, w_ret, w_retN, w_ifs, w_never, seqD_tup, tgsLen, p_add, p_sub, p_mul, p_div, p_mod, p_pow, p_neg, p_eq, p_ne, p_lt, p_le, p_gt, p_ge, p_abs, p_int, p_max, p_min, p_tup, p_lst, p_ixT, p_lenT, truth_bl, onV_some, onB_some, onN_some, onD_bl, onO_some, onL_some, on2_eq, on3_eq, onC_nil, onC_one, onAug_sub, onAug_add, onAug_mul, List.getElem?_cons_zero, List.getElem?_cons_succ, List.set_cons_zero, List.set_cons_succ, wipeD, List.map_cons, List.map_nil, true_and, and_true, decide_eq_true_eq, Bool.not_eq_true', decide_eq_false_iff_not, Nat.reduceAdd, Nat.zero_add, atI_0, atI_1, atI_2, p_eqT2, p_neT2, p_isT, p_isI, p_isB, reduceIte, reduceCtorEq, Int.cast_ofNat_Int, not_true_eq_false, not_false_eq_true, eq_self, if_false, if_true, Bool.true_eq_false, Bool.false_eq_true, Bool.not_true, Bool.not_false, Bool.and_true, Bool.true_and, Bool.and_false, Bool.false_and, p_inT2, p_neS, p_eqS]
      cases tv with
      | false => simp only [Bool.false_eq_true, if_false]; exact ⟨g1.trans (g810.x r), p1.gr g810⟩
      | true =>
        simp only [if_true]
        have dq := hs rfl
        refine use (sp_law_plain (k := k + 4) H.h30 L2 ms S10 (seqAt_lst e10) (ne_of_disc l6 dq) (fun z h => (b6 z h).mono (by decide)) (by rw [l6]; exact Nat.le_trans (by decide) sz)) fun d S11 hd => ?_
        obtain ⟨q, rfl, g11, hq, e11⟩ := hd
        refine ⟨by decide, ⟨q, dvd ms, a, b, rfl, e11, ⟨by simp [dvd, l6], fun z hz => (dvd_bd b6 z hz).mono (by decide), discQ_dvd l6 dq⟩, ?_, pa, pb, ba, bb⟩, (g1.trans (g810.x r)).trans (g11.x r), ((p1.gr g810).gr g11).mono (by omega)⟩
        have := g1.len p1.lt
        have := g810.len
        omega
    · exact ⟨g1.trans (g9.x r), p1.gr g9⟩
  obtain ⟨rfl, g2, p2⟩ := h
  simp only [grS, sd_cons, sd_nil, sd_zero, List.length_cons, List.length_nil, w_var, w_const, w_glob, w_prim, w_meth, w_cut, w_not, w_and, w_or, w_one, w_ite, w_chain, w_call, w_callk, wa_nil, wa_cons, wt_name, wt_tup, wts_nil, wts_cons, wt_sub, ws_nil, ws_cons, w_expr, w_asg, w_setc, w_par2, w_par3, w_aug, w_ret, w_retN, w_ifs, w_never, seqD_tup, tgsLen, p_add, p_sub, p_mul, p_div, p_mod, p_pow, p_neg, p_eq, p_ne, p_lt, p_le, p_gt, p_ge, p_abs, p_int, p_max, p_min, p_tup, p_lst, p_ixT, p_lenT, truth_bl, onV_some, onB_some, onN_some, onD_bl, onO_some, onL_some, on2_eq, on3_eq, onC_nil, onC_one, onAug_sub, onAug_add, onAug_mul, List.getElem?_cons_zero, List.getElem?_cons_succ, List.set_cons_zero, List.set_cons_succ, wipeD, List.map_cons, List.map_nil, true_and, and_true, decide_eq_true_eq, Bool.not_eq_true', decide_eq_false_iff_not, Nat.reduceAdd, Nat.zero_add, atI_0, atI_1, atI_2, p_eqT2, p_neT2, p_isT, p_isI, p_isB, reduceIte, reduceCtorEq, Int.cast_ofNat_Int, not_true_eq_false, not_false_eq_true, eq_self, if_false, if_true, Bool.true_eq_false, Bool.false_eq_true, Bool.not_true, Bool.not_false, Bool.and_true, Bool.true_and, Bool.and_false, Bool.false_and, p_inT2, p_neS, p_eqS]
  refine use (sp_known (k := k) H r _ S8 p2 (by omega)) fun d S9 hd => ?_
  obtain ⟨⟨m, ks, kd, c, e, rfl, hm, kn, lm, pc, pe, bc, be⟩, g9, p9⟩ := hd
  have := g2.len p2.lt
  refine p_sliceT3 ?_
  exact ⟨⟨m, ks, c, e, rfl, hm, kn, by omega, pc, pe, bc.mono (by decide), be.mono (by decide)⟩, g2.trans g9, p9.mono (by omega)⟩
end CC
/-! The table of the law k31 (printed by gen.py). -/
namespace CC.k31
open L2 PySem PySem.Spec PyProof.Rows
def top (i : Nat) : Stmt := PySem.Challenge.pw_closechains_k31_exchanged_by_five_number.main.body.getD i (.Pass ⟨0, 0, 0, 0⟩)
def d_common_divisor : He.DefD := ⟨("common_divisor", none), "common_divisor", "common_divisor", defArgs (top 5), defBody (top 5), defScope (top 5), [], []⟩
def d_divided : He.DefD := ⟨("divided", none), "divided", "divided", defArgs (top 6), defBody (top 6), defScope (top 6), [], []⟩
def d_quartic_of : He.DefD := ⟨("quartic_of", none), "quartic_of", "quartic_of", defArgs (top 8), defBody (top 8), defScope (top 8), [], []⟩
def d_is_straight : He.DefD := ⟨("is_straight", none), "is_straight", "is_straight", defArgs (top 9), defBody (top 9), defScope (top 9), [], []⟩
def d_are_exchanged : He.DefD := ⟨("are_exchanged", none), "are_exchanged", "are_exchanged", defArgs (top 12), defBody (top 12), defScope (top 12), [], []⟩
def d__law_pool : He.DefD := ⟨("_law_pool", none), "_law_pool", "_law_pool", defArgs (top 14), defBody (top 14), defScope (top 14), [], []⟩
def d__law_draw : He.DefD := ⟨("_law_draw", none), "_law_draw", "_law_draw", defArgs (top 15), defBody (top 15), defScope (top 15), [], []⟩
def d__law_low : He.DefD := ⟨("_law_low", none), "_law_low", "_law_low", defArgs (top 16), defBody (top 16), defScope (top 16), [], []⟩
def d__law_plain : He.DefD := ⟨("_law_plain", none), "_law_plain", "_law_plain", defArgs (top 17), defBody (top 17), defScope (top 17), [], []⟩
def d__law_at : He.DefD := ⟨("_law_at", none), "_law_at", "_law_at", defArgs (top 18), defBody (top 18), defScope (top 18), [], []⟩
def d__law_form : He.DefD := ⟨("_law_form", none), "_law_form", "_law_form", defArgs (top 19), defBody (top 19), defScope (top 19), [], []⟩
def d__law_next : He.DefD := ⟨("_law_next", none), "_law_next", "_law_next", defArgs (top 20), defBody (top 20), defScope (top 20), [], []⟩
def d__law_chain : He.DefD := ⟨("_law_chain", none), "_law_chain", "_law_chain", defArgs (top 21), defBody (top 21), defScope (top 21), [], []⟩
def d__law_five : He.DefD := ⟨("_law_five", none), "_law_five", "_law_five", defArgs (top 22), defBody (top 22), defScope (top 22), [], []⟩
def d__law_is_straight : He.DefD := ⟨("_law_is_straight", none), "_law_is_straight", "_law_is_straight", defArgs (top 23), defBody (top 23), defScope (top 23), [], []⟩
def d__law_tate : He.DefD := ⟨("_law_tate", none), "_law_tate", "_law_tate", defArgs (top 24), defBody (top 24), defScope (top 24), [], []⟩
def d__law_known : He.DefD := ⟨("_law_known", none), "_law_known", "_law_known", defArgs (top 25), defBody (top 25), defScope (top 25), [], []⟩
def d__law_start : He.DefD := ⟨("_law_start", none), "_law_start", "_law_start", defArgs (top 26), defBody (top 26), defScope (top 26), [], []⟩
def d__law_great : He.DefD := ⟨("_law_great", none), "_law_great", "_law_great", defArgs (top 27), defBody (top 27), defScope (top 27), [], []⟩
def d__law_made : He.DefD := ⟨("_law_made", none), "_law_made", "_law_made", defArgs (top 28), defBody (top 28), defScope (top 28), [], []⟩
def d__law_names : He.DefD := ⟨("_law_names", none), "_law_names", "_law_names", defArgs (top 29), defBody (top 29), defScope (top 29), [], []⟩
def d__law_renamed : He.DefD := ⟨("_law_renamed", none), "_law_renamed", "_law_renamed", defArgs (top 30), defBody (top 30), defScope (top 30), [], []⟩
def d__law_two : He.DefD := ⟨("_law_two", none), "_law_two", "_law_two", defArgs (top 31), defBody (top 31), defScope (top 31), [], []⟩
def d__law_right : He.DefD := ⟨("_law_right", none), "_law_right", "_law_right", defArgs (top 32), defBody (top 32), defScope (top 32), [], []⟩
def d_law : He.DefD := ⟨("law", none), "law", "law", defArgs (top 33), defBody (top 33), defScope (top 33), [], []⟩
def d_Relation_init : He.DefD := ⟨("Relation", some "__init__"), "__init__", "Relation.__init__", defArgs (inClass (top 10) 0), defBody (inClass (top 10) 0), defScope (inClass (top 10) 0), [], []⟩
def d_Relation_numbers : He.DefD := ⟨("Relation", some "numbers"), "numbers", "Relation.numbers", defArgs (inClass (top 10) 1), defBody (inClass (top 10) 1), defScope (inClass (top 10) 1), [], []⟩
def fns : List Fn := ([f_common_divisor, f_divided, f_quartic_of, f_is_straight_0, f_are_exchanged, f_law_pool, f_law_draw, f_law_low, f_law_plain, f_law_at, f_law_form, f_law_next, f_law_chain, f_law_five, f_law_is_straight, f_law_tate, f_law_known, f_law_start, f_law_great, f_law_made_1, f_law_names, f_law_renamed_0, f_law_two, f_law_right_30, f_law_30] : List Fn) ++ ([f_Relation_init_0, f_Relation_numbers] : List Fn)
def ids : List Nat := ([6, 27, 28, 29, 143, 0, 1, 10, 30, 31, 32, 33, 34, 35, 36, 37, 38, 39, 40, 357, 108, 109, 146, 147, 148] : List Nat) ++ ([354, 355] : List Nat)
def defs : List He.DefD := ([d_common_divisor, d_divided, d_quartic_of, d_is_straight, d_are_exchanged, d__law_pool, d__law_draw, d__law_low, d__law_plain, d__law_at, d__law_form, d__law_next, d__law_chain, d__law_five, d__law_is_straight, d__law_tate, d__law_known, d__law_start, d__law_great, d__law_made, d__law_names, d__law_renamed, d__law_two, d__law_right, d_law] : List He.DefD) ++ ([d_Relation_init, d_Relation_numbers] : List He.DefD)
def gls : List (Str × D) := []
def kws : List (List (Nat × List Str × List Nat)) := ([[], [], [], [], [(0, ["relation", "other"], [0, 1])], [], [], [], [], [], [], [], [], [], [], [], [], [], [], [], [], [], [], [], []] : List (List (Nat × List Str × List Nat))) ++ ([[], []] : List (List (Nat × List Str × List Nat)))
def tab : Tab := ⟨ids, fns, defs, gls, kws, [1], [⟨"Relation", ["kept_numbers"], [("numbers", 355)], 354⟩]⟩
theorem b_common_divisor : BindOk d_common_divisor f_common_divisor.ps [] where
  plain := fun kV doc pm an cdv ct us hl => match us, hl with | [_, _], _ => rfl
  kw := fun q hq => nomatch hq
theorem b_divided : BindOk d_divided f_divided.ps [] where
  plain := fun kV doc pm an cdv ct us hl => match us, hl with | [_], _ => rfl
  kw := fun q hq => nomatch hq
theorem b_quartic_of : BindOk d_quartic_of f_quartic_of.ps [] where
  plain := fun kV doc pm an cdv ct us hl => match us, hl with | [_], _ => rfl
  kw := fun q hq => nomatch hq
theorem b_is_straight : BindOk d_is_straight f_is_straight_0.ps [] where
  plain := fun kV doc pm an cdv ct us hl => match us, hl with | [_], _ => rfl
  kw := fun q hq => nomatch hq
theorem b_are_exchanged : BindOk d_are_exchanged f_are_exchanged.ps [(0, ["relation", "other"], [0, 1])] where
  plain := fun kV doc pm an cdv ct us hl => match us, hl with | [_, _], _ => rfl
  kw := by
    intro q hq
    simp only [List.mem_cons, List.not_mem_nil, or_false] at hq
    subst hq
    intro kV doc pm an cdv ct us ws rs h1 h2 h3 h4
    exact match us, h1, ws, h2, h3 with | [], _, [w0, w1], _, h3 => by cases h3; rfl
theorem b__law_pool : BindOk d__law_pool f_law_pool.ps [] where
  plain := fun kV doc pm an cdv ct us hl => match us, hl with | [_, _], _ => rfl
  kw := fun q hq => nomatch hq
theorem b__law_draw : BindOk d__law_draw f_law_draw.ps [] where
  plain := fun kV doc pm an cdv ct us hl => match us, hl with | [_, _], _ => rfl
  kw := fun q hq => nomatch hq
theorem b__law_low : BindOk d__law_low f_law_low.ps [] where
  plain := fun kV doc pm an cdv ct us hl => match us, hl with | [_, _], _ => rfl
  kw := fun q hq => nomatch hq
theorem b__law_plain : BindOk d__law_plain f_law_plain.ps [] where
  plain := fun kV doc pm an cdv ct us hl => match us, hl with | [_], _ => rfl
  kw := fun q hq => nomatch hq
theorem b__law_at : BindOk d__law_at f_law_at.ps [] where
  plain := fun kV doc pm an cdv ct us hl => match us, hl with | [_, _, _], _ => rfl
  kw := fun q hq => nomatch hq
theorem b__law_form : BindOk d__law_form f_law_form.ps [] where
  plain := fun kV doc pm an cdv ct us hl => match us, hl with | [_, _], _ => rfl
  kw := fun q hq => nomatch hq
theorem b__law_next : BindOk d__law_next f_law_next.ps [] where
  plain := fun kV doc pm an cdv ct us hl => match us, hl with | [_, _, _], _ => rfl
  kw := fun q hq => nomatch hq
theorem b__law_chain : BindOk d__law_chain f_law_chain.ps [] where
  plain := fun kV doc pm an cdv ct us hl => match us, hl with | [_, _, _, _], _ => rfl
  kw := fun q hq => nomatch hq
theorem b__law_five : BindOk d__law_five f_law_five.ps [] where
  plain := fun kV doc pm an cdv ct us hl => match us, hl with | [_], _ => rfl
  kw := fun q hq => nomatch hq
theorem b__law_is_straight : BindOk d__law_is_straight f_law_is_straight.ps [] where
  plain := fun kV doc pm an cdv ct us hl => match us, hl with | [_], _ => rfl
  kw := fun q hq => nomatch hq
theorem b__law_tate : BindOk d__law_tate f_law_tate.ps [] where
  plain := fun kV doc pm an cdv ct us hl => match us, hl with | [_], _ => rfl
  kw := fun q hq => nomatch hq
theorem b__law_known : BindOk d__law_known f_law_known.ps [] where
  plain := fun kV doc pm an cdv ct us hl => match us, hl with | [_], _ => rfl
  kw := fun q hq => nomatch hq
theorem b__law_start : BindOk d__law_start f_law_start.ps [] where
  plain := fun kV doc pm an cdv ct us hl => match us, hl with | [_], _ => rfl
  kw := fun q hq => nomatch hq
theorem b__law_great : BindOk d__law_great f_law_great.ps [] where
  plain := fun kV doc pm an cdv ct us hl => match us, hl with | [_], _ => rfl
  kw := fun q hq => nomatch hq
theorem b__law_made : BindOk d__law_made f_law_made_1.ps [] where
  plain := fun kV doc pm an cdv ct us hl => match us, hl with | [_], _ => rfl
  kw := fun q hq => nomatch hq
theorem b__law_names : BindOk d__law_names f_law_names.ps [] where
  plain := fun kV doc pm an cdv ct us hl => match us, hl with | [_], _ => rfl
  kw := fun q hq => nomatch hq
theorem b__law_renamed : BindOk d__law_renamed f_law_renamed_0.ps [] where
  plain := fun kV doc pm an cdv ct us hl => match us, hl with | [_, _], _ => rfl
  kw := fun q hq => nomatch hq
theorem b__law_two : BindOk d__law_two f_law_two.ps [] where
  plain := fun kV doc pm an cdv ct us hl => match us, hl with | [_], _ => rfl
  kw := fun q hq => nomatch hq
theorem b__law_right : BindOk d__law_right f_law_right_30.ps [] where
  plain := fun kV doc pm an cdv ct us hl => match us, hl with | [_], _ => rfl
  kw := fun q hq => nomatch hq
theorem b_law : BindOk d_law f_law_30.ps [] where
  plain := fun kV doc pm an cdv ct us hl => match us, hl with | [_], _ => rfl
  kw := fun q hq => nomatch hq
theorem b_Relation_init : BindOk d_Relation_init f_Relation_init_0.ps [] where
  plain := fun kV doc pm an cdv ct us hl => match us, hl with | [_, _], _ => rfl
  kw := fun q hq => nomatch hq
theorem b_Relation_numbers : BindOk d_Relation_numbers f_Relation_numbers.ps [] where
  plain := fun kV doc pm an cdv ct us hl => match us, hl with | [_], _ => rfl
  kw := fun q hq => nomatch hq
theorem binds : BindsOk tab.fns tab.defs tab.kws := (.cons b_common_divisor (.cons b_divided (.cons b_quartic_of (.cons b_is_straight (.cons b_are_exchanged (.cons b__law_pool (.cons b__law_draw (.cons b__law_low (.cons b__law_plain (.cons b__law_at (.cons b__law_form (.cons b__law_next (.cons b__law_chain (.cons b__law_five (.cons b__law_is_straight (.cons b__law_tate (.cons b__law_known (.cons b__law_start (.cons b__law_great (.cons b__law_made (.cons b__law_names (.cons b__law_renamed (.cons b__law_two (.cons b__law_right (.cons b_law (.cons b_Relation_init (.cons b_Relation_numbers .nil)))))))))))))))))))))))))))
theorem ok : ((tab.fns.zip tab.defs).all fun p => tab.okB p.1 p.2) = true := by decide +kernel
abbrev row : PySem.W.OpenRow := PySem.W.OpenLaw.row PySem.Challenge.rw_closechains_k31_exchanged_by_five_number
abbrev hook : PySem.W.Hook := hookC 8 tab.fa tab.das tab.gls tab.prs
def loose : List Str := (["ChainError", "InvalidNumber", "Bent", "common_divisor", "divided", "quartic_of", "is_straight", "Relation", "are_exchanged", "_law_pool", "_law_draw", "_law_low", "_law_plain", "_law_at", "_law_form", "_law_next", "_law_chain", "_law_five", "_law_is_straight", "_law_tate", "_law_known", "_law_start", "_law_great", "_law_made", "_law_names"] : List Str) ++ (["_law_renamed", "_law_two", "_law_right"] : List Str)
def ob (s : PySem.W.SharedT) : He.AlD × Bool := obsC 8 tab.fa tab.das tab.gls tab.prs (HandSHeadRun.getT s)
theorem ob_eq (s : PySem.W.SharedT) : ob s = hook.obs s.abs := obsC_eq (HandSHeadRun.getT_eq s)
theorem okc : ((tab.cids.zip tab.clss).all fun p => tab.clB p) = true := by decide +kernel
theorem runs (w : World) : HandSHeadRun.RunEq row (PySem.W.view row.prog [33]) hook ob 20000 loose w := by
  intro os
  kernel_rfl
end CC.k31
open PyProof.Rows PySem PySem.W PySem.Calls
theorem CC.k31.holds (hlaw : ∀ ns : List Int, ns.length ≤ 63 → CC.wpF CC.k31.tab.T 16 148 [.ref 0] [.rol (ns.map CC.D.int)] (fun d _ => d = .bl true) fun _ _ => False) : PySem.Challenge.rw_closechains_k31_exchanged_by_five_number.Holds := by
  w_on
  o_law
  refine HandSHeadRun.head_any (r := CC.k31.row) (q := view CC.k31.row.prog [33]) (H := CC.k31.hook) (ob := CC.k31.ob) (M := 20000) (loose := CC.k31.loose) (d := HandSHeadRun.topDef CC.k31.row.prog 33) (kwd := []) CC.k31.ob_eq
    (by kernel_rfl) (fun s => by kernel_rfl) CC.k31.runs (by kernel_rfl) (by kernel_rfl) (by kernel_rfl) (by rfl) (by first | assumption | decide +kernel) (by decide +kernel) ⟨rfl, rfl, rfl, rfl, rfl, by decide +kernel⟩ ?hw ?hc
  case hw => w_witness2
  case hc => exact CC.walk_tab (l := PySem.Challenge.rw_closechains_k31_exchanged_by_five_number) (n := 63) (k := 15) (f := 148) (m := 8) (t := CC.k31.tab) (fn := CC.f_law_30) (x := "script") rfl (by decide) (by kernel_rfl) ⟨rfl, by decide, by decide⟩ (by rfl) rfl (by kernel_rfl) (by rfl) CC.k31.okc CC.k31.ok CC.k31.binds hlaw
/-! The law of exchanged relations. -/
namespace CC
open PySem L2
/-! ### proportional lists -/
theorem dvd_ne {u : List Int} (h : ∃ n ∈ u, n ≠ 0) : ∃ n ∈ dvd u, n ≠ 0 := by
  obtain ⟨g, hg, e⟩ := dvd_back h
  obtain ⟨n, hn, h0⟩ := h
  rw [e] at hn
  obtain ⟨m, hm, rfl⟩ := List.mem_map.mp hn
  exact ⟨m, hm, fun z => h0 (by rw [z]; simp)⟩
theorem dvd_prop {u v : List Int} (hu : ∃ n ∈ u, n ≠ 0) (hv : ∃ n ∈ v, n ≠ 0) (hl : u.length = v.length) : dvd u = dvd v ↔ ∀ (i j : Nat) (x y z w : Int), u[i]? = some x → v[j]? = some y → u[j]? = some z → v[i]? = some w → x * y = z * w := by
  constructor
  · intro h i j x y z w h1 h2 h3 h4
    obtain ⟨g, hg, eu⟩ := dvd_back hu
    obtain ⟨f, hf, ev⟩ := dvd_back hv
    rw [h] at eu
    generalize dvd v = q at eu ev
    subst eu ev
    rw [List.getElem?_map] at h1 h2 h3 h4
    cases hi : q[i]? with
    | none => rw [hi] at h1; cases h1
    | some a =>
      cases hj : q[j]? with
      | none => rw [hj] at h2; cases h2
      | some b =>
        rw [hi] at h1 h4
        rw [hj] at h2 h3
        cases h1; cases h2; cases h3; cases h4
        grind
  · intro h
    obtain ⟨n, hn, n0⟩ := hu
    obtain ⟨k, hk⟩ := List.getElem?_of_mem hn
    have kl := (List.getElem?_eq_some_iff.mp hk).1
    obtain ⟨m, hm⟩ : ∃ m, v[k]? = some m := ⟨_, List.getElem?_eq_getElem (by omega)⟩
    have m0 : m ≠ 0 := by
      rintro rfl
      obtain ⟨y, hy, y0⟩ := hv
      obtain ⟨j, hj⟩ := List.getElem?_of_mem hy
      have jl := (List.getElem?_eq_some_iff.mp hj).1
      obtain ⟨z, hz⟩ : ∃ z, u[j]? = some z := ⟨_, List.getElem?_eq_getElem (by omega)⟩
      have := h k j n y z 0 hk hj hz hm
      rw [Int.mul_zero] at this
      rcases Int.mul_eq_zero.mp this with e | e
      · exact n0 e
      · exact y0 e
    have key : u.map (m * ·) = v.map (n * ·) := by
      apply List.ext_getElem?
      intro j
      rw [List.getElem?_map, List.getElem?_map]
      by_cases jl : j < u.length
      · obtain ⟨z, hz⟩ : ∃ z, u[j]? = some z := ⟨_, List.getElem?_eq_getElem jl⟩
        obtain ⟨y, hy⟩ : ∃ y, v[j]? = some y := ⟨_, List.getElem?_eq_getElem (by omega)⟩
        rw [hz, hy]
        have := h k j n y z m hk hy hz hm
        show some (m * z) = some (n * y)
        rw [this, Int.mul_comm]
      · rw [List.getElem?_eq_none (by omega), List.getElem?_eq_none (by omega)]
        rfl
    rw [← dvd_smul m0 ⟨n, hn, n0⟩, key, dvd_smul n0 hv]
theorem quartL_ne {ns : List Int} (h6 : ns.length = 6) (h : discQ ns ≠ 0) : ∃ n ∈ quartL ns, n ≠ 0 := by
  obtain ⟨a, b, c, d, f, eq⟩ : ∃ a b c d f, quartL ns = [a, b, c, d, f] := by
    match ns, h6 with
    | [_, _, _, _, _, _], _ => exact ⟨_, _, _, _, _, rfl⟩
  simp only [discQ, eq] at h
  rw [eq]
  by_cases ha : a = 0
  · by_cases hb : b = 0
    · by_cases hc : c = 0
      · subst ha hb hc
        exact absurd (by simp [discV]) h
      · exact ⟨c, by simp, hc⟩
    · exact ⟨b, by simp, hb⟩
  · exact ⟨a, by simp, ha⟩
/-- the divided quartic of a divided relation -/
theorem dvd_quart {ns : List Int} (h6 : ns.length = 6) (h : discQ ns ≠ 0) : dvd (quartL (dvd ns)) = dvd (quartL ns) := by
  obtain ⟨g, hg, e⟩ := dvd_back (ne_of_disc h6 h)
  have l6 : (dvd ns).length = 6 := by simp [dvd, h6]
  have q := quartL_smul l6 g
  rw [← e] at q
  rw [q, dvd_smul (Int.mul_ne_zero hg hg) (quartL_ne l6 (discQ_dvd h6 h))]
theorem sp_exch {T : Nat → Option Fn} {k : Nat} (HR : HasRel T) (h143 : T 143 = some f_are_exchanged) (ns ms : List Int) (l6 : ns.length = 6) (m6 : ms.length = 6) (r q : Nat) (S : Store) (hr : S[r]? = some (RelI ns)) (hq : S[q]? = some (RelI ms)) (bn : ∀ n ∈ ns, Bd 200 n) (bm : ∀ n ∈ ms, Bd 200 n) (dn : discQ ns ≠ 0) (dm : discQ ms ≠ 0) :
    wpF T (k + 3) 143 [.ref r, .ref q] S (fun d S1 => d = .bl (decide (dvd (quartL ns) = dvd (quartL ms))) ∧ Gr S S1) fun _ _ => False := by
  have one : ∀ (ns : List Int) (r : Nat) (S0 : Store) (Q : Post), ns.length = 6 → (∀ n ∈ ns, Bd 200 n) → discQ ns ≠ 0 → S0[r]? = some (RelI ns) → (∀ L S1, Gr S0 S1 → S1[L]? = some (.lst ((dvd (quartL ns)).map D.int)) → Q (.ref L) S1) →
      onI (insAt (.ref r) S0) (fun c fs => [1].contains c = true ∧ onO (fs.lookup ("kept_numbers" : Str)) fun v => wpF T (k + 2) 28 [v] S0 (fun d S1 => wpF T (k + 2) 27 [d] S1 Q fun _ _ => False) fun _ _ => False) := fun ns r S0 Q l6 bn dn hr hq => by
    refine onI_of hr ⟨rfl, ?_⟩
    rw [show List.lookup ("kept_numbers" : Str) [(("kept_numbers" : Str), D.tup ((dvd ns).map D.int))] = some (.tup ((dvd ns).map D.int)) from by simp [List.lookup], onO_some]
    have ld : (dvd ns).length = 6 := by simp [dvd, l6]
    refine use (sp_quartic HR.h28 (dvd ns) ld _ S0 rfl (N := 200) (by decide) (dvd_bd bn)) fun d S1 hd => ?_
    obtain ⟨m, rfl, g1, e1⟩ := hd
    have qb := quartL_bd ld (dvd_bd bn)
    have q5 : (quartL (dvd ns)).length = 5 := by
      match dvd ns, ld with
      | [_, _, _, _, _, _], _ => rfl
    refine use (sp_divided HR.h6 HR.h27 m _ S1 (seqAt_lst e1) (quartL_ne ld (discQ_dvd l6 dn)) (fun n h => (qb n h).mono (by decide)) (by rw [q5]; decide)) fun d S2 hd => ?_
    obtain ⟨L, rfl, g2, _, e2⟩ := hd
    rw [dvd_quart l6 dn] at e2
    exact hq L S2 (g1.trans g2) e2
  rw [wF h143]
  refine ⟨rfl, ?_⟩
  simp only [f_are_exchanged, sd_cons, sd_nil, sd_zero, List.length_cons, List.length_nil, Nat.reduceAdd, Nat.zero_add, ws_cons, ws_nil, w_ret, w_prim, w_call, w_fld, wa_cons, wa_nil, w_var, List.getElem?_cons_succ, List.getElem?_cons_zero, onV_some]
  refine one ns r S _ l6 bn dn hr fun L S1 g1 e1 => ?_
  refine one ms q S1 _ m6 bm dm (g1 _ _ hq) fun L2 S2 g2 e2 => ?_
  exact p_eqL (seqAt_lst (g2 _ _ e1)) (seqAt_lst e2) ⟨rfl, g1.trans g2⟩
theorem sp_names {T : Nat → Option Fn} {k : Nat} (H : HasLaw T) (h108 : T 108 = some f_law_names) (r n : Nat) (S : Store) (hp : Pool S r n) (hn : n ≤ 2 ^ 29) :
    wpF T (k + 2) 108 [.ref r] S (fun d S1 => ∃ m, ∃ ns : List Int, d = .ref m ∧ m ≠ r ∧ S1[m]? = some (.lst (ns.map D.int)) ∧ ns.length = 4 ∧ (∀ z ∈ ns, Bd 3 z) ∧ GrX r S S1 ∧ Pool S1 r (n + 5)) fun _ _ => False := by
  rw [wF h108]
  refine ⟨rfl, ?_⟩
  simp only [f_law_names, sd_cons, sd_nil, sd_zero, List.length_cons, List.length_nil, Nat.reduceAdd, Nat.zero_add]
  refine cutS (wpF_mono _ _) (fun σ S1 => ∃ m, ∃ ns : List Int, σ = [some (.ref r), some (.ref m), none] ∧ m ≠ r ∧ S1[m]? = some (.lst (ns.map D.int)) ∧ ns.length = 4 ∧ (∀ z ∈ ns, Bd 3 z) ∧ GrX r S S1 ∧ Pool S1 r (n + 4)) ?_ fun σ S1 h => ?_
  · simp only [w_setc]
    refine wp_draws (N := 4) (b := 3) (wpF_mono _ _) (by decide) hp (fun v S5 m hm hm2 => ?_) fun ns S5 h5 hb g5 p5 e5 => ?_
    · simp only [sd_cons, sd_nil, sd_zero, List.length_cons, List.length_nil, w_var, w_const, w_glob, w_prim, w_meth, w_cut, w_not, w_and, w_or, w_one, w_ite, w_chain, w_call, w_callk, wa_nil, wa_cons, wt_name, wt_tup, wts_nil, wts_cons, wt_sub, ws_nil, ws_cons, w_expr, w_asg, w_setc, w_par2, w_par3, w_aug, w_ret, w_retN, w_ifs, w_never, seqD_tup, tgsLen, p_add, p_sub, p_mul, p_div, p_mod, p_pow, p_neg, p_eq, p_ne, p_lt, p_le, p_gt, p_ge, p_abs, p_int, p_max, p_min, p_tup, p_lst, p_ixT, p_lenT, truth_bl, onV_some, onB_some, onN_some, onD_bl, onO_some, onL_some, on2_eq, on3_eq, onC_nil, onC_one, onAug_sub, onAug_add, onAug_mul, List.getElem?_cons_zero, List.getElem?_cons_succ, List.set_cons_zero, List.set_cons_succ, wipeD, List.map_cons, List.map_nil, true_and, and_true, decide_eq_true_eq, Bool.not_eq_true', decide_eq_false_iff_not, Nat.reduceAdd, Nat.zero_add, atI_0, atI_1, atI_2, p_eqT2, p_neT2, p_isT, p_isI, p_isB, reduceIte, reduceCtorEq, Int.cast_ofNat_Int, not_true_eq_false, not_false_eq_true, eq_self, if_false, if_true, Bool.true_eq_false, Bool.false_eq_true, Bool.not_true, Bool.not_false, Bool.and_true, Bool.true_and, Bool.and_false, Bool.false_and, p_inT2, p_neS, p_eqS]
      refine use (sp_draw H.h1 r _ 7 S5 hm (by omega) (by decide) (by decide)) fun d S6 hd => ?_
      obtain ⟨v1, rfl, a1, b1, g2, p2⟩ := hd
      simp only [sd_cons, sd_nil, sd_zero, List.length_cons, List.length_nil, w_var, w_const, w_glob, w_prim, w_meth, w_cut, w_not, w_and, w_or, w_one, w_ite, w_chain, w_call, w_callk, wa_nil, wa_cons, wt_name, wt_tup, wts_nil, wts_cons, wt_sub, ws_nil, ws_cons, w_expr, w_asg, w_setc, w_par2, w_par3, w_aug, w_ret, w_retN, w_ifs, w_never, seqD_tup, tgsLen, p_add, p_sub, p_mul, p_div, p_mod, p_pow, p_neg, p_eq, p_ne, p_lt, p_le, p_gt, p_ge, p_abs, p_int, p_max, p_min, p_tup, p_lst, p_ixT, p_lenT, truth_bl, onV_some, onB_some, onN_some, onD_bl, onO_some, onL_some, on2_eq, on3_eq, onC_nil, onC_one, onAug_sub, onAug_add, onAug_mul, List.getElem?_cons_zero, List.getElem?_cons_succ, List.set_cons_zero, List.set_cons_succ, wipeD, List.map_cons, List.map_nil, true_and, and_true, decide_eq_true_eq, Bool.not_eq_true', decide_eq_false_iff_not, Nat.reduceAdd, Nat.zero_add, atI_0, atI_1, atI_2, p_eqT2, p_neT2, p_isT, p_isI, p_isB, reduceIte, reduceCtorEq, Int.cast_ofNat_Int, not_true_eq_false, not_false_eq_true, eq_self, if_false, if_true, Bool.true_eq_false, Bool.false_eq_true, Bool.not_true, Bool.not_false, Bool.and_true, Bool.true_and, Bool.and_false, Bool.false_and, p_inT2, p_neS, p_eqS]
      exact ⟨⟨_, rfl, Bd.of (by omega) (by omega)⟩, g2, p2⟩
    · exact ⟨_, ns, rfl, by have := hp.lt; omega, e5, h5, hb, g5, p5⟩
  obtain ⟨m, ns, rfl, hm, e1, l4, hb, g1, p1⟩ := h
  match ns, l4 with
  | [a, b, c, d], _ =>
    have a3 : atI (([a, b, c, d] : List Int).map D.int) 3 = some (.int d) := atI_nat (i := 3) (by simp)
    have a0 : atI (([a, b, c, d] : List Int).map D.int) 0 = some (.int a) := atI_nat (i := 0) (by simp)
    have a1 : atI (([a, b, c, d] : List Int).map D.int) 1 = some (.int b) := atI_nat (i := 1) (by simp)
    have a2 : atI (([a, b, c, d] : List Int).map D.int) 2 = some (.int c) := atI_nat (i := 2) (by simp)
    have ba := hb a (by simp)
    have bb := hb b (by simp)
    have bc := hb c (by simp)
    have bd := hb d (by simp)
    have e1' := e1
    have s1 := seqAt_lst e1
    generalize (([a, b, c, d] : List Int).map D.int) = V at e1 s1 a0 a1 a2 a3
    simp only [sd_cons, sd_nil, sd_zero, List.length_cons, List.length_nil, w_var, w_const, w_glob, w_prim, w_meth, w_cut, w_not, w_and, w_or, w_one, w_ite, w_chain, w_call, w_callk, wa_nil, wa_cons, wt_name, wt_tup, wts_nil, wts_cons, wt_sub, ws_nil, ws_cons, w_expr, w_asg, w_setc, w_par2, w_par3, w_aug, w_ret, w_retN, w_ifs, w_never, seqD_tup, tgsLen, p_add, p_sub, p_mul, p_div, p_mod, p_pow, p_neg, p_eq, p_ne, p_lt, p_le, p_gt, p_ge, p_abs, p_int, p_max, p_min, p_tup, p_lst, p_ixT, p_lenT, truth_bl, onV_some, onB_some, onN_some, onD_bl, onO_some, onL_some, on2_eq, on3_eq, onC_nil, onC_one, onAug_sub, onAug_add, onAug_mul, List.getElem?_cons_zero, List.getElem?_cons_succ, List.set_cons_zero, List.set_cons_succ, wipeD, List.map_cons, List.map_nil, true_and, and_true, decide_eq_true_eq, Bool.not_eq_true', decide_eq_false_iff_not, Nat.reduceAdd, Nat.zero_add, atI_0, atI_1, atI_2, p_eqT2, p_neT2, p_isT, p_isI, p_isB, reduceIte, reduceCtorEq, Int.cast_ofNat_Int, not_true_eq_false, not_false_eq_true, eq_self, if_false, if_true, Bool.true_eq_false, Bool.false_eq_true, Bool.not_true, Bool.not_false, Bool.and_true, Bool.true_and, Bool.and_false, Bool.false_and, p_inT2, p_neS, p_eqS, p_ixE s1, a0, a1, a2, a3]
    refine ⟨ba.mulOk bd (by decide) (by decide), bb.mulOk bc (by decide) (by decide), ?_⟩
    split
    · refine ⟨by decide, by decide, by decide, ?_⟩
      simp only [List.append_assoc, List.cons_append, List.nil_append, List.length_append, List.length_cons, List.length_nil, Nat.zero_add]
      have gp := Gr.app S1 [O.lst [.int 0, .int 1, .int 1, .int 0], O.lst [.int 1, .int 2, .int 0, .int 1], O.lst [.ref S1.length, .ref (S1.length + 1)]]
      have q0 := gA0 S1 [O.lst [.int 0, .int 1, .int 1, .int 0], O.lst [.int 1, .int 2, .int 0, .int 1], O.lst [.ref S1.length, .ref (S1.length + 1)]]
      have q1 := gA1 S1 [O.lst [.int 0, .int 1, .int 1, .int 0], O.lst [.int 1, .int 2, .int 0, .int 1], O.lst [.ref S1.length, .ref (S1.length + 1)]]
      have q2 := gA2 S1 [O.lst [.int 0, .int 1, .int 1, .int 0], O.lst [.int 1, .int 2, .int 0, .int 1], O.lst [.ref S1.length, .ref (S1.length + 1)]]
      generalize S1 ++ [O.lst [D.int 0, D.int 1, D.int 1, D.int 0], O.lst [D.int 1, D.int 2, D.int 0, D.int 1], O.lst [D.ref S1.length, D.ref (S1.length + 1)]] = S2 at gp q0 q1 q2 ⊢
      have rl := p1.lt
      refine use (sp_draw H.h1 r _ 2 S2 (p1.gr gp) (by omega) (by decide) (by decide)) fun d S6 hd => ?_
      obtain ⟨v1, rfl, x1, y1, g2, p2⟩ := hd
      have e6 := g2 _ _ (by omega : S1.length + 1 + 1 ≠ r) (q2.trans rfl)
      have f0 := g2 _ _ (by omega : S1.length ≠ r) (q0.trans rfl)
      have f1 := g2 _ _ (by omega : S1.length + 1 ≠ r) (q1.trans rfl)
      have g12 := (g1.trans (gp.x r)).trans g2
      have hv : v1 = 0 ∨ v1 = 1 := by omega
      rcases hv with rfl | rfl
      · simp only [p_ixE (seqAt_lst e6), atI_0, onO_some]
        exact ⟨_, [0, 1, 1, 0], rfl, by omega, f0, rfl, fun z hz => by
          simp only [List.mem_cons, List.not_mem_nil, or_false] at hz
          rcases hz with rfl | rfl | rfl | rfl <;> exact Bd.of (by decide) (by decide), g12, p2⟩
      · simp only [p_ixE (seqAt_lst e6), atI_1, onO_some]
        exact ⟨_, [1, 2, 0, 1], rfl, by omega, f1, rfl, fun z hz => by
          simp only [List.mem_cons, List.not_mem_nil, or_false] at hz
          rcases hz with rfl | rfl | rfl | rfl <;> exact Bd.of (by decide) (by decide), g12, p2⟩
    · exact ⟨m, [a, b, c, d], rfl, hm, e1', rfl, hb, g1, p1.mono (by omega)⟩
def hlL : List (Int × Int) := [(1, 0), (0, 1), (1, 1)]
def spD (a b c d : Int) (x : Int × Int) : D := .tup [.int (a * x.1 + b * x.2), .int (c * x.1 + d * x.2)]
theorem sp_renamed {T : Nat → Option Fn} {k : Nat} (H : HasLaw T) (h109 : T 109 = some f_law_renamed_0) (ns ws : List Int) (h6 : ns.length = 6) (h4 : ws.length = 4) (l m : Nat) (S : Store) (hl : seqAt S l = some (ns.map D.int)) (hm : seqAt S m = some (ws.map D.int)) (hn : ∀ z ∈ ns, Bd 8 z) (hw : ∀ z ∈ ws, Bd 3 z) :
    wpF T (k + 2) 109 [.ref l, .ref m] S (fun d S1 => ∃ q, ∃ ms : List Int, d = .ref q ∧ Gr S S1 ∧ S.length ≤ q ∧ S1[q]? = some (.lst (ms.map D.int)) ∧ ms.length = 6 ∧ ∀ z ∈ ms, Bd 60 z) fun _ _ => False := by
  have sz : (20 : Nat) ≤ sizeLine := by decide
  match ws, h4 with
  | [a, b, c, d], _ =>
    have ba := hw a (by simp)
    have bb := hw b (by simp)
    have bc := hw c (by simp)
    have bd := hw d (by simp)
    have a3 : atI (([a, b, c, d] : List Int).map D.int) 3 = some (.int d) := atI_nat (i := 3) (by simp)
    have a0 : atI (([a, b, c, d] : List Int).map D.int) 0 = some (.int a) := atI_nat (i := 0) (by simp)
    have a1 : atI (([a, b, c, d] : List Int).map D.int) 1 = some (.int b) := atI_nat (i := 1) (by simp)
    have a2 : atI (([a, b, c, d] : List Int).map D.int) 2 = some (.int c) := atI_nat (i := 2) (by simp)
    generalize (([a, b, c, d] : List Int).map D.int) = V at hm a0 a1 a2 a3
    rw [wF h109]
    refine ⟨rfl, ?_⟩
    simp only [f_law_renamed_0, sd_cons, sd_nil, sd_zero, List.length_cons, List.length_nil, Nat.reduceAdd, Nat.zero_add]
    refine cutS (wpF_mono _ _) (fun σ S1 => σ = [some (.ref l), some (.ref m), some (.ref S.length), none, none, none, none, none, none, none, none, none, none, none] ∧ Gr S S1 ∧ S1[S.length]? = some (.lst [])) ?_ fun σ S1 h => ?_
    · simp only [sd_cons, sd_nil, sd_zero, List.length_cons, List.length_nil, w_var, w_const, w_glob, w_prim, w_meth, w_cut, w_not, w_and, w_or, w_one, w_ite, w_chain, w_call, w_callk, wa_nil, wa_cons, wt_name, wt_tup, wts_nil, wts_cons, wt_sub, ws_nil, ws_cons, w_expr, w_asg, w_setc, w_par2, w_par3, w_aug, w_ret, w_retN, w_ifs, w_never, seqD_tup, tgsLen, p_add, p_sub, p_mul, p_div, p_mod, p_pow, p_neg, p_eq, p_ne, p_lt, p_le, p_gt, p_ge, p_abs, p_int, p_max, p_min, p_tup, p_lst, p_ixT, p_lenT, truth_bl, onV_some, onB_some, onN_some, onD_bl, onO_some, onL_some, on2_eq, on3_eq, onC_nil, onC_one, onAug_sub, onAug_add, onAug_mul, List.getElem?_cons_zero, List.getElem?_cons_succ, List.set_cons_zero, List.set_cons_succ, wipeD, List.map_cons, List.map_nil, true_and, and_true, decide_eq_true_eq, Bool.not_eq_true', decide_eq_false_iff_not, Nat.reduceAdd, Nat.zero_add, atI_0, atI_1, atI_2, p_eqT2, p_neT2, p_isT, p_isI, p_isB, reduceIte, reduceCtorEq, Int.cast_ofNat_Int, not_true_eq_false, not_false_eq_true, eq_self, if_false, if_true, Bool.true_eq_false, Bool.false_eq_true, Bool.not_true, Bool.not_false, Bool.and_true, Bool.true_and, Bool.and_false, Bool.false_and, p_inT2, p_neS, p_eqS]
      exact ⟨by decide, Gr.push _ _, gP _ _⟩
    obtain ⟨rfl, g1, e1⟩ := h
    refine cutS (wpF_mono _ _) (fun σ S2 => ∃ z3 z4, σ = [some (.ref l), some (.ref m), some (.ref S.length), z3, z4, none, none, none, none, none, none, none, none, none] ∧ Gr S S2 ∧ S2[S.length]? = some (.lst (hlL.map (spD a b c d)))) ?_ fun σ S2 h => ?_
    · refine wp_for (wpF_mono _ _) ?_
      simp only [sd_cons, sd_nil, sd_zero, List.length_cons, List.length_nil, w_var, w_const, w_glob, w_prim, w_meth, w_cut, w_not, w_and, w_or, w_one, w_ite, w_chain, w_call, w_callk, wa_nil, wa_cons, wt_name, wt_tup, wts_nil, wts_cons, wt_sub, ws_nil, ws_cons, w_expr, w_asg, w_setc, w_par2, w_par3, w_aug, w_ret, w_retN, w_ifs, w_never, seqD_tup, tgsLen, p_add, p_sub, p_mul, p_div, p_mod, p_pow, p_neg, p_eq, p_ne, p_lt, p_le, p_gt, p_ge, p_abs, p_int, p_max, p_min, p_tup, p_lst, p_ixT, p_lenT, truth_bl, onV_some, onB_some, onN_some, onD_bl, onO_some, onL_some, on2_eq, on3_eq, onC_nil, onC_one, onAug_sub, onAug_add, onAug_mul, List.getElem?_cons_zero, List.getElem?_cons_succ, List.set_cons_zero, List.set_cons_succ, wipeD, List.map_cons, List.map_nil, true_and, and_true, decide_eq_true_eq, Bool.not_eq_true', decide_eq_false_iff_not, Nat.reduceAdd, Nat.zero_add, atI_0, atI_1, atI_2, p_eqT2, p_neT2, p_isT, p_isI, p_isB, reduceIte, reduceCtorEq, Int.cast_ofNat_Int, not_true_eq_false, not_false_eq_true, eq_self, if_false, if_true, Bool.true_eq_false, Bool.false_eq_true, Bool.not_true, Bool.not_false, Bool.and_true, Bool.true_and, Bool.and_false, Bool.false_and, p_inT2, p_neS, p_eqS, iterR, holdOf]
      refine ⟨by decide, by decide, by decide, by decide, _, _, rfl, trivial, fun i σ S2 => ∃ z3 z4, σ = [some (.ref l), some (.ref m), some (.ref S.length), z3, z4, none, none, none, none, none, none, none, none, none] ∧ Gr S S2 ∧ S2[S.length]? = some (.lst ((hlL.take i).map (spD a b c d))), ⟨_, _, rfl, g1, e1⟩, fun i σ S1 _ _ => ok_nil, fun i x σ S2 hx hi => ?_, fun σ S2 hi => ?_⟩
      · obtain ⟨z3, z4, rfl, g2, e2⟩ := hi
        have hx : (hlL.map ptD)[i]? = some x := hx
        rw [List.getElem?_map] at hx
        cases hy : hlL[i]? with
        | none => rw [hy] at hx; cases hx
        | some p =>
          rw [hy] at hx
          cases hx
          have my := List.mem_of_getElem? hy
          have bp : Bd 1 p.1 ∧ Bd 1 p.2 := by
            simp only [hlL, List.mem_cons, List.not_mem_nil, or_false] at my
            rcases my with rfl | rfl | rfl <;> exact ⟨Bd.of (by decide) (by decide), Bd.of (by decide) (by decide)⟩
          have s2 := g2.seq hm
          simp only [ptD, sd_cons, sd_nil, sd_zero, List.length_cons, List.length_nil, w_var, w_const, w_glob, w_prim, w_meth, w_cut, w_not, w_and, w_or, w_one, w_ite, w_chain, w_call, w_callk, wa_nil, wa_cons, wt_name, wt_tup, wts_nil, wts_cons, wt_sub, ws_nil, ws_cons, w_expr, w_asg, w_setc, w_par2, w_par3, w_aug, w_ret, w_retN, w_ifs, w_never, seqD_tup, tgsLen, p_add, p_sub, p_mul, p_div, p_mod, p_pow, p_neg, p_eq, p_ne, p_lt, p_le, p_gt, p_ge, p_abs, p_int, p_max, p_min, p_tup, p_lst, p_ixT, p_lenT, truth_bl, onV_some, onB_some, onN_some, onD_bl, onO_some, onL_some, on2_eq, on3_eq, onC_nil, onC_one, onAug_sub, onAug_add, onAug_mul, List.getElem?_cons_zero, List.getElem?_cons_succ, List.set_cons_zero, List.set_cons_succ, wipeD, List.map_cons, List.map_nil, true_and, and_true, decide_eq_true_eq, Bool.not_eq_true', decide_eq_false_iff_not, Nat.reduceAdd, Nat.zero_add, atI_0, atI_1, atI_2, p_eqT2, p_neT2, p_isT, p_isI, p_isB, reduceIte, reduceCtorEq, Int.cast_ofNat_Int, not_true_eq_false, not_false_eq_true, eq_self, if_false, if_true, Bool.true_eq_false, Bool.false_eq_true, Bool.not_true, Bool.not_false, Bool.and_true, Bool.true_and, Bool.and_false, Bool.false_and, p_inT2, p_neS, p_eqS, p_ixE s2, a0, a1, a2, a3]
          refine ⟨isL_of e2, ba.mulOk bp.1 (by decide) (by decide), bb.mulOk bp.2 (by decide) (by decide), bc.mulOk bp.1 (by decide) (by decide), bd.mulOk bp.2 (by decide) (by decide), by decide, ?_⟩
          refine p_app e2 (by rw [List.length_map, List.length_take]; exact Nat.lt_of_le_of_lt (Nat.min_le_right _ _) (Nat.lt_of_lt_of_le (show 3 < 20 by decide) sz)) ?_
          refine ⟨_, _, rfl, (GrX.set _ _ _).gr g2 (Nat.le_refl _), ?_⟩
          rw [set_get e2, List.take_add_one, hy]
          simp [spD]
      · obtain ⟨z3, z4, rfl, g2, e2⟩ := hi
        exact ⟨_, _, rfl, g2, e2⟩
    obtain ⟨z3, z4, rfl, g2, e2⟩ := h
    obtain ⟨p, q, rr, ep, bp, bq, br⟩ : ∃ p q rr : Int × Int, hlL.map (spD a b c d) = [ptD p, ptD q, ptD rr] ∧ BdP 5 p ∧ BdP 5 q ∧ BdP 5 rr := by
      have o : Bd 1 (1 : Int) := Bd.of (by decide) (by decide)
      have z : Bd 1 (0 : Int) := Bd.of (by decide) (by decide)
      have mk : ∀ {x y : Int}, Bd 1 x → Bd 1 y → BdP 5 (a * x + b * y, c * x + d * y) := fun hx hy => ⟨(ba.mul hx).add (bb.mul hy), (bc.mul hx).add (bd.mul hy)⟩
      exact ⟨_, _, _, rfl, mk o z, mk z o, mk o o⟩
    rw [ep] at e2
    have l2 := g2.seq hl
    have av : ∀ {x y : Int × Int}, BdP 5 x → BdP 5 y → Bd 32 (atV ns x.1 x.2 y.1 y.2) := fun hx hy => (atV_bd h6 hn hx.1 hx.2 hy.1 hy.2)
    have call : ∀ (x y : Int × Int) (S3 : Store) (Q : Post), BdP 5 x → BdP 5 y → Gr S2 S3 → (∀ (i : Int) S4, Bd 32 i → Gr S2 S4 → Q (.int i) S4) → wpF T (k + 1) 31 [.ref l, ptD x, ptD y] S3 Q fun _ _ => False := fun x y S3 Q hx hy g3 hq => by
      refine use (sp_at H.h31 ns h6 x.1 x.2 y.1 y.2 l S3 (g3.seq l2) (by decide) (by decide) hn hx.1 hx.2 hy.1 hy.2) fun d S4 hd => ?_
      obtain ⟨rfl, g4⟩ := hd
      exact hq _ _ (av hx hy) (g3.trans g4)
    simp only [sd_cons, sd_nil, sd_zero, List.length_cons, List.length_nil, w_var, w_const, w_glob, w_prim, w_meth, w_cut, w_not, w_and, w_or, w_one, w_ite, w_chain, w_call, w_callk, wa_nil, wa_cons, wt_name, wt_tup, wts_nil, wts_cons, wt_sub, ws_nil, ws_cons, w_expr, w_asg, w_setc, w_par2, w_par3, w_aug, w_ret, w_retN, w_ifs, w_never, seqD_tup, tgsLen, p_add, p_sub, p_mul, p_div, p_mod, p_pow, p_neg, p_eq, p_ne, p_lt, p_le, p_gt, p_ge, p_abs, p_int, p_max, p_min, p_tup, p_lst, p_ixT, p_lenT, truth_bl, onV_some, onB_some, onN_some, onD_bl, onO_some, onL_some, on2_eq, on3_eq, onC_nil, onC_one, onAug_sub, onAug_add, onAug_mul, List.getElem?_cons_zero, List.getElem?_cons_succ, List.set_cons_zero, List.set_cons_succ, wipeD, List.map_cons, List.map_nil, true_and, and_true, decide_eq_true_eq, Bool.not_eq_true', decide_eq_false_iff_not, Nat.reduceAdd, Nat.zero_add, atI_0, atI_1, atI_2, p_eqT2, p_neT2, p_isT, p_isI, p_isB, reduceIte, reduceCtorEq, Int.cast_ofNat_Int, not_true_eq_false, not_false_eq_true, eq_self, if_false, if_true, Bool.true_eq_false, Bool.false_eq_true, Bool.not_true, Bool.not_false, Bool.and_true, Bool.true_and, Bool.and_false, Bool.false_and, p_inT2, p_neS, p_eqS, seqD_ref, seqAt_lst e2]
    refine call p p S2 _ bp bp (Gr.refl _) fun A S3 bA g3 => ?_
    refine call q q S3 _ bq bq g3 fun F S4 bF g4 => ?_
    refine call p q S4 _ bp bq g4 fun C S5 bC g5 => ?_
    refine call p rr S5 _ bp br g5 fun B0 S6 bB g6 => ?_
    simp only [sd_cons, sd_nil, sd_zero, List.length_cons, List.length_nil, w_var, w_const, w_glob, w_prim, w_meth, w_cut, w_not, w_and, w_or, w_one, w_ite, w_chain, w_call, w_callk, wa_nil, wa_cons, wt_name, wt_tup, wts_nil, wts_cons, wt_sub, ws_nil, ws_cons, w_expr, w_asg, w_setc, w_par2, w_par3, w_aug, w_ret, w_retN, w_ifs, w_never, seqD_tup, tgsLen, p_add, p_sub, p_mul, p_div, p_mod, p_pow, p_neg, p_eq, p_ne, p_lt, p_le, p_gt, p_ge, p_abs, p_int, p_max, p_min, p_tup, p_lst, p_ixT, p_lenT, truth_bl, onV_some, onB_some, onN_some, onD_bl, onO_some, onL_some, on2_eq, on3_eq, onC_nil, onC_one, onAug_sub, onAug_add, onAug_mul, List.getElem?_cons_zero, List.getElem?_cons_succ, List.set_cons_zero, List.set_cons_succ, wipeD, List.map_cons, List.map_nil, true_and, and_true, decide_eq_true_eq, Bool.not_eq_true', decide_eq_false_iff_not, Nat.reduceAdd, Nat.zero_add, atI_0, atI_1, atI_2, p_eqT2, p_neT2, p_isT, p_isI, p_isB, reduceIte, reduceCtorEq, Int.cast_ofNat_Int, not_true_eq_false, not_false_eq_true, eq_self, if_false, if_true, Bool.true_eq_false, Bool.false_eq_true, Bool.not_true, Bool.not_false, Bool.and_true, Bool.true_and, Bool.and_false, Bool.false_and, p_inT2, p_neS, p_eqS]
    refine call q rr S6 _ bq br g6 fun E0 S7 bE g7 => ?_
    simp only [sd_cons, sd_nil, sd_zero, List.length_cons, List.length_nil, w_var, w_const, w_glob, w_prim, w_meth, w_cut, w_not, w_and, w_or, w_one, w_ite, w_chain, w_call, w_callk, wa_nil, wa_cons, wt_name, wt_tup, wts_nil, wts_cons, wt_sub, ws_nil, ws_cons, w_expr, w_asg, w_setc, w_par2, w_par3, w_aug, w_ret, w_retN, w_ifs, w_never, seqD_tup, tgsLen, p_add, p_sub, p_mul, p_div, p_mod, p_pow, p_neg, p_eq, p_ne, p_lt, p_le, p_gt, p_ge, p_abs, p_int, p_max, p_min, p_tup, p_lst, p_ixT, p_lenT, truth_bl, onV_some, onB_some, onN_some, onD_bl, onO_some, onL_some, on2_eq, on3_eq, onC_nil, onC_one, onAug_sub, onAug_add, onAug_mul, List.getElem?_cons_zero, List.getElem?_cons_succ, List.set_cons_zero, List.set_cons_succ, wipeD, List.map_cons, List.map_nil, true_and, and_true, decide_eq_true_eq, Bool.not_eq_true', decide_eq_false_iff_not, Nat.reduceAdd, Nat.zero_add, atI_0, atI_1, atI_2, p_eqT2, p_neT2, p_isT, p_isI, p_isB, reduceIte, reduceCtorEq, Int.cast_ofNat_Int, not_true_eq_false, not_false_eq_true, eq_self, if_false, if_true, Bool.true_eq_false, Bool.false_eq_true, Bool.not_true, Bool.not_false, Bool.and_true, Bool.true_and, Bool.and_false, Bool.false_and, p_inT2, p_neS, p_eqS]
    refine call rr rr S7 _ br br g7 fun D0 S8 bD g8 => ?_
    have bB' := (bB.sub bA).sub bC
    have bE' := (bE.sub bC).sub bF
    have d1 := Bd.c2.mul bB'
    have d2 := Bd.c2.mul bC
    have d3 := Bd.c2.mul bE'
    have bD' := ((((bD.sub bA).sub d1).sub d2).sub d3).sub bF
    simp only [sd_cons, sd_nil, sd_zero, List.length_cons, List.length_nil, w_var, w_const, w_glob, w_prim, w_meth, w_cut, w_not, w_and, w_or, w_one, w_ite, w_chain, w_call, w_callk, wa_nil, wa_cons, wt_name, wt_tup, wts_nil, wts_cons, wt_sub, ws_nil, ws_cons, w_expr, w_asg, w_setc, w_par2, w_par3, w_aug, w_ret, w_retN, w_ifs, w_never, seqD_tup, tgsLen, p_add, p_sub, p_mul, p_div, p_mod, p_pow, p_neg, p_eq, p_ne, p_lt, p_le, p_gt, p_ge, p_abs, p_int, p_max, p_min, p_tup, p_lst, p_ixT, p_lenT, truth_bl, onV_some, onB_some, onN_some, onD_bl, onO_some, onL_some, on2_eq, on3_eq, onC_nil, onC_one, onAug_sub, onAug_add, onAug_mul, List.getElem?_cons_zero, List.getElem?_cons_succ, List.set_cons_zero, List.set_cons_succ, wipeD, List.map_cons, List.map_nil, true_and, and_true, decide_eq_true_eq, Bool.not_eq_true', decide_eq_false_iff_not, Nat.reduceAdd, Nat.zero_add, atI_0, atI_1, atI_2, p_eqT2, p_neT2, p_isT, p_isI, p_isB, reduceIte, reduceCtorEq, Int.cast_ofNat_Int, not_true_eq_false, not_false_eq_true, eq_self, if_false, if_true, Bool.true_eq_false, Bool.false_eq_true, Bool.not_true, Bool.not_false, Bool.and_true, Bool.true_and, Bool.and_false, Bool.false_and, p_inT2, p_neS, p_eqS]
    refine ⟨Bd.c2.mulOk bB' (by decide) (by decide), Bd.c2.mulOk bC (by decide) (by decide), Bd.c2.mulOk bE' (by decide) (by decide), by decide, ?_⟩
    refine ⟨_, [A, B0 - A - C, C, D0 - A - 2 * (B0 - A - C) - 2 * C - 2 * (E0 - C - F) - F, E0 - C - F, F], rfl, (g2.trans g8).trans (Gr.push _ _), (g2.trans g8).len, gP _ _, rfl, fun z hz => ?_⟩
    simp only [List.mem_cons, List.not_mem_nil, or_false] at hz
    rcases hz with rfl | rfl | rfl | rfl | rfl | rfl
    · exact bA.mono (by decide)
    · exact bB'.mono (by decide)
    · exact bC.mono (by decide)
    · exact bD'.mono (by decide)
    · exact bE'.mono (by decide)
    · exact bF.mono (by decide)
theorem p_intB {g : Bool} {S : Store} {Q : Post} {b : Bool} (q : Q (.int (if b then 1 else 0)) S) : primW g (.blt .int) [.bl b] S Q := by
  unfold primW primR bltR
  exact ⟨trivial, q⟩
def Six (b r : Nat) (d : D) (S : Store) : Prop := ∃ m, ∃ ns : List Int, d = .ref m ∧ m ≠ r ∧ S[m]? = some (.lst (ns.map D.int)) ∧ ns.length = 6 ∧ ∀ z ∈ ns, Bd b z
theorem Six.grx {b r : Nat} {d : D} {S S1 : Store} (h : Six b r d S) (g : GrX r S S1) : Six b r d S1 := by
  obtain ⟨m, ns, e, h1, h2, h3⟩ := h
  exact ⟨m, ns, e, h1, g _ _ h1 h2, h3⟩
theorem Six.mono {b c r : Nat} {d : D} {S : Store} (h : Six b r d S) (k : b ≤ c) : Six c r d S := by
  obtain ⟨m, ns, e, h1, h2, h3, h4⟩ := h
  exact ⟨m, ns, e, h1, h2, h3, fun z hz => (h4 z hz).mono k⟩
theorem Six.st {r : Nat} {S0 S : Store} {d : D} (h : StO S0.length d S) (hr : r < S0.length) : ∃ x a b, d = .tup [x, ptD a, ptD b] ∧ Six 35 r x S := by
  obtain ⟨m, ns, a, b, rfl, h1, h2, h3, _⟩ := h
  exact ⟨.ref m, a, b, rfl, m, ns, rfl, by omega, h1, h2.h6, h2.bd⟩
theorem at3_0 (x y z : D) : atI [x, y, z] 0 = some x := atI_nat (i := 0) (by simp)
def twS (r : Nat) (w : Int) (x : D) : Sd := [some (.ref r), some (.int w), some x, none, none, none, none, none, none, none, none]
def TwO (r : Nat) (d : D) (S : Store) : Prop := ∃ x y, d = .tup [x, y] ∧ Six 60 r x S ∧ Six 60 r y S
theorem sp_two {T : Nat → Option Fn} {k : Nat} (H : HasLaw T) (h108 : T 108 = some f_law_names) (h109 : T 109 = some f_law_renamed_0) (h146 : T 146 = some f_law_two) (r n : Nat) (S : Store) (hp : Pool S r n) (hn : n ≤ 2 ^ 28) :
    wpF T (k + 7) 146 [.ref r] S (fun d S1 => TwO r d S1 ∧ GrX r S S1 ∧ Pool S1 r (n + 100)) fun _ _ => False := by
  have sz : (20 : Nat) ≤ sizeLine := by decide
  rw [wF h146]
  refine ⟨rfl, ?_⟩
  simp only [f_law_two, sd_cons, sd_nil, sd_zero, List.length_cons, List.length_nil, Nat.reduceAdd, Nat.zero_add]
  refine cutS (wpF_mono _ _) (fun σ S1 => ∃ w x, σ = twS r w x ∧ Six 35 r x S1 ∧ GrX r S S1 ∧ Pool S1 r (n + 21)) ?_ fun σ S1 h => ?_
  · simp only [sd_cons, sd_nil, sd_zero, List.length_cons, List.length_nil, w_var, w_const, w_glob, w_prim, w_meth, w_cut, w_not, w_and, w_or, w_one, w_ite, w_chain, w_call, w_callk, wa_nil, wa_cons, wt_name, wt_tup, wts_nil, wts_cons, wt_sub, ws_nil, ws_cons, w_expr, w_asg, w_setc, w_par2, w_par3, w_aug, w_ret, w_retN, w_ifs, w_never, seqD_tup, tgsLen, p_add, p_sub, p_mul, p_div, p_mod, p_pow, p_neg, p_eq, p_ne, p_lt, p_le, p_gt, p_ge, p_abs, p_int, p_max, p_min, p_tup, p_lst, p_ixT, p_lenT, truth_bl, onV_some, onB_some, onN_some, onD_bl, onO_some, onL_some, on2_eq, on3_eq, onC_nil, onC_one, onAug_sub, onAug_add, onAug_mul, List.getElem?_cons_zero, List.getElem?_cons_succ, List.set_cons_zero, List.set_cons_succ, wipeD, List.map_cons, List.map_nil, true_and, and_true, decide_eq_true_eq, Bool.not_eq_true', decide_eq_false_iff_not, Nat.reduceAdd, Nat.zero_add, atI_0, atI_1, atI_2, p_eqT2, p_neT2, p_isT, p_isI, p_isB, reduceIte, reduceCtorEq, Int.cast_ofNat_Int, not_true_eq_false, not_false_eq_true, eq_self, if_false, if_true, Bool.true_eq_false, Bool.false_eq_true, Bool.not_true, Bool.not_false, Bool.and_true, Bool.true_and, Bool.and_false, Bool.false_and, p_inT2, p_neS, p_eqS]
    refine use (sp_draw H.h1 r n 6 S hp (by omega) (by decide) (by decide)) fun d S1 hd => ?_
    obtain ⟨w, rfl, a1, b1, g1, p1⟩ := hd
    refine use (sp_start (k := k) H r _ S1 p1 (by omega)) fun d S2 hd => ?_
    obtain ⟨st, g2, p2⟩ := hd
    obtain ⟨x, a, b, rfl, sx⟩ := Six.st st p1.lt
    simp only [sd_cons, sd_nil, sd_zero, List.length_cons, List.length_nil, w_var, w_const, w_glob, w_prim, w_meth, w_cut, w_not, w_and, w_or, w_one, w_ite, w_chain, w_call, w_callk, wa_nil, wa_cons, wt_name, wt_tup, wts_nil, wts_cons, wt_sub, ws_nil, ws_cons, w_expr, w_asg, w_setc, w_par2, w_par3, w_aug, w_ret, w_retN, w_ifs, w_never, seqD_tup, tgsLen, p_add, p_sub, p_mul, p_div, p_mod, p_pow, p_neg, p_eq, p_ne, p_lt, p_le, p_gt, p_ge, p_abs, p_int, p_max, p_min, p_tup, p_lst, p_ixT, p_lenT, truth_bl, onV_some, onB_some, onN_some, onD_bl, onO_some, onL_some, on2_eq, on3_eq, onC_nil, onC_one, onAug_sub, onAug_add, onAug_mul, List.getElem?_cons_zero, List.getElem?_cons_succ, List.set_cons_zero, List.set_cons_succ, wipeD, List.map_cons, List.map_nil, true_and, and_true, decide_eq_true_eq, Bool.not_eq_true', decide_eq_false_iff_not, Nat.reduceAdd, Nat.zero_add, atI_0, atI_1, atI_2, p_eqT2, p_neT2, p_isT, p_isI, p_isB, reduceIte, reduceCtorEq, Int.cast_ofNat_Int, not_true_eq_false, not_false_eq_true, eq_self, if_false, if_true, Bool.true_eq_false, Bool.false_eq_true, Bool.not_true, Bool.not_false, Bool.and_true, Bool.true_and, Bool.and_false, Bool.false_and, p_inT2, p_neS, p_eqS, at3_0]
    exact ⟨w, x, rfl, sx, g1.trans g2, p2.mono (by omega)⟩
  obtain ⟨w, x, rfl, sx, g1, p1⟩ := h
  refine cutS (wpF_mono _ _) (fun σ S2 => ∃ w x, σ = twS r w x ∧ Six 35 r x S2 ∧ GrX r S S2 ∧ Pool S2 r (n + 41)) ?_ fun σ S2 h => ?_
  · simp only [twS, sd_cons, sd_nil, sd_zero, List.length_cons, List.length_nil, w_var, w_const, w_glob, w_prim, w_meth, w_cut, w_not, w_and, w_or, w_one, w_ite, w_chain, w_call, w_callk, wa_nil, wa_cons, wt_name, wt_tup, wts_nil, wts_cons, wt_sub, ws_nil, ws_cons, w_expr, w_asg, w_setc, w_par2, w_par3, w_aug, w_ret, w_retN, w_ifs, w_never, seqD_tup, tgsLen, p_add, p_sub, p_mul, p_div, p_mod, p_pow, p_neg, p_eq, p_ne, p_lt, p_le, p_gt, p_ge, p_abs, p_int, p_max, p_min, p_tup, p_lst, p_ixT, p_lenT, truth_bl, onV_some, onB_some, onN_some, onD_bl, onO_some, onL_some, on2_eq, on3_eq, onC_nil, onC_one, onAug_sub, onAug_add, onAug_mul, List.getElem?_cons_zero, List.getElem?_cons_succ, List.set_cons_zero, List.set_cons_succ, wipeD, List.map_cons, List.map_nil, true_and, and_true, decide_eq_true_eq, Bool.not_eq_true', decide_eq_false_iff_not, Nat.reduceAdd, Nat.zero_add, atI_0, atI_1, atI_2, p_eqT2, p_neT2, p_isT, p_isI, p_isB, reduceIte, reduceCtorEq, Int.cast_ofNat_Int, not_true_eq_false, not_false_eq_true, eq_self, if_false, if_true, Bool.true_eq_false, Bool.false_eq_true, Bool.not_true, Bool.not_false, Bool.and_true, Bool.true_and, Bool.and_false, Bool.false_and, p_inT2, p_neS, p_eqS]
    split
    · refine use (sp_great (k := k) H r _ S1 p1 (by omega)) fun d S2 hd => ?_
      obtain ⟨st, g2, p2⟩ := hd
      obtain ⟨y, a, b, rfl, sy⟩ := Six.st st p1.lt
      simp only [sd_cons, sd_nil, sd_zero, List.length_cons, List.length_nil, w_var, w_const, w_glob, w_prim, w_meth, w_cut, w_not, w_and, w_or, w_one, w_ite, w_chain, w_call, w_callk, wa_nil, wa_cons, wt_name, wt_tup, wts_nil, wts_cons, wt_sub, ws_nil, ws_cons, w_expr, w_asg, w_setc, w_par2, w_par3, w_aug, w_ret, w_retN, w_ifs, w_never, seqD_tup, tgsLen, p_add, p_sub, p_mul, p_div, p_mod, p_pow, p_neg, p_eq, p_ne, p_lt, p_le, p_gt, p_ge, p_abs, p_int, p_max, p_min, p_tup, p_lst, p_ixT, p_lenT, truth_bl, onV_some, onB_some, onN_some, onD_bl, onO_some, onL_some, on2_eq, on3_eq, onC_nil, onC_one, onAug_sub, onAug_add, onAug_mul, List.getElem?_cons_zero, List.getElem?_cons_succ, List.set_cons_zero, List.set_cons_succ, wipeD, List.map_cons, List.map_nil, true_and, and_true, decide_eq_true_eq, Bool.not_eq_true', decide_eq_false_iff_not, Nat.reduceAdd, Nat.zero_add, atI_0, atI_1, atI_2, p_eqT2, p_neT2, p_isT, p_isI, p_isB, reduceIte, reduceCtorEq, Int.cast_ofNat_Int, not_true_eq_false, not_false_eq_true, eq_self, if_false, if_true, Bool.true_eq_false, Bool.false_eq_true, Bool.not_true, Bool.not_false, Bool.and_true, Bool.true_and, Bool.and_false, Bool.false_and, p_inT2, p_neS, p_eqS, at3_0]
      exact ⟨1, y, rfl, sy, g1.trans g2, p2.mono (by omega)⟩
    · exact ⟨w, x, rfl, sx, g1, p1.mono (by omega)⟩
  clear sx g1 p1
  obtain ⟨w, x, rfl, sx, g1, p1⟩ := h
  refine cutS (wpF_mono _ _) (fun σ S3 => ∃ w, σ = twS r w x ∧ Six 35 r x S3 ∧ GrX r S S3 ∧ Pool S3 r (n + 41)) ?_ fun σ S3 h => ?_
  · obtain ⟨m, ns, rfl, hm, e1, l6, hb⟩ := sx
    simp only [twS, w_ifs, w_prim, wa_cons, wa_nil]
    refine wp_comp (wpF_mono _ _) ?_
    simp only [sd_cons, sd_nil, sd_zero, List.length_cons, List.length_nil, w_var, w_const, w_glob, w_prim, w_meth, w_cut, w_not, w_and, w_or, w_one, w_ite, w_chain, w_call, w_callk, wa_nil, wa_cons, wt_name, wt_tup, wts_nil, wts_cons, wt_sub, ws_nil, ws_cons, w_expr, w_asg, w_setc, w_par2, w_par3, w_aug, w_ret, w_retN, w_ifs, w_never, seqD_tup, tgsLen, p_add, p_sub, p_mul, p_div, p_mod, p_pow, p_neg, p_eq, p_ne, p_lt, p_le, p_gt, p_ge, p_abs, p_int, p_max, p_min, p_tup, p_lst, p_ixT, p_lenT, truth_bl, onV_some, onB_some, onN_some, onD_bl, onO_some, onL_some, on2_eq, on3_eq, onC_nil, onC_one, onAug_sub, onAug_add, onAug_mul, List.getElem?_cons_zero, List.getElem?_cons_succ, List.set_cons_zero, List.set_cons_succ, wipeD, List.map_cons, List.map_nil, true_and, and_true, decide_eq_true_eq, Bool.not_eq_true', decide_eq_false_iff_not, Nat.reduceAdd, Nat.zero_add, atI_0, atI_1, atI_2, p_eqT2, p_neT2, p_isT, p_isI, p_isB, reduceIte, reduceCtorEq, Int.cast_ofNat_Int, not_true_eq_false, not_false_eq_true, eq_self, if_false, if_true, Bool.true_eq_false, Bool.false_eq_true, Bool.not_true, Bool.not_false, Bool.and_true, Bool.true_and, Bool.and_false, Bool.false_and, p_inT2, p_neS, p_eqS, iterR, seqD_ref, seqAt_lst e1, holdOf]
    refine ⟨_, _, rfl, trivial, ok_one (seqAt_lst e1), (by rw [List.length_map, l6]; exact Nat.le_trans (by decide) sz), fun d => match d with
      | .int z => some (.int (z.natAbs : Nat))
      | _ => none, fun i d S6 hd hg => ?_, fun S6 hg h6 => ?_⟩
    · obtain ⟨z, hz, rfl⟩ := get_int' hd
      simp only [sd_cons, sd_nil, sd_zero, List.length_cons, List.length_nil, w_var, w_const, w_glob, w_prim, w_meth, w_cut, w_not, w_and, w_or, w_one, w_ite, w_chain, w_call, w_callk, wa_nil, wa_cons, wt_name, wt_tup, wts_nil, wts_cons, wt_sub, ws_nil, ws_cons, w_expr, w_asg, w_setc, w_par2, w_par3, w_aug, w_ret, w_retN, w_ifs, w_never, seqD_tup, tgsLen, p_add, p_sub, p_mul, p_div, p_mod, p_pow, p_neg, p_eq, p_ne, p_lt, p_le, p_gt, p_ge, p_abs, p_int, p_max, p_min, p_tup, p_lst, p_ixT, p_lenT, truth_bl, onV_some, onB_some, onN_some, onD_bl, onO_some, onL_some, on2_eq, on3_eq, onC_nil, onC_one, onAug_sub, onAug_add, onAug_mul, List.getElem?_cons_zero, List.getElem?_cons_succ, List.set_cons_zero, List.set_cons_succ, wipeD, List.map_cons, List.map_nil, true_and, and_true, decide_eq_true_eq, Bool.not_eq_true', decide_eq_false_iff_not, Nat.reduceAdd, Nat.zero_add, atI_0, atI_1, atI_2, p_eqT2, p_neT2, p_isT, p_isI, p_isB, reduceIte, reduceCtorEq, Int.cast_ofNat_Int, not_true_eq_false, not_false_eq_true, eq_self, if_false, if_true, Bool.true_eq_false, Bool.false_eq_true, Bool.not_true, Bool.not_false, Bool.and_true, Bool.true_and, Bool.and_false, Bool.false_and, p_inT2, p_neS, p_eqS]
      exact Gr.refl _
    · have h6 := h6.trans (congrArg (fun z => some (O.lst z)) (map_some (fun z : Int => ((z.natAbs : Nat) : Int)) _ D.int D.int (fun a => rfl) ns))
      refine p_max1 (seqAt_lst h6) (by intro z; have := congrArg List.length z; simp [l6] at this) fun mx hmx hle => ?_
      have e10 : (10 : Int) ^ Int.toNat 7 = 10000000 := by decide
      have m3 : IntMulOk 3 10000000 := (Bd.of (n := 2) (by decide) (by decide) : Bd 2 (3 : Int)).mulOk (Bd.of (n := 24) (by decide) (by decide)) (by decide) (by decide)
      simp only [sd_cons, sd_nil, sd_zero, List.length_cons, List.length_nil, w_var, w_const, w_glob, w_prim, w_meth, w_cut, w_not, w_and, w_or, w_one, w_ite, w_chain, w_call, w_callk, wa_nil, wa_cons, wt_name, wt_tup, wts_nil, wts_cons, wt_sub, ws_nil, ws_cons, w_expr, w_asg, w_setc, w_par2, w_par3, w_aug, w_ret, w_retN, w_ifs, w_never, seqD_tup, tgsLen, p_add, p_sub, p_mul, p_div, p_mod, p_pow, p_neg, p_eq, p_ne, p_lt, p_le, p_gt, p_ge, p_abs, p_int, p_max, p_min, p_tup, p_lst, p_ixT, p_lenT, truth_bl, onV_some, onB_some, onN_some, onD_bl, onO_some, onL_some, on2_eq, on3_eq, onC_nil, onC_one, onAug_sub, onAug_add, onAug_mul, List.getElem?_cons_zero, List.getElem?_cons_succ, List.set_cons_zero, List.set_cons_succ, wipeD, List.map_cons, List.map_nil, true_and, and_true, decide_eq_true_eq, Bool.not_eq_true', decide_eq_false_iff_not, Nat.reduceAdd, Nat.zero_add, atI_0, atI_1, atI_2, p_eqT2, p_neT2, p_isT, p_isI, p_isB, reduceIte, reduceCtorEq, Int.cast_ofNat_Int, not_true_eq_false, not_false_eq_true, eq_self, if_false, if_true, Bool.true_eq_false, Bool.false_eq_true, Bool.not_true, Bool.not_false, Bool.and_true, Bool.true_and, Bool.and_false, Bool.false_and, p_inT2, p_neS, p_eqS, e10]
      refine ⟨by decide, m3, ?_⟩
      have sx' : Six 35 r (.ref m) S6 := ⟨m, ns, rfl, hm, hg _ _ e1, l6, hb⟩
      split
      · exact ⟨_, rfl, sx', g1.trans (hg.x r), p1.gr hg⟩
      · exact ⟨_, rfl, sx', g1.trans (hg.x r), p1.gr hg⟩
  clear sx g1 p1
  obtain ⟨w, rfl, sx, g1, p1⟩ := h
  refine cutS (wpF_mono _ _) (fun σ S4 => σ = twS r w x ∧ Six 35 r x S4 ∧ GrX r S S4 ∧ Pool S4 r (n + 41)) ?_ fun σ S4 h => ?_
  · simp only [twS, sd_cons, sd_nil, sd_zero, List.length_cons, List.length_nil, w_var, w_const, w_glob, w_prim, w_meth, w_cut, w_not, w_and, w_or, w_one, w_ite, w_chain, w_call, w_callk, wa_nil, wa_cons, wt_name, wt_tup, wts_nil, wts_cons, wt_sub, ws_nil, ws_cons, w_expr, w_asg, w_setc, w_par2, w_par3, w_aug, w_ret, w_retN, w_ifs, w_never, seqD_tup, tgsLen, p_add, p_sub, p_mul, p_div, p_mod, p_pow, p_neg, p_eq, p_ne, p_lt, p_le, p_gt, p_ge, p_abs, p_int, p_max, p_min, p_tup, p_lst, p_ixT, p_lenT, truth_bl, onV_some, onB_some, onN_some, onD_bl, onO_some, onL_some, on2_eq, on3_eq, onC_nil, onC_one, onAug_sub, onAug_add, onAug_mul, List.getElem?_cons_zero, List.getElem?_cons_succ, List.set_cons_zero, List.set_cons_succ, wipeD, List.map_cons, List.map_nil, true_and, and_true, decide_eq_true_eq, Bool.not_eq_true', decide_eq_false_iff_not, Nat.reduceAdd, Nat.zero_add, atI_0, atI_1, atI_2, p_eqT2, p_neT2, p_isT, p_isI, p_isB, reduceIte, reduceCtorEq, Int.cast_ofNat_Int, not_true_eq_false, not_false_eq_true, eq_self, if_false, if_true, Bool.true_eq_false, Bool.false_eq_true, Bool.not_true, Bool.not_false, Bool.and_true, Bool.true_and, Bool.and_false, Bool.false_and, p_inT2, p_neS, p_eqS]
    split
    · refine use (sp_start (k := k) H r _ S3 p1 (by omega)) fun d S4 hd => ?_
      obtain ⟨st, g2, p2⟩ := hd
      obtain ⟨y, a, b, rfl, sy⟩ := Six.st st p1.lt
      simp only [sd_cons, sd_nil, sd_zero, List.length_cons, List.length_nil, w_var, w_const, w_glob, w_prim, w_meth, w_cut, w_not, w_and, w_or, w_one, w_ite, w_chain, w_call, w_callk, wa_nil, wa_cons, wt_name, wt_tup, wts_nil, wts_cons, wt_sub, ws_nil, ws_cons, w_expr, w_asg, w_setc, w_par2, w_par3, w_aug, w_ret, w_retN, w_ifs, w_never, seqD_tup, tgsLen, p_add, p_sub, p_mul, p_div, p_mod, p_pow, p_neg, p_eq, p_ne, p_lt, p_le, p_gt, p_ge, p_abs, p_int, p_max, p_min, p_tup, p_lst, p_ixT, p_lenT, truth_bl, onV_some, onB_some, onN_some, onD_bl, onO_some, onL_some, on2_eq, on3_eq, onC_nil, onC_one, onAug_sub, onAug_add, onAug_mul, List.getElem?_cons_zero, List.getElem?_cons_succ, List.set_cons_zero, List.set_cons_succ, wipeD, List.map_cons, List.map_nil, true_and, and_true, decide_eq_true_eq, Bool.not_eq_true', decide_eq_false_iff_not, Nat.reduceAdd, Nat.zero_add, atI_0, atI_1, atI_2, p_eqT2, p_neT2, p_isT, p_isI, p_isB, reduceIte, reduceCtorEq, Int.cast_ofNat_Int, not_true_eq_false, not_false_eq_true, eq_self, if_false, if_true, Bool.true_eq_false, Bool.false_eq_true, Bool.not_true, Bool.not_false, Bool.and_true, Bool.true_and, Bool.and_false, Bool.false_and, p_inT2, p_neS, p_eqS, at3_0]
      exact ⟨by decide, ⟨x, y, rfl, (sx.grx g2).mono (by decide), sy.mono (by decide)⟩, g1.trans g2, p2.mono (by omega)⟩
    · exact ⟨sx, g1, p1⟩
  clear sx g1 p1
  obtain ⟨rfl, sx, g1, p1⟩ := h
  refine cutS (wpF_mono _ _) (fun σ S5 => σ = twS r w x ∧ Six 35 r x S5 ∧ GrX r S S5 ∧ Pool S5 r (n + 41)) ?_ fun σ S5 h => ?_
  · simp only [twS, sd_cons, sd_nil, sd_zero, List.length_cons, List.length_nil, w_var, w_const, w_glob, w_prim, w_meth, w_cut, w_not, w_and, w_or, w_one, w_ite, w_chain, w_call, w_callk, wa_nil, wa_cons, wt_name, wt_tup, wts_nil, wts_cons, wt_sub, ws_nil, ws_cons, w_expr, w_asg, w_setc, w_par2, w_par3, w_aug, w_ret, w_retN, w_ifs, w_never, seqD_tup, tgsLen, p_add, p_sub, p_mul, p_div, p_mod, p_pow, p_neg, p_eq, p_ne, p_lt, p_le, p_gt, p_ge, p_abs, p_int, p_max, p_min, p_tup, p_lst, p_ixT, p_lenT, truth_bl, onV_some, onB_some, onN_some, onD_bl, onO_some, onL_some, on2_eq, on3_eq, onC_nil, onC_one, onAug_sub, onAug_add, onAug_mul, List.getElem?_cons_zero, List.getElem?_cons_succ, List.set_cons_zero, List.set_cons_succ, wipeD, List.map_cons, List.map_nil, true_and, and_true, decide_eq_true_eq, Bool.not_eq_true', decide_eq_false_iff_not, Nat.reduceAdd, Nat.zero_add, atI_0, atI_1, atI_2, p_eqT2, p_neT2, p_isT, p_isI, p_isB, reduceIte, reduceCtorEq, Int.cast_ofNat_Int, not_true_eq_false, not_false_eq_true, eq_self, if_false, if_true, Bool.true_eq_false, Bool.false_eq_true, Bool.not_true, Bool.not_false, Bool.and_true, Bool.true_and, Bool.and_false, Bool.false_and, p_inT2, p_neS, p_eqS]
    split
    · have sx0 := sx
      obtain ⟨m, ns, rfl, hm, e1, l6, hb⟩ := sx
      refine use (sp_draw H.h1 r _ 6 S4 p1 (by omega) (by decide) (by decide)) fun d S5 hd => ?_
      obtain ⟨v1, rfl, x1, y1, g2, p2⟩ := hd
      refine ⟨by decide, ?_⟩
      have gp := Gr.push S5 (O.lst [.int 5, .int v1])
      have e5 := gP S5 (O.lst [.int 5, .int v1])
      have rl := p2.lt
      generalize S5 ++ [O.lst [D.int 5, D.int v1]] = S6 at gp e5 ⊢
      refine use (sp_draw H.h1 r _ 2 S6 (p2.gr gp) (by omega) (by decide) (by decide)) fun d S7 hd => ?_
      obtain ⟨v2, rfl, x2, y2, g3, p3⟩ := hd
      have e7 := g3 _ _ (by omega : S5.length ≠ r) e5
      obtain ⟨sp, hsp, hat⟩ := at_ex (L := [5, v1]) x2 y2
      have hat : atI [D.int 5, D.int v1] v2 = some (.int sp) := hat
      have sp6 : 0 ≤ sp ∧ sp < 6 := by
        simp only [List.mem_cons, List.not_mem_nil, or_false] at hsp
        omega
      have g17 := (g1.trans g2).trans ((gp.x r).trans g3)
      have m7 := g3 _ _ hm (gp _ _ (g2 _ _ hm e1))
      simp only [p_ixE (seqAt_lst e7), hat, onO_some]
      refine p_listS (seqAt_lst m7) ?_
      have gq := Gr.push S7 (O.lst (ns.map D.int))
      have eq := gP S7 (O.lst (ns.map D.int))
      have p8 := p3.gr gq
      have g18 := g17.trans (gq.x r)
      have m8 := gq _ _ m7
      have rl7 := p3.lt
      have S7l : S.length ≤ S7.length := g17.len p3.lt
      generalize hS8 : S7 ++ [O.lst (ns.map D.int)] = S8 at gq eq p8 g18 m8 ⊢
      obtain ⟨j, rfl⟩ : ∃ j : Nat, sp = j := ⟨sp.toNat, by omega⟩
      have jl : j < ns.length := by omega
      have hj : (ns.map D.int)[j]? = some (.int ns[j]) := by rw [List.getElem?_map, List.getElem?_eq_getElem jl]; rfl
      have bj := hb _ (List.getElem_mem jl)
      generalize ns[j] = nj at hj bj
      have fin : ∀ (e : Int) (S9 : Store), Gr S8 S9 → Bd 2 e → onSet (.ref S7.length) (.int (j : Nat)) S9 (.int (nj + e)) fun S10 => 2 ≤ sizeLine ∧ TwO r (.tup [.ref m, .ref S7.length]) S10 ∧ GrX r S S10 ∧ Pool S10 r (n + 100) := fun e S9 g9 be => by
        have e9 := g9 _ _ eq
        have m9 := g9 _ _ m8
        have mne : m ≠ S7.length := by
          have := len_lt' m7
          omega
        refine onSet_eq e9 (ixN_nat (by rw [List.length_map]; omega)) ⟨by decide, ⟨.ref m, .ref S7.length, rfl, ⟨m, ns, rfl, hm, by rw [List.getElem?_set_ne (Ne.symm mne)]; exact m9, l6, fun z hz => (hb z hz).mono (by decide)⟩, ⟨S7.length, ns.set j (nj + e), rfl, by omega, ?_, by rw [List.length_set]; exact l6, fun z hz => ?_⟩⟩, fun q o hq ho => ?_, ?_⟩
        · rw [set_get e9, List.map_set]
        · rcases List.mem_or_eq_of_mem_set hz with hz | rfl
          · exact (hb z hz).mono (by decide)
          · exact (bj.add be).mono (by decide)
        · rw [List.getElem?_set_ne (by have := len_lt' ho; omega)]
          exact g9 _ _ (g18 _ _ hq ho)
        · obtain ⟨A, B, C, hr, h⟩ := (p8.gr g9).mono (show n + 41 + 1 + 1 ≤ n + 100 by omega)
          exact ⟨A, B, C, by rw [List.getElem?_set_ne (by omega)]; exact hr, h⟩
      simp only [sd_cons, sd_nil, sd_zero, List.length_cons, List.length_nil, w_var, w_const, w_glob, w_prim, w_meth, w_cut, w_not, w_and, w_or, w_one, w_ite, w_chain, w_call, w_callk, wa_nil, wa_cons, wt_name, wt_tup, wts_nil, wts_cons, wt_sub, ws_nil, ws_cons, w_expr, w_asg, w_setc, w_par2, w_par3, w_aug, w_ret, w_retN, w_ifs, w_never, seqD_tup, tgsLen, p_add, p_sub, p_mul, p_div, p_mod, p_pow, p_neg, p_eq, p_ne, p_lt, p_le, p_gt, p_ge, p_abs, p_int, p_max, p_min, p_tup, p_lst, p_ixT, p_lenT, truth_bl, onV_some, onB_some, onN_some, onD_bl, onO_some, onL_some, on2_eq, on3_eq, onC_nil, onC_one, onAug_sub, onAug_add, onAug_mul, List.getElem?_cons_zero, List.getElem?_cons_succ, List.set_cons_zero, List.set_cons_succ, wipeD, List.map_cons, List.map_nil, true_and, and_true, decide_eq_true_eq, Bool.not_eq_true', decide_eq_false_iff_not, Nat.reduceAdd, Nat.zero_add, atI_0, atI_1, atI_2, p_eqT2, p_neT2, p_isT, p_isI, p_isB, reduceIte, reduceCtorEq, Int.cast_ofNat_Int, not_true_eq_false, not_false_eq_true, eq_self, if_false, if_true, Bool.true_eq_false, Bool.false_eq_true, Bool.not_true, Bool.not_false, Bool.and_true, Bool.true_and, Bool.and_false, Bool.false_and, p_inT2, p_neS, p_eqS, p_ixE (seqAt_lst eq), atI_nat hj]
      refine ⟨by decide, ?_⟩
      have gz := Gr.push S8 (O.lst [.int 1, .int (-1)])
      have ez := gP S8 (O.lst [.int 1, .int (-1)])
      have eq9 := gz _ _ eq
      generalize S8 ++ [O.lst [D.int 1, D.int (-1)]] = S9 at gz ez eq9 ⊢
      simp only [p_ixE (seqAt_lst eq9), atI_nat hj, onO_some, p_gt]
      by_cases hpos : 0 < nj
      · simp only [hpos, decide_true]
        refine p_intB (b := true) ?_
        simp only [if_true, p_ixE (seqAt_lst ez), atI_1, onO_some, p_add]
        exact fin (-1) S9 gz (Bd.of (by decide) (by decide))
      · simp only [hpos, decide_false]
        refine p_intB (b := false) ?_
        simp only [Bool.false_eq_true, if_false, p_ixE (seqAt_lst ez), atI_0, onO_some, p_add]
        exact fin 1 S9 gz (Bd.of (by decide) (by decide))
    · exact ⟨sx, g1, p1⟩
  clear sx g1 p1
  obtain ⟨rfl, sx, g1, p1⟩ := h
  refine cutS (wpF_mono _ _) (fun σ S6 => σ = twS r w x ∧ GrX r S S6 ∧ Pool S6 r (n + 41)) ?_ fun σ S6 h => ?_
  · simp only [twS, w_ifs, sd_cons, sd_nil, sd_zero, List.length_cons, List.length_nil, w_var, w_const, w_glob, w_prim, w_meth, w_cut, w_not, w_and, w_or, w_one, w_ite, w_chain, w_call, w_callk, wa_nil, wa_cons, wt_name, wt_tup, wts_nil, wts_cons, wt_sub, ws_nil, ws_cons, w_expr, w_asg, w_setc, w_par2, w_par3, w_aug, w_ret, w_retN, w_ifs, w_never, seqD_tup, tgsLen, p_add, p_sub, p_mul, p_div, p_mod, p_pow, p_neg, p_eq, p_ne, p_lt, p_le, p_gt, p_ge, p_abs, p_int, p_max, p_min, p_tup, p_lst, p_ixT, p_lenT, truth_bl, onV_some, onB_some, onN_some, onD_bl, onO_some, onL_some, on2_eq, on3_eq, onC_nil, onC_one, onAug_sub, onAug_add, onAug_mul, List.getElem?_cons_zero, List.getElem?_cons_succ, List.set_cons_zero, List.set_cons_succ, wipeD, List.map_cons, List.map_nil, true_and, and_true, decide_eq_true_eq, Bool.not_eq_true', decide_eq_false_iff_not, Nat.reduceAdd, Nat.zero_add, atI_0, atI_1, atI_2, p_eqT2, p_neT2, p_isT, p_isI, p_isB, reduceIte, reduceCtorEq, Int.cast_ofNat_Int, not_true_eq_false, not_false_eq_true, eq_self, if_false, if_true, Bool.true_eq_false, Bool.false_eq_true, Bool.not_true, Bool.not_false, Bool.and_true, Bool.true_and, Bool.and_false, Bool.false_and, p_inT2, p_neS, p_eqS]
    split
    · obtain ⟨m, ns, rfl, hm, e1, l6, hb⟩ := sx
      refine wp_comp (wpF_mono _ _) ?_
      simp only [sd_cons, sd_nil, sd_zero, List.length_cons, List.length_nil, w_var, w_const, w_glob, w_prim, w_meth, w_cut, w_not, w_and, w_or, w_one, w_ite, w_chain, w_call, w_callk, wa_nil, wa_cons, wt_name, wt_tup, wts_nil, wts_cons, wt_sub, ws_nil, ws_cons, w_expr, w_asg, w_setc, w_par2, w_par3, w_aug, w_ret, w_retN, w_ifs, w_never, seqD_tup, tgsLen, p_add, p_sub, p_mul, p_div, p_mod, p_pow, p_neg, p_eq, p_ne, p_lt, p_le, p_gt, p_ge, p_abs, p_int, p_max, p_min, p_tup, p_lst, p_ixT, p_lenT, truth_bl, onV_some, onB_some, onN_some, onD_bl, onO_some, onL_some, on2_eq, on3_eq, onC_nil, onC_one, onAug_sub, onAug_add, onAug_mul, List.getElem?_cons_zero, List.getElem?_cons_succ, List.set_cons_zero, List.set_cons_succ, wipeD, List.map_cons, List.map_nil, true_and, and_true, decide_eq_true_eq, Bool.not_eq_true', decide_eq_false_iff_not, Nat.reduceAdd, Nat.zero_add, atI_0, atI_1, atI_2, p_eqT2, p_neT2, p_isT, p_isI, p_isB, reduceIte, reduceCtorEq, Int.cast_ofNat_Int, not_true_eq_false, not_false_eq_true, eq_self, if_false, if_true, Bool.true_eq_false, Bool.false_eq_true, Bool.not_true, Bool.not_false, Bool.and_true, Bool.true_and, Bool.and_false, Bool.false_and, p_inT2, p_neS, p_eqS, iterR, seqD_ref, seqAt_lst e1, holdOf]
      refine ⟨_, _, rfl, trivial, ok_one (seqAt_lst e1), (by rw [List.length_map, l6]; exact Nat.le_trans (by decide) sz), fun d => match d with
        | .int z => some (.int (-3 * z))
        | _ => none, fun i d S6 hd hg => ?_, fun S6 hg h6 => ?_⟩
      · obtain ⟨z, hz, rfl⟩ := get_int' hd
        simp only [sd_cons, sd_nil, sd_zero, List.length_cons, List.length_nil, w_var, w_const, w_glob, w_prim, w_meth, w_cut, w_not, w_and, w_or, w_one, w_ite, w_chain, w_call, w_callk, wa_nil, wa_cons, wt_name, wt_tup, wts_nil, wts_cons, wt_sub, ws_nil, ws_cons, w_expr, w_asg, w_setc, w_par2, w_par3, w_aug, w_ret, w_retN, w_ifs, w_never, seqD_tup, tgsLen, p_add, p_sub, p_mul, p_div, p_mod, p_pow, p_neg, p_eq, p_ne, p_lt, p_le, p_gt, p_ge, p_abs, p_int, p_max, p_min, p_tup, p_lst, p_ixT, p_lenT, truth_bl, onV_some, onB_some, onN_some, onD_bl, onO_some, onL_some, on2_eq, on3_eq, onC_nil, onC_one, onAug_sub, onAug_add, onAug_mul, List.getElem?_cons_zero, List.getElem?_cons_succ, List.set_cons_zero, List.set_cons_succ, wipeD, List.map_cons, List.map_nil, true_and, and_true, decide_eq_true_eq, Bool.not_eq_true', decide_eq_false_iff_not, Nat.reduceAdd, Nat.zero_add, atI_0, atI_1, atI_2, p_eqT2, p_neT2, p_isT, p_isI, p_isB, reduceIte, reduceCtorEq, Int.cast_ofNat_Int, not_true_eq_false, not_false_eq_true, eq_self, if_false, if_true, Bool.true_eq_false, Bool.false_eq_true, Bool.not_true, Bool.not_false, Bool.and_true, Bool.true_and, Bool.and_false, Bool.false_and, p_inT2, p_neS, p_eqS]
        exact ⟨(Bd.of (n := 2) (by decide) (by decide) : Bd 2 (-3 : Int)).mulOk (hb z hz) (by decide) (by decide), Gr.refl _⟩
      · have h6 := h6.trans (congrArg (fun z => some (O.lst z)) (map_some (fun z : Int => -3 * z) _ D.int D.int (fun a => rfl) ns))
        have rl := p1.lt
        refine ⟨by decide, ⟨.ref m, .ref S5.length, rfl, ⟨m, ns, rfl, hm, hg _ _ e1, l6, fun z hz => (hb z hz).mono (by decide)⟩, ⟨S5.length, _, rfl, by omega, h6, by simp [l6], fun z hz => ?_⟩⟩, g1.trans (hg.x r), (p1.gr hg).mono (by omega)⟩
        obtain ⟨y, hy, rfl⟩ := List.mem_map.mp hz
        exact ((Bd.of (n := 2) (by decide) (by decide) : Bd 2 (-3 : Int)).mul (hb y hy)).mono (by decide)
    · exact ⟨g1, p1⟩
  clear sx g1 p1
  obtain ⟨rfl, g1, p1⟩ := h
  refine cutS (wpF_mono _ _) (fun σ S7 => ∃ c f : Int, σ = [some (.ref r), some (.int w), some x, none, none, none, some (.int c), some (.int f), none, none, none] ∧ Bd 3 c ∧ Bd 3 f ∧ GrX r S S7 ∧ Pool S7 r (n + 43)) ?_ fun σ S7 h => ?_
  · simp only [twS, sd_cons, sd_nil, sd_zero, List.length_cons, List.length_nil, w_var, w_const, w_glob, w_prim, w_meth, w_cut, w_not, w_and, w_or, w_one, w_ite, w_chain, w_call, w_callk, wa_nil, wa_cons, wt_name, wt_tup, wts_nil, wts_cons, wt_sub, ws_nil, ws_cons, w_expr, w_asg, w_setc, w_par2, w_par3, w_aug, w_ret, w_retN, w_ifs, w_never, seqD_tup, tgsLen, p_add, p_sub, p_mul, p_div, p_mod, p_pow, p_neg, p_eq, p_ne, p_lt, p_le, p_gt, p_ge, p_abs, p_int, p_max, p_min, p_tup, p_lst, p_ixT, p_lenT, truth_bl, onV_some, onB_some, onN_some, onD_bl, onO_some, onL_some, on2_eq, on3_eq, onC_nil, onC_one, onAug_sub, onAug_add, onAug_mul, List.getElem?_cons_zero, List.getElem?_cons_succ, List.set_cons_zero, List.set_cons_succ, wipeD, List.map_cons, List.map_nil, true_and, and_true, decide_eq_true_eq, Bool.not_eq_true', decide_eq_false_iff_not, Nat.reduceAdd, Nat.zero_add, atI_0, atI_1, atI_2, p_eqT2, p_neT2, p_isT, p_isI, p_isB, reduceIte, reduceCtorEq, Int.cast_ofNat_Int, not_true_eq_false, not_false_eq_true, eq_self, if_false, if_true, Bool.true_eq_false, Bool.false_eq_true, Bool.not_true, Bool.not_false, Bool.and_true, Bool.true_and, Bool.and_false, Bool.false_and, p_inT2, p_neS, p_eqS]
    refine use (sp_draw H.h1 r _ 13 S6 p1 (by omega) (by decide) (by decide)) fun d S7 hd => ?_
    obtain ⟨v1, rfl, x1, y1, g2, p2⟩ := hd
    simp only [sd_cons, sd_nil, sd_zero, List.length_cons, List.length_nil, w_var, w_const, w_glob, w_prim, w_meth, w_cut, w_not, w_and, w_or, w_one, w_ite, w_chain, w_call, w_callk, wa_nil, wa_cons, wt_name, wt_tup, wts_nil, wts_cons, wt_sub, ws_nil, ws_cons, w_expr, w_asg, w_setc, w_par2, w_par3, w_aug, w_ret, w_retN, w_ifs, w_never, seqD_tup, tgsLen, p_add, p_sub, p_mul, p_div, p_mod, p_pow, p_neg, p_eq, p_ne, p_lt, p_le, p_gt, p_ge, p_abs, p_int, p_max, p_min, p_tup, p_lst, p_ixT, p_lenT, truth_bl, onV_some, onB_some, onN_some, onD_bl, onO_some, onL_some, on2_eq, on3_eq, onC_nil, onC_one, onAug_sub, onAug_add, onAug_mul, List.getElem?_cons_zero, List.getElem?_cons_succ, List.set_cons_zero, List.set_cons_succ, wipeD, List.map_cons, List.map_nil, true_and, and_true, decide_eq_true_eq, Bool.not_eq_true', decide_eq_false_iff_not, Nat.reduceAdd, Nat.zero_add, atI_0, atI_1, atI_2, p_eqT2, p_neT2, p_isT, p_isI, p_isB, reduceIte, reduceCtorEq, Int.cast_ofNat_Int, not_true_eq_false, not_false_eq_true, eq_self, if_false, if_true, Bool.true_eq_false, Bool.false_eq_true, Bool.not_true, Bool.not_false, Bool.and_true, Bool.true_and, Bool.and_false, Bool.false_and, p_inT2, p_neS, p_eqS]
    refine use (sp_draw H.h1 r _ 13 S7 p2 (by omega) (by decide) (by decide)) fun d S8 hd => ?_
    obtain ⟨v2, rfl, x2, y2, g3, p3⟩ := hd
    simp only [sd_cons, sd_nil, sd_zero, List.length_cons, List.length_nil, w_var, w_const, w_glob, w_prim, w_meth, w_cut, w_not, w_and, w_or, w_one, w_ite, w_chain, w_call, w_callk, wa_nil, wa_cons, wt_name, wt_tup, wts_nil, wts_cons, wt_sub, ws_nil, ws_cons, w_expr, w_asg, w_setc, w_par2, w_par3, w_aug, w_ret, w_retN, w_ifs, w_never, seqD_tup, tgsLen, p_add, p_sub, p_mul, p_div, p_mod, p_pow, p_neg, p_eq, p_ne, p_lt, p_le, p_gt, p_ge, p_abs, p_int, p_max, p_min, p_tup, p_lst, p_ixT, p_lenT, truth_bl, onV_some, onB_some, onN_some, onD_bl, onO_some, onL_some, on2_eq, on3_eq, onC_nil, onC_one, onAug_sub, onAug_add, onAug_mul, List.getElem?_cons_zero, List.getElem?_cons_succ, List.set_cons_zero, List.set_cons_succ, wipeD, List.map_cons, List.map_nil, true_and, and_true, decide_eq_true_eq, Bool.not_eq_true', decide_eq_false_iff_not, Nat.reduceAdd, Nat.zero_add, atI_0, atI_1, atI_2, p_eqT2, p_neT2, p_isT, p_isI, p_isB, reduceIte, reduceCtorEq, Int.cast_ofNat_Int, not_true_eq_false, not_false_eq_true, eq_self, if_false, if_true, Bool.true_eq_false, Bool.false_eq_true, Bool.not_true, Bool.not_false, Bool.and_true, Bool.true_and, Bool.and_false, Bool.false_and, p_inT2, p_neS, p_eqS]
    exact ⟨_, _, rfl, Bd.of (by omega) (by omega), Bd.of (by omega) (by omega), (g1.trans g2).trans g3, p3⟩
  clear g1 p1
  obtain ⟨c, f, rfl, bc, bf, g1, p1⟩ := h
  have o1 : Bd 8 (1 : Int) := Bd.of (by decide) (by decide)
  have o0 : Bd 8 (0 : Int) := Bd.of (by decide) (by decide)
  refine cutS (wpF_mono _ _) (fun σ S8 => ∃ L1 L2, σ = [some (.ref r), some (.int w), some x, none, none, none, some (.int c), some (.int f), some (.ref L1), some (.ref L2), none] ∧ L1 ≠ r ∧ L2 ≠ r ∧ S8[L1]? = some (.lst (([1, 0, c, 0, 0, f] : List Int).map D.int)) ∧ S8[L2]? = some (.lst (([c, 0, f, 0, 0, f * c] : List Int).map D.int)) ∧ GrX r S S8 ∧ Pool S8 r (n + 43)) ?_ fun σ S8 h => ?_
  · have rl := p1.lt
    simp only [sd_cons, sd_nil, sd_zero, List.length_cons, List.length_nil, w_var, w_const, w_glob, w_prim, w_meth, w_cut, w_not, w_and, w_or, w_one, w_ite, w_chain, w_call, w_callk, wa_nil, wa_cons, wt_name, wt_tup, wts_nil, wts_cons, wt_sub, ws_nil, ws_cons, w_expr, w_asg, w_setc, w_par2, w_par3, w_aug, w_ret, w_retN, w_ifs, w_never, seqD_tup, tgsLen, p_add, p_sub, p_mul, p_div, p_mod, p_pow, p_neg, p_eq, p_ne, p_lt, p_le, p_gt, p_ge, p_abs, p_int, p_max, p_min, p_tup, p_lst, p_ixT, p_lenT, truth_bl, onV_some, onB_some, onN_some, onD_bl, onO_some, onL_some, on2_eq, on3_eq, onC_nil, onC_one, onAug_sub, onAug_add, onAug_mul, List.getElem?_cons_zero, List.getElem?_cons_succ, List.set_cons_zero, List.set_cons_succ, wipeD, List.map_cons, List.map_nil, true_and, and_true, decide_eq_true_eq, Bool.not_eq_true', decide_eq_false_iff_not, Nat.reduceAdd, Nat.zero_add, atI_0, atI_1, atI_2, p_eqT2, p_neT2, p_isT, p_isI, p_isB, reduceIte, reduceCtorEq, Int.cast_ofNat_Int, not_true_eq_false, not_false_eq_true, eq_self, if_false, if_true, Bool.true_eq_false, Bool.false_eq_true, Bool.not_true, Bool.not_false, Bool.and_true, Bool.true_and, Bool.and_false, Bool.false_and, p_inT2, p_neS, p_eqS]
    refine ⟨by decide, bf.mulOk bc (by decide) (by decide), by decide, ?_⟩
    exact ⟨_, _, rfl, by omega, by simp only [List.length_append, List.length_cons, List.length_nil]; omega, Gr.push _ _ _ _ (gP _ _), gP _ _, g1.trans (((Gr.push _ _).trans (Gr.push _ _)).x r), (p1.gr (Gr.push _ _)).gr (Gr.push _ _)⟩
  clear g1 p1
  obtain ⟨L1, L2, rfl, n1, n2, e1, e2, g1, p1⟩ := h
  have b1 : ∀ z ∈ ([1, 0, c, 0, 0, f] : List Int), Bd 8 z := fun z hz => by
    simp only [List.mem_cons, List.not_mem_nil, or_false] at hz
    rcases hz with rfl | rfl | rfl | rfl | rfl | rfl
    · exact o1
    · exact o0
    · exact bc.mono (by decide)
    · exact o0
    · exact o0
    · exact bf.mono (by decide)
  have b2 : ∀ z ∈ ([c, 0, f, 0, 0, f * c] : List Int), Bd 8 z := fun z hz => by
    simp only [List.mem_cons, List.not_mem_nil, or_false] at hz
    rcases hz with rfl | rfl | rfl | rfl | rfl | rfl
    · exact bc.mono (by decide)
    · exact o0
    · exact bf.mono (by decide)
    · exact o0
    · exact o0
    · exact (bf.mul bc).mono (by decide)
  generalize hA : ([1, 0, c, 0, 0, f] : List Int) = A at e1 b1
  generalize hB : ([c, 0, f, 0, 0, f * c] : List Int) = B at e2 b2
  have lA : A.length = 6 := by rw [← hA]; rfl
  have lB : B.length = 6 := by rw [← hB]; rfl
  refine cutS (wpF_mono _ _) (fun σ S9 => σ = [some (.ref r), some (.int w), some x, none, none, none, some (.int c), some (.int f), some (.ref L1), some (.ref L2), none] ∧ S9 = S8) ?_ fun σ S9 h => ?_
  · simp only [sd_cons, sd_nil, sd_zero, List.length_cons, List.length_nil, w_var, w_const, w_glob, w_prim, w_meth, w_cut, w_not, w_and, w_or, w_one, w_ite, w_chain, w_call, w_callk, wa_nil, wa_cons, wt_name, wt_tup, wts_nil, wts_cons, wt_sub, ws_nil, ws_cons, w_expr, w_asg, w_setc, w_par2, w_par3, w_aug, w_ret, w_retN, w_ifs, w_never, seqD_tup, tgsLen, p_add, p_sub, p_mul, p_div, p_mod, p_pow, p_neg, p_eq, p_ne, p_lt, p_le, p_gt, p_ge, p_abs, p_int, p_max, p_min, p_tup, p_lst, p_ixT, p_lenT, truth_bl, onV_some, onB_some, onN_some, onD_bl, onO_some, onL_some, on2_eq, on3_eq, onC_nil, onC_one, onAug_sub, onAug_add, onAug_mul, List.getElem?_cons_zero, List.getElem?_cons_succ, List.set_cons_zero, List.set_cons_succ, wipeD, List.map_cons, List.map_nil, true_and, and_true, decide_eq_true_eq, Bool.not_eq_true', decide_eq_false_iff_not, Nat.reduceAdd, Nat.zero_add, atI_0, atI_1, atI_2, p_eqT2, p_neT2, p_isT, p_isI, p_isB, reduceIte, reduceCtorEq, Int.cast_ofNat_Int, not_true_eq_false, not_false_eq_true, eq_self, if_false, if_true, Bool.true_eq_false, Bool.false_eq_true, Bool.not_true, Bool.not_false, Bool.and_true, Bool.true_and, Bool.and_false, Bool.false_and, p_inT2, p_neS, p_eqS]
    split
    · exact ⟨by decide, ⟨.ref L1, .ref L2, rfl, ⟨L1, A, rfl, n1, e1, lA, fun z hz => (b1 z hz).mono (by decide)⟩, ⟨L2, B, rfl, n2, e2, lB, fun z hz => (b2 z hz).mono (by decide)⟩⟩, g1, p1.mono (by omega)⟩
    · trivial
  obtain ⟨rfl, rfl⟩ := h
  simp only [sd_cons, sd_nil, sd_zero, List.length_cons, List.length_nil, w_var, w_const, w_glob, w_prim, w_meth, w_cut, w_not, w_and, w_or, w_one, w_ite, w_chain, w_call, w_callk, wa_nil, wa_cons, wt_name, wt_tup, wts_nil, wts_cons, wt_sub, ws_nil, ws_cons, w_expr, w_asg, w_setc, w_par2, w_par3, w_aug, w_ret, w_retN, w_ifs, w_never, seqD_tup, tgsLen, p_add, p_sub, p_mul, p_div, p_mod, p_pow, p_neg, p_eq, p_ne, p_lt, p_le, p_gt, p_ge, p_abs, p_int, p_max, p_min, p_tup, p_lst, p_ixT, p_lenT, truth_bl, onV_some, onB_some, onN_some, onD_bl, onO_some, onL_some, on2_eq, on3_eq, onC_nil, onC_one, onAug_sub, onAug_add, onAug_mul, List.getElem?_cons_zero, List.getElem?_cons_succ, List.set_cons_zero, List.set_cons_succ, wipeD, List.map_cons, List.map_nil, true_and, and_true, decide_eq_true_eq, Bool.not_eq_true', decide_eq_false_iff_not, Nat.reduceAdd, Nat.zero_add, atI_0, atI_1, atI_2, p_eqT2, p_neT2, p_isT, p_isI, p_isB, reduceIte, reduceCtorEq, Int.cast_ofNat_Int, not_true_eq_false, not_false_eq_true, eq_self, if_false, if_true, Bool.true_eq_false, Bool.false_eq_true, Bool.not_true, Bool.not_false, Bool.and_true, Bool.true_and, Bool.and_false, Bool.false_and, p_inT2, p_neS, p_eqS]
  refine use (sp_names (k := k + 4) H h108 r _ S9 p1 (by omega)) fun d S10 hd => ?_
  obtain ⟨q, ws, rfl, hq, e3, l4, hb, g2, p2⟩ := hd
  refine use (sp_renamed (k := k + 4) H h109 A ws lA l4 L1 q S10 (seqAt_lst (g2 _ _ n1 e1)) (seqAt_lst e3) b1 hb) fun d S11 hd => ?_
  obtain ⟨q1, m1, rfl, g3, h3, e4, l41, b41⟩ := hd
  refine use (sp_renamed (k := k + 4) H h109 B ws lB l4 L2 q S11 (seqAt_lst (g3 _ _ (g2 _ _ n2 e2))) (seqAt_lst (g3 _ _ e3)) b2 hb) fun d S12 hd => ?_
  obtain ⟨q2, m2, rfl, g4, h4, e5, l51, b51⟩ := hd
  have rl := p2.lt
  have r2 := (p2.gr g3).lt
  exact ⟨by decide, ⟨.ref q1, .ref q2, rfl, ⟨q1, m1, rfl, by omega, g4 _ _ e4, l41, b41⟩, ⟨q2, m2, rfl, by omega, e5, l51, b51⟩⟩, (g1.trans g2).trans ((g3.trans g4).x r), (p2.gr (g3.trans g4)).mono (by omega)⟩
/-! ### the law -/
def riS (r : Nat) (x y : D) (z3 z4 z5 z6 z7 z8 z9 : Option D) : Sd := [some (.ref r), some x, some y, z3, z4, z5, z6, z7, z8, z9, none, none]
/-- proportional in all pairs of places -/
def parB (u v : List Int) : Bool := (List.range 5).all fun i => (List.range i).all fun j => decide (u.getD i 0 * v.getD j 0 = u.getD j 0 * v.getD i 0)
theorem parB_iff {u v : List Int} (hu : u.length = 5) (hv : v.length = 5) (nu : ∃ n ∈ u, n ≠ 0) (nv : ∃ n ∈ v, n ≠ 0) : parB u v = decide (dvd u = dvd v) := by
  rw [Bool.eq_iff_iff, decide_eq_true_eq, dvd_prop nu nv (by rw [hu, hv])]
  unfold parB
  simp only [List.all_eq_true, List.mem_range, decide_eq_true_eq]
  have gu : ∀ i x, u[i]? = some x → u.getD i 0 = x ∧ i < 5 := fun i x h => ⟨by rw [List.getD_eq_getElem?_getD, h]; rfl, by have := (List.getElem?_eq_some_iff.mp h).1; omega⟩
  have gv : ∀ i x, v[i]? = some x → v.getD i 0 = x := fun i x h => by rw [List.getD_eq_getElem?_getD, h]; rfl
  constructor
  · intro h i j x y z w h1 h2 h3 h4
    obtain ⟨rfl, hi⟩ := gu i x h1
    obtain ⟨rfl, hj⟩ := gu j z h3
    rw [← gv j y h2, ← gv i w h4]
    rcases Nat.lt_trichotomy j i with c | c | c
    · exact h i hi j c
    · subst c; rfl
    · exact (h j hj i c).symm
  · intro h i hi j hj
    refine h i j _ _ _ _ ?_ ?_ ?_ ?_ <;> (rw [List.getD_eq_getElem?_getD, List.getElem?_eq_getElem (by omega)]; rfl)
theorem sp_right {T : Nat → Option Fn} {k : Nat} (H : HasLaw T) (HR : HasRel T) (h108 : T 108 = some f_law_names) (h109 : T 109 = some f_law_renamed_0) (h143 : T 143 = some f_are_exchanged) (h146 : T 146 = some f_law_two) (h147 : T 147 = some f_law_right_30) (h357 : T 357 = some f_law_made_1) (r n : Nat) (S : Store) (hp : Pool S r n) (hn : n ≤ 2 ^ 28) :
    wpF T (k + 8) 147 [.ref r] S (fun d S1 => d = .bl true ∧ GrX r S S1 ∧ Pool S1 r (n + 100)) fun _ _ => False := by
  have sz : (20 : Nat) ≤ sizeLine := by decide
  rw [wF h147]
  refine ⟨rfl, ?_⟩
  simp only [f_law_right_30, sd_cons, sd_nil, sd_zero, List.length_cons, List.length_nil, Nat.reduceAdd, Nat.zero_add]
  refine cutS (wpF_mono _ _) (fun σ S1 => ∃ x y, σ = riS r x y none none none none none none none ∧ Six 60 r x S1 ∧ Six 60 r y S1 ∧ GrX r S S1 ∧ Pool S1 r (n + 100)) ?_ fun σ S1 h => ?_
  · simp only [sd_cons, sd_nil, sd_zero, List.length_cons, List.length_nil, w_var, w_const, w_glob, w_prim, w_meth, w_cut, w_not, w_and, w_or, w_one, w_ite, w_chain, w_call, w_callk, wa_nil, wa_cons, wt_name, wt_tup, wts_nil, wts_cons, wt_sub, ws_nil, ws_cons, w_expr, w_asg, w_setc, w_par2, w_par3, w_aug, w_ret, w_retN, w_ifs, w_never, seqD_tup, tgsLen, p_add, p_sub, p_mul, p_div, p_mod, p_pow, p_neg, p_eq, p_ne, p_lt, p_le, p_gt, p_ge, p_abs, p_int, p_max, p_min, p_tup, p_lst, p_ixT, p_lenT, truth_bl, onV_some, onB_some, onN_some, onD_bl, onO_some, onL_some, on2_eq, on3_eq, onC_nil, onC_one, onAug_sub, onAug_add, onAug_mul, List.getElem?_cons_zero, List.getElem?_cons_succ, List.set_cons_zero, List.set_cons_succ, wipeD, List.map_cons, List.map_nil, true_and, and_true, decide_eq_true_eq, Bool.not_eq_true', decide_eq_false_iff_not, Nat.reduceAdd, Nat.zero_add, atI_0, atI_1, atI_2, p_eqT2, p_neT2, p_isT, p_isI, p_isB, reduceIte, reduceCtorEq, Int.cast_ofNat_Int, not_true_eq_false, not_false_eq_true, eq_self, if_false, if_true, Bool.true_eq_false, Bool.false_eq_true, Bool.not_true, Bool.not_false, Bool.and_true, Bool.true_and, Bool.and_false, Bool.false_and, p_inT2, p_neS, p_eqS]
    refine use (sp_two (k := k) H h108 h109 h146 r n S hp hn) fun d S1 hd => ?_
    obtain ⟨⟨x, y, rfl, sx, sy⟩, g1, p1⟩ := hd
    simp only [sd_cons, sd_nil, sd_zero, List.length_cons, List.length_nil, w_var, w_const, w_glob, w_prim, w_meth, w_cut, w_not, w_and, w_or, w_one, w_ite, w_chain, w_call, w_callk, wa_nil, wa_cons, wt_name, wt_tup, wts_nil, wts_cons, wt_sub, ws_nil, ws_cons, w_expr, w_asg, w_setc, w_par2, w_par3, w_aug, w_ret, w_retN, w_ifs, w_never, seqD_tup, tgsLen, p_add, p_sub, p_mul, p_div, p_mod, p_pow, p_neg, p_eq, p_ne, p_lt, p_le, p_gt, p_ge, p_abs, p_int, p_max, p_min, p_tup, p_lst, p_ixT, p_lenT, truth_bl, onV_some, onB_some, onN_some, onD_bl, onO_some, onL_some, on2_eq, on3_eq, onC_nil, onC_one, onAug_sub, onAug_add, onAug_mul, List.getElem?_cons_zero, List.getElem?_cons_succ, List.set_cons_zero, List.set_cons_succ, wipeD, List.map_cons, List.map_nil, true_and, and_true, decide_eq_true_eq, Bool.not_eq_true', decide_eq_false_iff_not, Nat.reduceAdd, Nat.zero_add, atI_0, atI_1, atI_2, p_eqT2, p_neT2, p_isT, p_isI, p_isB, reduceIte, reduceCtorEq, Int.cast_ofNat_Int, not_true_eq_false, not_false_eq_true, eq_self, if_false, if_true, Bool.true_eq_false, Bool.false_eq_true, Bool.not_true, Bool.not_false, Bool.and_true, Bool.true_and, Bool.and_false, Bool.false_and, p_inT2, p_neS, p_eqS]
    exact ⟨x, y, rfl, sx, sy, g1, p1⟩
  obtain ⟨x, y, rfl, ⟨l, ns, rfl, hl, e1, n6, nb⟩, ⟨m, ms, rfl, hm, e2, m6, mb⟩, g1, p1⟩ := h
  refine cutS (wpF_mono _ _) (fun σ S2 => σ = riS r (.ref l) (.ref m) none none none none none none none ∧ Gr S1 S2 ∧ discQ ns ≠ 0 ∧ discQ ms ≠ 0) ?_ fun σ S2 h => ?_
  · have zero : ∀ (S3 : Store), ∃ S4, S4 = (S3 ++ [O.lst [D.int 0]]) ++ [O.lst (List.replicate 6 [D.int 0]).flatten] ∧ Gr S3 S4 ∧ seqAt S4 (S3 ++ [O.lst [D.int 0]]).length = some (([0, 0, 0, 0, 0, 0] : List Int).map D.int) := fun S3 => ⟨_, rfl, (Gr.push _ _).trans (Gr.push _ _), seqAt_lst (by simp)⟩
    simp only [riS, w_ifs, w_or, w_one, w_not, w_call, sd_cons, sd_nil, sd_zero, List.length_cons, List.length_nil, w_var, w_const, w_glob, w_prim, w_meth, w_cut, w_not, w_and, w_or, w_one, w_ite, w_chain, w_call, w_callk, wa_nil, wa_cons, wt_name, wt_tup, wts_nil, wts_cons, wt_sub, ws_nil, ws_cons, w_expr, w_asg, w_setc, w_par2, w_par3, w_aug, w_ret, w_retN, w_ifs, w_never, seqD_tup, tgsLen, p_add, p_sub, p_mul, p_div, p_mod, p_pow, p_neg, p_eq, p_ne, p_lt, p_le, p_gt, p_ge, p_abs, p_int, p_max, p_min, p_tup, p_lst, p_ixT, p_lenT, truth_bl, onV_some, onB_some, onN_some, onD_bl, onO_some, onL_some, on2_eq, on3_eq, onC_nil, onC_one, onAug_sub, onAug_add, onAug_mul, List.getElem?_cons_zero, List.getElem?_cons_succ, List.set_cons_zero, List.set_cons_succ, wipeD, List.map_cons, List.map_nil, true_and, and_true, decide_eq_true_eq, Bool.not_eq_true', decide_eq_false_iff_not, Nat.reduceAdd, Nat.zero_add, atI_0, atI_1, atI_2, p_eqT2, p_neT2, p_isT, p_isI, p_isB, reduceIte, reduceCtorEq, Int.cast_ofNat_Int, not_true_eq_false, not_false_eq_true, eq_self, if_false, if_true, Bool.true_eq_false, Bool.false_eq_true, Bool.not_true, Bool.not_false, Bool.and_true, Bool.true_and, Bool.and_false, Bool.false_and, p_inT2, p_neS, p_eqS]
    refine ⟨by decide, ?_⟩
    refine p_rep (xs := [.int 0]) (k := 6) (by simp) (by decide) (by decide) ?_
    obtain ⟨S3, h3, g3, z3⟩ := zero S1
    rw [← h3]
    refine p_eqL (seqAt_lst (g3 _ _ e1)) z3 ?_
    simp only [truth_bl, onB_some, decide_eq_true_eq]
    split
    · exact ⟨g1.trans (g3.x r), p1.gr g3⟩
    · refine ⟨by decide, ?_⟩
      refine p_rep (xs := [.int 0]) (k := 6) (by simp) (by decide) (by decide) ?_
      obtain ⟨S4, h4, g4, z4⟩ := zero S3
      rw [← h4]
      have g34 := g3.trans g4
      refine p_eqL (seqAt_lst (g34 _ _ e2)) z4 ?_
      simp only [truth_bl, onB_some, decide_eq_true_eq]
      split
      · exact ⟨g1.trans (g34.x r), p1.gr g34⟩
      · refine use (sp_law_is_straight (k := k + 3) H.h30 H.h31 H.h32 H.h35 H.h36 ns n6 l S4 (seqAt_lst (g34 _ _ e1)) (fun z hz => (nb z hz).mono (by decide))) fun d S5 hd => ?_
        obtain ⟨t1, rfl, g5, s1⟩ := hd
        have g35 := g34.trans g5
        cases t1 with
        | false =>
          simp only [sd_cons, sd_nil, sd_zero, List.length_cons, List.length_nil, w_var, w_const, w_glob, w_prim, w_meth, w_cut, w_not, w_and, w_or, w_one, w_ite, w_chain, w_call, w_callk, wa_nil, wa_cons, wt_name, wt_tup, wts_nil, wts_cons, wt_sub, ws_nil, ws_cons, w_expr, w_asg, w_setc, w_par2, w_par3, w_aug, w_ret, w_retN, w_ifs, w_never, seqD_tup, tgsLen, p_add, p_sub, p_mul, p_div, p_mod, p_pow, p_neg, p_eq, p_ne, p_lt, p_le, p_gt, p_ge, p_abs, p_int, p_max, p_min, p_tup, p_lst, p_ixT, p_lenT, truth_bl, onV_some, onB_some, onN_some, onD_bl, onO_some, onL_some, on2_eq, on3_eq, onC_nil, onC_one, onAug_sub, onAug_add, onAug_mul, List.getElem?_cons_zero, List.getElem?_cons_succ, List.set_cons_zero, List.set_cons_succ, wipeD, List.map_cons, List.map_nil, true_and, and_true, decide_eq_true_eq, Bool.not_eq_true', decide_eq_false_iff_not, Nat.reduceAdd, Nat.zero_add, atI_0, atI_1, atI_2, p_eqT2, p_neT2, p_isT, p_isI, p_isB, reduceIte, reduceCtorEq, Int.cast_ofNat_Int, not_true_eq_false, not_false_eq_true, eq_self, if_false, if_true, Bool.true_eq_false, Bool.false_eq_true, Bool.not_true, Bool.not_false, Bool.and_true, Bool.true_and, Bool.and_false, Bool.false_and, p_inT2, p_neS, p_eqS]
          exact ⟨g1.trans (g35.x r), p1.gr g35⟩
        | true =>
          simp only [sd_cons, sd_nil, sd_zero, List.length_cons, List.length_nil, w_var, w_const, w_glob, w_prim, w_meth, w_cut, w_not, w_and, w_or, w_one, w_ite, w_chain, w_call, w_callk, wa_nil, wa_cons, wt_name, wt_tup, wts_nil, wts_cons, wt_sub, ws_nil, ws_cons, w_expr, w_asg, w_setc, w_par2, w_par3, w_aug, w_ret, w_retN, w_ifs, w_never, seqD_tup, tgsLen, p_add, p_sub, p_mul, p_div, p_mod, p_pow, p_neg, p_eq, p_ne, p_lt, p_le, p_gt, p_ge, p_abs, p_int, p_max, p_min, p_tup, p_lst, p_ixT, p_lenT, truth_bl, onV_some, onB_some, onN_some, onD_bl, onO_some, onL_some, on2_eq, on3_eq, onC_nil, onC_one, onAug_sub, onAug_add, onAug_mul, List.getElem?_cons_zero, List.getElem?_cons_succ, List.set_cons_zero, List.set_cons_succ, wipeD, List.map_cons, List.map_nil, true_and, and_true, decide_eq_true_eq, Bool.not_eq_true', decide_eq_false_iff_not, Nat.reduceAdd, Nat.zero_add, atI_0, atI_1, atI_2, p_eqT2, p_neT2, p_isT, p_isI, p_isB, reduceIte, reduceCtorEq, Int.cast_ofNat_Int, not_true_eq_false, not_false_eq_true, eq_self, if_false, if_true, Bool.true_eq_false, Bool.false_eq_true, Bool.not_true, Bool.not_false, Bool.and_true, Bool.true_and, Bool.and_false, Bool.false_and, p_inT2, p_neS, p_eqS]
          refine use (sp_law_is_straight (k := k + 3) H.h30 H.h31 H.h32 H.h35 H.h36 ms m6 m S5 (seqAt_lst (g35 _ _ e2)) (fun z hz => (mb z hz).mono (by decide))) fun d S6 hd => ?_
          obtain ⟨t2, rfl, g6, s2⟩ := hd
          have g36 := g35.trans g6
          cases t2 with
          | false =>
            simp only [sd_cons, sd_nil, sd_zero, List.length_cons, List.length_nil, w_var, w_const, w_glob, w_prim, w_meth, w_cut, w_not, w_and, w_or, w_one, w_ite, w_chain, w_call, w_callk, wa_nil, wa_cons, wt_name, wt_tup, wts_nil, wts_cons, wt_sub, ws_nil, ws_cons, w_expr, w_asg, w_setc, w_par2, w_par3, w_aug, w_ret, w_retN, w_ifs, w_never, seqD_tup, tgsLen, p_add, p_sub, p_mul, p_div, p_mod, p_pow, p_neg, p_eq, p_ne, p_lt, p_le, p_gt, p_ge, p_abs, p_int, p_max, p_min, p_tup, p_lst, p_ixT, p_lenT, truth_bl, onV_some, onB_some, onN_some, onD_bl, onO_some, onL_some, on2_eq, on3_eq, onC_nil, onC_one, onAug_sub, onAug_add, onAug_mul, List.getElem?_cons_zero, List.getElem?_cons_succ, List.set_cons_zero, List.set_cons_succ, wipeD, List.map_cons, List.map_nil, true_and, and_true, decide_eq_true_eq, Bool.not_eq_true', decide_eq_false_iff_not, Nat.reduceAdd, Nat.zero_add, atI_0, atI_1, atI_2, p_eqT2, p_neT2, p_isT, p_isI, p_isB, reduceIte, reduceCtorEq, Int.cast_ofNat_Int, not_true_eq_false, not_false_eq_true, eq_self, if_false, if_true, Bool.true_eq_false, Bool.false_eq_true, Bool.not_true, Bool.not_false, Bool.and_true, Bool.true_and, Bool.and_false, Bool.false_and, p_inT2, p_neS, p_eqS]
            exact ⟨g1.trans (g36.x r), p1.gr g36⟩
          | true =>
            simp only [sd_cons, sd_nil, sd_zero, List.length_cons, List.length_nil, w_var, w_const, w_glob, w_prim, w_meth, w_cut, w_not, w_and, w_or, w_one, w_ite, w_chain, w_call, w_callk, wa_nil, wa_cons, wt_name, wt_tup, wts_nil, wts_cons, wt_sub, ws_nil, ws_cons, w_expr, w_asg, w_setc, w_par2, w_par3, w_aug, w_ret, w_retN, w_ifs, w_never, seqD_tup, tgsLen, p_add, p_sub, p_mul, p_div, p_mod, p_pow, p_neg, p_eq, p_ne, p_lt, p_le, p_gt, p_ge, p_abs, p_int, p_max, p_min, p_tup, p_lst, p_ixT, p_lenT, truth_bl, onV_some, onB_some, onN_some, onD_bl, onO_some, onL_some, on2_eq, on3_eq, onC_nil, onC_one, onAug_sub, onAug_add, onAug_mul, List.getElem?_cons_zero, List.getElem?_cons_succ, List.set_cons_zero, List.set_cons_succ, wipeD, List.map_cons, List.map_nil, true_and, and_true, decide_eq_true_eq, Bool.not_eq_true', decide_eq_false_iff_not, Nat.reduceAdd, Nat.zero_add, atI_0, atI_1, atI_2, p_eqT2, p_neT2, p_isT, p_isI, p_isB, reduceIte, reduceCtorEq, Int.cast_ofNat_Int, not_true_eq_false, not_false_eq_true, eq_self, if_false, if_true, Bool.true_eq_false, Bool.false_eq_true, Bool.not_true, Bool.not_false, Bool.and_true, Bool.true_and, Bool.and_false, Bool.false_and, p_inT2, p_neS, p_eqS]
            exact ⟨g36, s1 rfl, s2 rfl⟩
  obtain ⟨rfl, g2, dn, dm⟩ := h
  have q5 : ∀ {ns : List Int}, ns.length = 6 → (quartL ns).length = 5 := fun {ns} h => by
    match ns, h with
    | [_, _, _, _, _, _], _ => rfl
  have bq := quartL_bd n6 nb
  have cq := quartL_bd m6 mb
  refine cutS (wpF_mono _ _) (fun σ S3 => ∃ p q, σ = riS r (.ref l) (.ref m) (some (.ref p)) (some (.ref q)) (some (.bl true)) none none none none ∧ Gr S2 S3 ∧ S3[p]? = some (.lst ((quartL ns).map D.int)) ∧ S3[q]? = some (.lst ((quartL ms).map D.int))) ?_ fun σ S3 h => ?_
  · simp only [riS, sd_cons, sd_nil, sd_zero, List.length_cons, List.length_nil, w_var, w_const, w_glob, w_prim, w_meth, w_cut, w_not, w_and, w_or, w_one, w_ite, w_chain, w_call, w_callk, wa_nil, wa_cons, wt_name, wt_tup, wts_nil, wts_cons, wt_sub, ws_nil, ws_cons, w_expr, w_asg, w_setc, w_par2, w_par3, w_aug, w_ret, w_retN, w_ifs, w_never, seqD_tup, tgsLen, p_add, p_sub, p_mul, p_div, p_mod, p_pow, p_neg, p_eq, p_ne, p_lt, p_le, p_gt, p_ge, p_abs, p_int, p_max, p_min, p_tup, p_lst, p_ixT, p_lenT, truth_bl, onV_some, onB_some, onN_some, onD_bl, onO_some, onL_some, on2_eq, on3_eq, onC_nil, onC_one, onAug_sub, onAug_add, onAug_mul, List.getElem?_cons_zero, List.getElem?_cons_succ, List.set_cons_zero, List.set_cons_succ, wipeD, List.map_cons, List.map_nil, true_and, and_true, decide_eq_true_eq, Bool.not_eq_true', decide_eq_false_iff_not, Nat.reduceAdd, Nat.zero_add, atI_0, atI_1, atI_2, p_eqT2, p_neT2, p_isT, p_isI, p_isB, reduceIte, reduceCtorEq, Int.cast_ofNat_Int, not_true_eq_false, not_false_eq_true, eq_self, if_false, if_true, Bool.true_eq_false, Bool.false_eq_true, Bool.not_true, Bool.not_false, Bool.and_true, Bool.true_and, Bool.and_false, Bool.false_and, p_inT2, p_neS, p_eqS]
    refine use (sp_five (k := k + 4) H.h31 H.h32 H.h35 ns n6 l S2 (seqAt_lst (g2 _ _ e1)) (by decide) nb) fun d S3 hd => ?_
    obtain ⟨p, rfl, g3, e3⟩ := hd
    refine use (sp_five (k := k + 4) H.h31 H.h32 H.h35 ms m6 m S3 (seqAt_lst (g3 _ _ (g2 _ _ e2))) (by decide) mb) fun d S4 hd => ?_
    obtain ⟨q, rfl, g4, e4⟩ := hd
    exact ⟨p, q, rfl, g3.trans g4, g4 _ _ e3, e4⟩
  obtain ⟨p, q, rfl, g3, e3, e4⟩ := h
  have lu := q5 n6
  have lv := q5 m6
  have eqn := parB_iff lu lv (quartL_ne n6 dn) (quartL_ne m6 dm)
  generalize hU : quartL ns = U at *
  generalize hV : quartL ms = V at *
  refine cutS (wpF_mono _ _) (fun σ S4 => ∃ z6 z7 z8 z9, σ = riS r (.ref l) (.ref m) (some (.ref p)) (some (.ref q)) (some (.bl (parB U V))) z6 z7 z8 z9 ∧ S4 = S3) ?_ fun σ S4 h => ?_
  · refine wp_for (wpF_mono _ _) ?_
    simp only [wa_cons, wa_nil, w_const, iterR]
    refine ⟨_, _, rfl, by decide, fun i σ S4 => ∃ z6 z7 z8 z9, σ = riS r (.ref l) (.ref m) (some (.ref p)) (some (.ref q)) (some (.bl ((List.range i).all fun i => (List.range i).all fun j => decide (U.getD i 0 * V.getD j 0 = U.getD j 0 * V.getD i 0)))) z6 z7 z8 z9 ∧ S4 = S3, ⟨_, _, _, _, rfl, rfl⟩, fun i σ S1 _ _ => ok_nil, fun i d σ S4 hd hi => ?_, fun σ S4 hi => ?_⟩
    · obtain ⟨z6, z7, z8, z9, rfl, rfl⟩ := hi
      have hi := (List.getElem?_eq_some_iff.mp hd).1
      rw [rangeL_length] at hi
      have hi5 : i < 5 := hi
      have := rangeL_get _ _ _ _ hd
      rw [Int.zero_add] at this
      subst this
      simp only [wt_name, riS, List.set_cons_succ, List.set_cons_zero, ws_cons, ws_nil]
      refine wp_for (wpF_mono _ _) ?_
      simp only [wa_cons, wa_nil, w_var, iterR, List.getElem?_cons_succ, List.getElem?_cons_zero, onV_some]
      have nxt : (List.range (i + 1)).all (fun i => (List.range i).all fun j => decide (U.getD i 0 * V.getD j 0 = U.getD j 0 * V.getD i 0)) = ((List.range i).all (fun i => (List.range i).all fun j => decide (U.getD i 0 * V.getD j 0 = U.getD j 0 * V.getD i 0)) && (List.range i).all fun j => decide (U.getD i 0 * V.getD j 0 = U.getD j 0 * V.getD i 0)) := by
        rw [List.range_succ, List.all_append]
        simp
      rw [nxt]
      clear nxt
      generalize (List.range i).all (fun i => (List.range i).all fun j => decide (U.getD i 0 * V.getD j 0 = U.getD j 0 * V.getD i 0)) = b0
      refine ⟨_, _, rfl, by omega, fun j σ S5 => ∃ z7 z8 z9, σ = riS r (.ref l) (.ref m) (some (.ref p)) (some (.ref q)) (some (.bl (b0 && (List.range j).all fun j => decide (U.getD i 0 * V.getD j 0 = U.getD j 0 * V.getD i 0)))) (some (.int i)) z7 z8 z9 ∧ S5 = S4, ⟨z7, z8, z9, by simp [riS], rfl⟩, fun i σ S1 _ _ => ok_nil, fun j d σ S5 hd hi => ?_, fun σ S5 hi => ?_⟩
      · obtain ⟨z7, z8, z9, rfl, rfl⟩ := hi
        have hj := (List.getElem?_eq_some_iff.mp hd).1
        rw [rangeL_length] at hj
        have hj5 : j < i := by omega
        have := rangeL_get _ _ _ _ hd
        rw [Int.zero_add] at this
        subst this
        have gi : ∀ {W : List Int}, W.length = 5 → ∀ t : Nat, t < 5 → atI (W.map D.int) ((t : Nat) : Int) = some (.int (W.getD t 0)) := fun {W} hW t ht => by
          have hg : W.getD t 0 = W[t]'(by omega) := by rw [List.getD_eq_getElem?_getD, List.getElem?_eq_getElem (by omega)]; rfl
          exact atI_nat (i := t) (by rw [List.getElem?_map, List.getElem?_eq_getElem (by omega), hg]; rfl)
        have bi : ∀ {W : List Int}, W.length = 5 → (∀ z ∈ W, Bd 128 z) → ∀ t : Nat, t < 5 → Bd 128 (W.getD t 0) := fun {W} hW hb t ht => by
          rw [List.getD_eq_getElem?_getD, List.getElem?_eq_getElem (by omega)]
          exact hb _ (List.getElem_mem _)
        have bU := bi lu (fun z hz => bq z hz)
        have bV := bi lv (fun z hz => cq z hz)
        simp only [riS, sd_cons, sd_nil, sd_zero, List.length_cons, List.length_nil, w_var, w_const, w_glob, w_prim, w_meth, w_cut, w_not, w_and, w_or, w_one, w_ite, w_chain, w_call, w_callk, wa_nil, wa_cons, wt_name, wt_tup, wts_nil, wts_cons, wt_sub, ws_nil, ws_cons, w_expr, w_asg, w_setc, w_par2, w_par3, w_aug, w_ret, w_retN, w_ifs, w_never, seqD_tup, tgsLen, p_add, p_sub, p_mul, p_div, p_mod, p_pow, p_neg, p_eq, p_ne, p_lt, p_le, p_gt, p_ge, p_abs, p_int, p_max, p_min, p_tup, p_lst, p_ixT, p_lenT, truth_bl, onV_some, onB_some, onN_some, onD_bl, onO_some, onL_some, on2_eq, on3_eq, onC_nil, onC_one, onAug_sub, onAug_add, onAug_mul, List.getElem?_cons_zero, List.getElem?_cons_succ, List.set_cons_zero, List.set_cons_succ, wipeD, List.map_cons, List.map_nil, true_and, and_true, decide_eq_true_eq, Bool.not_eq_true', decide_eq_false_iff_not, Nat.reduceAdd, Nat.zero_add, atI_0, atI_1, atI_2, p_eqT2, p_neT2, p_isT, p_isI, p_isB, reduceIte, reduceCtorEq, Int.cast_ofNat_Int, not_true_eq_false, not_false_eq_true, eq_self, if_false, if_true, Bool.true_eq_false, Bool.false_eq_true, Bool.not_true, Bool.not_false, Bool.and_true, Bool.true_and, Bool.and_false, Bool.false_and, p_inT2, p_neS, p_eqS, p_ixE (seqAt_lst e3), p_ixE (seqAt_lst e4), gi lu i hi5, gi lv j (by omega), gi lu j (by omega), gi lv i hi5]
        refine ⟨(bU i hi5).mulOk (bV j (by omega)) (by decide) (by decide), (bU j (by omega)).mulOk (bV i hi5) (by decide) (by decide), ?_⟩
        rw [List.range_succ, List.all_append]
        generalize (List.range j).all (fun j => decide (U.getD i 0 * V.getD j 0 = U.getD j 0 * V.getD i 0)) = b1
        cases hb : (b0 && b1) with
        | false =>
          have : (b0 && (b1 && [j].all fun j => decide (U.getD i 0 * V.getD j 0 = U.getD j 0 * V.getD i 0))) = false := by rw [← Bool.and_assoc, hb]; rfl
          rw [this]
          exact ⟨_, _, _, rfl⟩
        | true =>
          have : (b0 && (b1 && [j].all fun j => decide (U.getD i 0 * V.getD j 0 = U.getD j 0 * V.getD i 0))) = decide (U.getD i 0 * V.getD j 0 = U.getD j 0 * V.getD i 0) := by rw [← Bool.and_assoc, hb]; simp
          rw [this]
          exact ⟨_, _, _, rfl⟩
      · obtain ⟨z7, z8, z9, rfl, rfl⟩ := hi
        rw [rangeL_length, show ((i : Nat) : Int).toNat = i by omega]
        exact ⟨_, _, _, _, rfl, rfl⟩
    · obtain ⟨z6, z7, z8, z9, rfl, rfl⟩ := hi
      exact ⟨_, _, _, _, rfl, rfl⟩
  obtain ⟨z6, z7, z8, z9, rfl, rfl⟩ := h
  have g24 := g2.trans g3
  have wn : ∀ z ∈ ns, Bd 200 z := fun z hz => (nb z hz).mono (by decide)
  have wm : ∀ z ∈ ms, Bd 200 z := fun z hz => (mb z hz).mono (by decide)
  rw [eqn]
  generalize ht : decide (dvd U = dvd V) = t
  have ht2 : decide (dvd V = dvd U) = t := by rw [← ht, decide_eq_decide]; exact eq_comm
  simp only [riS, sd_cons, sd_nil, sd_zero, List.length_cons, List.length_nil, w_var, w_const, w_glob, w_prim, w_meth, w_cut, w_not, w_and, w_or, w_one, w_ite, w_chain, w_call, w_callk, wa_nil, wa_cons, wt_name, wt_tup, wts_nil, wts_cons, wt_sub, ws_nil, ws_cons, w_expr, w_asg, w_setc, w_par2, w_par3, w_aug, w_ret, w_retN, w_ifs, w_never, seqD_tup, tgsLen, p_add, p_sub, p_mul, p_div, p_mod, p_pow, p_neg, p_eq, p_ne, p_lt, p_le, p_gt, p_ge, p_abs, p_int, p_max, p_min, p_tup, p_lst, p_ixT, p_lenT, truth_bl, onV_some, onB_some, onN_some, onD_bl, onO_some, onL_some, on2_eq, on3_eq, onC_nil, onC_one, onAug_sub, onAug_add, onAug_mul, List.getElem?_cons_zero, List.getElem?_cons_succ, List.set_cons_zero, List.set_cons_succ, wipeD, List.map_cons, List.map_nil, true_and, and_true, decide_eq_true_eq, Bool.not_eq_true', decide_eq_false_iff_not, Nat.reduceAdd, Nat.zero_add, atI_0, atI_1, atI_2, p_eqT2, p_neT2, p_isT, p_isI, p_isB, reduceIte, reduceCtorEq, Int.cast_ofNat_Int, not_true_eq_false, not_false_eq_true, eq_self, if_false, if_true, Bool.true_eq_false, Bool.false_eq_true, Bool.not_true, Bool.not_false, Bool.and_true, Bool.true_and, Bool.and_false, Bool.false_and, p_inT2, p_neS, p_eqS, List.nil_append, pick]
  refine use (sp_made (k := k + 3) HR h357 ns n6 (.ref l) S4 (seqAt_lst (g24 _ _ e1)) wn dn) fun d S5 hd => ?_
  obtain ⟨a, rfl, g5, _, e5⟩ := hd
  refine use (sp_made (k := k + 3) HR h357 ms m6 (.ref m) S5 (seqAt_lst (g5 _ _ (g24 _ _ e2))) wm dm) fun d S6 hd => ?_
  obtain ⟨b, rfl, g6, _, e6⟩ := hd
  refine use (sp_exch (k := k + 4) HR h143 ns ms n6 m6 a b S6 (g6 _ _ e5) e6 wn wm dn dm) fun d S7 hd => ?_
  obtain ⟨rfl, g7⟩ := hd
  refine use (sp_exch (k := k + 4) HR h143 ms ns m6 n6 b a S7 (g7 _ _ e6) (g7 _ _ (g6 _ _ e5)) wm wn dm dn) fun d S8 hd => ?_
  obtain ⟨rfl, g8⟩ := hd
  rw [hU, hV, ht, ht2]
  refine ⟨by decide, ?_⟩
  have gp := Gr.push S8 (O.lst [.bl t, .bl t])
  have dn2 : ∀ (S9 : Store) (L : Nat), S9[L]? = some (.lst [.bl t, .bl t]) → den deep S9 (.ref L) = some (.list [.bool t, .bool t]) := fun S9 L h => by
    show den 8 S9 (.ref L) = _
    unfold den
    simp only [seqAt_lst h, denL, den_bl]
  have small : SmallD 100 (.list [.bool t, .bool t]) := by
    simp only [SmallD, SmallAll]
    trivial
  have rep := repr_ok small (by decide) (by decide) (by simp only [PyData.depth, PyData.depthAll]; decide) (by simp only [nodes, nodesAll]; decide)
  refine p_repr (dn2 _ _ (gP _ _)) rep ?_
  refine ⟨by decide, ?_⟩
  have gq := Gr.push (S8 ++ [O.lst [.bl t, .bl t]]) (O.lst [.bl t, .bl t])
  refine p_repr (dn2 _ _ (gP _ _)) rep ?_
  simp only [sd_cons, sd_nil, sd_zero, List.length_cons, List.length_nil, w_var, w_const, w_glob, w_prim, w_meth, w_cut, w_not, w_and, w_or, w_one, w_ite, w_chain, w_call, w_callk, wa_nil, wa_cons, wt_name, wt_tup, wts_nil, wts_cons, wt_sub, ws_nil, ws_cons, w_expr, w_asg, w_setc, w_par2, w_par3, w_aug, w_ret, w_retN, w_ifs, w_never, seqD_tup, tgsLen, p_add, p_sub, p_mul, p_div, p_mod, p_pow, p_neg, p_eq, p_ne, p_lt, p_le, p_gt, p_ge, p_abs, p_int, p_max, p_min, p_tup, p_lst, p_ixT, p_lenT, truth_bl, onV_some, onB_some, onN_some, onD_bl, onO_some, onL_some, on2_eq, on3_eq, onC_nil, onC_one, onAug_sub, onAug_add, onAug_mul, List.getElem?_cons_zero, List.getElem?_cons_succ, List.set_cons_zero, List.set_cons_succ, wipeD, List.map_cons, List.map_nil, true_and, and_true, decide_eq_true_eq, Bool.not_eq_true', decide_eq_false_iff_not, Nat.reduceAdd, Nat.zero_add, atI_0, atI_1, atI_2, p_eqT2, p_neT2, p_isT, p_isI, p_isB, reduceIte, reduceCtorEq, Int.cast_ofNat_Int, not_true_eq_false, not_false_eq_true, eq_self, if_false, if_true, Bool.true_eq_false, Bool.false_eq_true, Bool.not_true, Bool.not_false, Bool.and_true, Bool.true_and, Bool.and_false, Bool.false_and, p_inT2, p_neS, p_eqS, decide_true]
  have gz := ((((g24.trans g5).trans g6).trans g7).trans g8).trans (gp.trans gq)
  exact ⟨g1.trans (gz.x r), p1.gr gz⟩
theorem sp_law {T : Nat → Option Fn} {k : Nat} (H : HasLaw T) (HR : HasRel T) (h108 : T 108 = some f_law_names) (h109 : T 109 = some f_law_renamed_0) (h143 : T 143 = some f_are_exchanged) (h146 : T 146 = some f_law_two) (h147 : T 147 = some f_law_right_30) (h357 : T 357 = some f_law_made_1) (h148 : T 148 = some f_law_30)
    (ns : List Int) (hn : ns.length ≤ 63) : wpF T (k + 9) 148 [.ref 0] [.rol (ns.map D.int)] (fun d _ => d = .bl true) fun _ _ => False := by
  rw [wF h148]
  refine ⟨rfl, ?_⟩
  simp only [f_law_30, sd_cons, sd_nil, sd_zero, List.length_cons, List.length_nil, Nat.reduceAdd, Nat.zero_add, ws_cons, ws_nil]
  have s0 : ∀ S : Store, Gr [.rol (ns.map D.int)] S → seqAt S 0 = some (ns.map D.int) := fun S g => seqAt_rol (g 0 _ rfl)
  refine wp_for (wpF_mono _ _) ?_
  simp only [sd_cons, sd_nil, sd_zero, List.length_cons, List.length_nil, w_var, w_const, w_glob, w_prim, w_meth, w_cut, w_not, w_and, w_or, w_one, w_ite, w_chain, w_call, w_callk, wa_nil, wa_cons, wt_name, wt_tup, wts_nil, wts_cons, wt_sub, ws_nil, ws_cons, w_expr, w_asg, w_setc, w_par2, w_par3, w_aug, w_ret, w_retN, w_ifs, w_never, seqD_tup, tgsLen, p_add, p_sub, p_mul, p_div, p_mod, p_pow, p_neg, p_eq, p_ne, p_lt, p_le, p_gt, p_ge, p_abs, p_int, p_max, p_min, p_tup, p_lst, p_ixT, p_lenT, truth_bl, onV_some, onB_some, onN_some, onD_bl, onO_some, onL_some, on2_eq, on3_eq, onC_nil, onC_one, onAug_sub, onAug_add, onAug_mul, List.getElem?_cons_zero, List.getElem?_cons_succ, List.set_cons_zero, List.set_cons_succ, wipeD, List.map_cons, List.map_nil, true_and, and_true, decide_eq_true_eq, Bool.not_eq_true', decide_eq_false_iff_not, Nat.reduceAdd, Nat.zero_add, atI_0, atI_1, atI_2, p_eqT2, p_neT2, p_isT, p_isI, p_isB, reduceIte, reduceCtorEq, Int.cast_ofNat_Int, not_true_eq_false, not_false_eq_true, eq_self, if_false, if_true, Bool.true_eq_false, Bool.false_eq_true, Bool.not_true, Bool.not_false, Bool.and_true, Bool.true_and, Bool.and_false, Bool.false_and, p_inT2, p_neS, p_eqS, p_lenE (s0 _ (Gr.refl _)), iterR, List.length_map]
  refine ⟨_, _, rfl, by omega, fun i σ S1 => ∃ z1 z2 z3, σ = [some (.ref 0), z1, z2, z3] ∧ Gr [.rol (ns.map D.int)] S1, ⟨_, _, _, rfl, Gr.refl _⟩, fun i σ S1 _ _ => ok_nil, fun i d σ S1 hd hi => ?_, fun σ S1 _ => ?_⟩
  · obtain ⟨z1, z2, z3, rfl, g1⟩ := hi
    have hi : i < 8 := by
      have := (List.getElem?_eq_some_iff.mp hd).1
      rw [rangeL_length] at this
      omega
    have := rangeL_get _ _ _ _ hd
    rw [Int.zero_add] at this
    subst this
    simp only [sd_cons, sd_nil, sd_zero, List.length_cons, List.length_nil, w_var, w_const, w_glob, w_prim, w_meth, w_cut, w_not, w_and, w_or, w_one, w_ite, w_chain, w_call, w_callk, wa_nil, wa_cons, wt_name, wt_tup, wts_nil, wts_cons, wt_sub, ws_nil, ws_cons, w_expr, w_asg, w_setc, w_par2, w_par3, w_aug, w_ret, w_retN, w_ifs, w_never, seqD_tup, tgsLen, p_add, p_sub, p_mul, p_div, p_mod, p_pow, p_neg, p_eq, p_ne, p_lt, p_le, p_gt, p_ge, p_abs, p_int, p_max, p_min, p_tup, p_lst, p_ixT, p_lenT, truth_bl, onV_some, onB_some, onN_some, onD_bl, onO_some, onL_some, on2_eq, on3_eq, onC_nil, onC_one, onAug_sub, onAug_add, onAug_mul, List.getElem?_cons_zero, List.getElem?_cons_succ, List.set_cons_zero, List.set_cons_succ, wipeD, List.map_cons, List.map_nil, true_and, and_true, decide_eq_true_eq, Bool.not_eq_true', decide_eq_false_iff_not, Nat.reduceAdd, Nat.zero_add, atI_0, atI_1, atI_2, p_eqT2, p_neT2, p_isT, p_isI, p_isB, reduceIte, reduceCtorEq, Int.cast_ofNat_Int, not_true_eq_false, not_false_eq_true, eq_self, if_false, if_true, Bool.true_eq_false, Bool.false_eq_true, Bool.not_true, Bool.not_false, Bool.and_true, Bool.true_and, Bool.and_false, Bool.false_and, p_inT2, p_neS, p_eqS]
    refine use (sp_pool H.h0 0 i ns S1 (s0 _ g1) (by omega)) fun d S2 hd => ?_
    obtain ⟨rfl, g2, p2⟩ := hd
    refine wp_for (wpF_mono _ _) ?_
    simp only [sd_cons, sd_nil, sd_zero, List.length_cons, List.length_nil, w_var, w_const, w_glob, w_prim, w_meth, w_cut, w_not, w_and, w_or, w_one, w_ite, w_chain, w_call, w_callk, wa_nil, wa_cons, wt_name, wt_tup, wts_nil, wts_cons, wt_sub, ws_nil, ws_cons, w_expr, w_asg, w_setc, w_par2, w_par3, w_aug, w_ret, w_retN, w_ifs, w_never, seqD_tup, tgsLen, p_add, p_sub, p_mul, p_div, p_mod, p_pow, p_neg, p_eq, p_ne, p_lt, p_le, p_gt, p_ge, p_abs, p_int, p_max, p_min, p_tup, p_lst, p_ixT, p_lenT, truth_bl, onV_some, onB_some, onN_some, onD_bl, onO_some, onL_some, on2_eq, on3_eq, onC_nil, onC_one, onAug_sub, onAug_add, onAug_mul, List.getElem?_cons_zero, List.getElem?_cons_succ, List.set_cons_zero, List.set_cons_succ, wipeD, List.map_cons, List.map_nil, true_and, and_true, decide_eq_true_eq, Bool.not_eq_true', decide_eq_false_iff_not, Nat.reduceAdd, Nat.zero_add, atI_0, atI_1, atI_2, p_eqT2, p_neT2, p_isT, p_isI, p_isB, reduceIte, reduceCtorEq, Int.cast_ofNat_Int, not_true_eq_false, not_false_eq_true, eq_self, if_false, if_true, Bool.true_eq_false, Bool.false_eq_true, Bool.not_true, Bool.not_false, Bool.and_true, Bool.true_and, Bool.and_false, Bool.false_and, p_inT2, p_neS, p_eqS, iterR]
    have lpos : 1 ≤ S1.length := g1.len
    refine ⟨_, _, rfl, by decide, fun j σ S3 => ∃ z3, σ = [some (.ref 0), some (.int i), some (.ref S1.length), z3] ∧ Gr [.rol (ns.map D.int)] S3 ∧ Pool S3 S1.length (100 * j), ⟨_, rfl, g1.trans g2, p2.mono (by omega)⟩, fun i σ S1 _ _ => ok_nil, fun j d σ S3 hd hi => ?_, fun σ S3 hi => ?_⟩
    · obtain ⟨z3, rfl, g3, p3⟩ := hi
      have hj : j < 5 := by
        have := (List.getElem?_eq_some_iff.mp hd).1
        rw [rangeL_length] at this
        omega
      simp only [sd_cons, sd_nil, sd_zero, List.length_cons, List.length_nil, w_var, w_const, w_glob, w_prim, w_meth, w_cut, w_not, w_and, w_or, w_one, w_ite, w_chain, w_call, w_callk, wa_nil, wa_cons, wt_name, wt_tup, wts_nil, wts_cons, wt_sub, ws_nil, ws_cons, w_expr, w_asg, w_setc, w_par2, w_par3, w_aug, w_ret, w_retN, w_ifs, w_never, seqD_tup, tgsLen, p_add, p_sub, p_mul, p_div, p_mod, p_pow, p_neg, p_eq, p_ne, p_lt, p_le, p_gt, p_ge, p_abs, p_int, p_max, p_min, p_tup, p_lst, p_ixT, p_lenT, truth_bl, onV_some, onB_some, onN_some, onD_bl, onO_some, onL_some, on2_eq, on3_eq, onC_nil, onC_one, onAug_sub, onAug_add, onAug_mul, List.getElem?_cons_zero, List.getElem?_cons_succ, List.set_cons_zero, List.set_cons_succ, wipeD, List.map_cons, List.map_nil, true_and, and_true, decide_eq_true_eq, Bool.not_eq_true', decide_eq_false_iff_not, Nat.reduceAdd, Nat.zero_add, atI_0, atI_1, atI_2, p_eqT2, p_neT2, p_isT, p_isI, p_isB, reduceIte, reduceCtorEq, Int.cast_ofNat_Int, not_true_eq_false, not_false_eq_true, eq_self, if_false, if_true, Bool.true_eq_false, Bool.false_eq_true, Bool.not_true, Bool.not_false, Bool.and_true, Bool.true_and, Bool.and_false, Bool.false_and, p_inT2, p_neS, p_eqS]
      refine use (sp_right (k := k) H HR h108 h109 h143 h146 h147 h357 S1.length (100 * j) S3 p3 (by omega)) fun d S4 hd => ?_
      obtain ⟨rfl, g4, p4⟩ := hd
      simp only [sd_cons, sd_nil, sd_zero, List.length_cons, List.length_nil, w_var, w_const, w_glob, w_prim, w_meth, w_cut, w_not, w_and, w_or, w_one, w_ite, w_chain, w_call, w_callk, wa_nil, wa_cons, wt_name, wt_tup, wts_nil, wts_cons, wt_sub, ws_nil, ws_cons, w_expr, w_asg, w_setc, w_par2, w_par3, w_aug, w_ret, w_retN, w_ifs, w_never, seqD_tup, tgsLen, p_add, p_sub, p_mul, p_div, p_mod, p_pow, p_neg, p_eq, p_ne, p_lt, p_le, p_gt, p_ge, p_abs, p_int, p_max, p_min, p_tup, p_lst, p_ixT, p_lenT, truth_bl, onV_some, onB_some, onN_some, onD_bl, onO_some, onL_some, on2_eq, on3_eq, onC_nil, onC_one, onAug_sub, onAug_add, onAug_mul, List.getElem?_cons_zero, List.getElem?_cons_succ, List.set_cons_zero, List.set_cons_succ, wipeD, List.map_cons, List.map_nil, true_and, and_true, decide_eq_true_eq, Bool.not_eq_true', decide_eq_false_iff_not, Nat.reduceAdd, Nat.zero_add, atI_0, atI_1, atI_2, p_eqT2, p_neT2, p_isT, p_isI, p_isB, reduceIte, reduceCtorEq, Int.cast_ofNat_Int, not_true_eq_false, not_false_eq_true, eq_self, if_false, if_true, Bool.true_eq_false, Bool.false_eq_true, Bool.not_true, Bool.not_false, Bool.and_true, Bool.true_and, Bool.and_false, Bool.false_and, p_inT2, p_neS, p_eqS]
      exact ⟨_, rfl, g4.gr g3 lpos, p4.mono (by omega)⟩
    · obtain ⟨z3, rfl, g3, p3⟩ := hi
      exact ⟨_, _, _, rfl, g3⟩
  · trivial
end CC
theorem PySem.Challenge.cw_closechains_k31_exchanged_by_five_number_holds : PySem.Challenge.rw_closechains_k31_exchanged_by_five_number.Holds :=
  CC.k31.holds fun ns hn => CC.sp_law (k := 7) ⟨rfl, rfl, rfl, rfl, rfl, rfl, rfl, rfl, rfl, rfl, rfl, rfl, rfl, rfl⟩ ⟨rfl, rfl, rfl, rfl, rfl⟩ rfl rfl rfl rfl rfl rfl rfl ns hn
