import PyProof.Rows.All
import Wide.All
import OpenK.AllK
import Wide.FinOn
import HandS.ForMost
import HandS.ForExc
import HandS.Conv
import HandS.Strs
import HandS.TupAny
import HandS.Rev
import HandS.RevRange
import HandS.Zip
import HandS.IsInst
import HandS.Defaults
import HandS.CallLocal
import HandS.ExcInit
import HandS.FStr
import HandS.TupMul
import HandS.DictComp
import HandS.SetKeys
import HandS.Walk
import HandS.Flow
import HandS.Records
import HandS.ReCall
import HandS.TupSets
import HandS.SetFor
import HandS.SetBool
import HandS.Style
import HandS.Small
import HandS.Wide
import HandS.WideBits
import HandS.Deep
import HandS.SortInts
import HandS.RaiseMore
import KE.KStateDown
import HandS.Ends
import HandS.More
import HandS.Words
import HandS.WordsExc
import HandS.Head0
import HandS.Head1
import HandS.Head2
import HandS.HeadEnd
import HandS.HeadHook1
import HandS.HeadHook2
import PySem.Challenge.RW_closerow_k50_expanded
set_option Elab.async false
set_option linter.all false
set_option maxRecDepth 100000
set_option maxHeartbeats 0
/-! CrA: plain data D, a store of what changes, how they lie to the layer's values and heap. -/
namespace CR
open PySem PySem.Spec PyProof.Rows L2

/-- plain data; ref: an object of the store -/
inductive D where
  | non | bl (b : Bool) | int (i : Int) | str (x : Str)
  | tup (ds : List D) | tp (ds : List D) | lst (ds : List D)
  | dK (ks : List Key) (ds : List D)
  | dT (ks : List (List Key)) (ds : List D)
  | ins (c : Str) (fs : List Str) (ds : List D)
  | fz (ds : List D) | kt (ds : List D)
  | ref (n : Nat)
  deriving Inhabited

abbrev Sto := List D
abbrev Rho := List (Option D)

/-- what is fixed: the written part, the classes' addresses -/
structure Kx where
  K : PySem.W.Frag
  cl : Str → Option Addr

def KT (K : PySem.W.Frag) (a : Addr) (xs : List V) : Prop :=
  ∃ (o : Obj) (its : Array Value) (n : Nat), K.lookup a = some o ∧ o.cls = .type "tuple" ∧ o.data = .seq its n ∧ its.size ≤ sizeLine ∧ Vals xs its.toList
def KL (K : PySem.W.Frag) (a : Addr) (xs : List V) : Prop :=
  ∃ (o : Obj) (its : Array Value) (n : Nat), K.lookup a = some o ∧ o.cls = .type "list" ∧ o.dict = none ∧ o.data = .seq its n ∧ its.size ≤ sizeLine ∧ Vals xs its.toList

mutual
def Rel (c : Kx) (fa : List Addr) (H : Hp) : D → V → Prop
  | .non, v => v = .non
  | .bl b, v => v = .bl b
  | .int i, v => v = .int i
  | .str x, v => v = .str x
  | .tup ds, v => ∃ a vs, v = .ref a ∧ ((a ∉ fa ∧ ∃ o : Obj, o.dict = none ∧ H a = some (.frz o (.tup vs))) ∨ (ds = [] ∧ KT c.K a vs)) ∧ Rels c fa H ds vs
  | .tp ds, v => ∃ a vs, v = .ref a ∧ (a ∉ fa ∧ H a = some (.tup vs)) ∧ Rels c fa H ds vs
  | .lst ds, v => ∃ a vs, v = .ref a ∧ (a ∉ fa ∧ H a = some (.lst vs)) ∧ Rels c fa H ds vs
  | .fz ds, v => ∃ a vs, v = .ref a ∧ ((a ∉ fa ∧ Rd H a (.lst vs)) ∨ KL c.K a vs) ∧ Rels c fa H ds vs
  | .kt ds, v => ∃ a vs, v = .ref a ∧ KT c.K a vs ∧ Rels c fa H ds vs
  | .dK ks ds, v => ∃ a vs, v = .ref a ∧ (a ∉ fa ∧ Rd H a (.dK (ks.zip vs))) ∧ ks.length = vs.length ∧ Rels c fa H ds vs
  | .dT ks ds, v => ∃ a vs, v = .ref a ∧ (a ∉ fa ∧ Rd H a (.dT (ks.zip vs))) ∧ ks.length = vs.length ∧ Rels c fa H ds vs
  | .ins n fs ds, v => ∃ a C dx vs, v = .ref a ∧ (a ∉ fa ∧ H a = some (.ins C dx (fs.zip vs))) ∧ c.cl n = some C ∧ fs.length = vs.length ∧ Rels c fa H ds vs
  | .ref n, v => ∃ a, fa[n]? = some a ∧ v = .ref a
def Rels (c : Kx) (fa : List Addr) (H : Hp) : List D → List V → Prop
  | [], vs => vs = []
  | d :: ds, vs => ∃ v r, vs = v :: r ∧ Rel c fa H d v ∧ Rels c fa H ds r
end

/-- the object of the store -/
def RelO (c : Kx) (fa : List Addr) (H : Hp) : D → HO → Prop
  | .lst ds, o => ∃ vs, o = .lst vs ∧ Rels c fa H ds vs
  | .dK ks ds, o => ∃ vs, o = .dK (ks.zip vs) ∧ ks.length = vs.length ∧ Rels c fa H ds vs
  | .dT ks ds, o => ∃ vs, o = .dT (ks.zip vs) ∧ ks.length = vs.length ∧ Rels c fa H ds vs
  | .ins n fs ds, o => ∃ C dx vs, o = .ins C dx (fs.zip vs) ∧ c.cl n = some C ∧ fs.length = vs.length ∧ Rels c fa H ds vs
  | _, _ => False

structure StOk (c : Kx) (fa : List Addr) (S : Sto) (H : Hp) : Prop where
  nd : fa.Nodup
  len : fa.length = S.length
  obj : ∀ (n : Nat) (a : Addr) (d : D), fa[n]? = some a → S[n]? = some d → ∃ o, H a = some o ∧ RelO c fa H d o

/-- from one state to a later one -/
structure Step (fa : List Addr) (H : Hp) (fa' : List Addr) (H' : Hp) : Prop where
  pre : fa <+: fa'
  new : ∀ a ∈ fa', a ∉ fa → H a = none
  ext : ∀ a o, a ∉ fa → H a = some o → H' a = some o

theorem Step.refl {fa : List Addr} {H : Hp} : Step fa H fa H := ⟨List.prefix_refl _, fun _ h n => absurd h n, fun _ _ _ h => h⟩
theorem Step.trans {fa fa1 fa2 : List Addr} {H H1 H2 : Hp} (s : Step fa H fa1 H1) (t : Step fa1 H1 fa2 H2) : Step fa H fa2 H2 where
  pre := s.pre.trans t.pre
  new := fun a h n => by
    cases e : H a with
    | none => rfl
    | some o =>
      have h1 : a ∉ fa1 := fun z => by
        have := s.new a z n
        rw [e] at this; cases this
      have := t.new a h h1
      rw [s.ext a o n e] at this; cases this
  ext := fun a o n e => t.ext a o (fun z => by
    have := s.new a z n
    rw [e] at this; cases this) (s.ext a o n e)
theorem Step.out {fa fa' : List Addr} {H H' : Hp} (s : Step fa H fa' H') {a : Addr} {o : HO} (n : a ∉ fa) (e : H a = some o) : a ∉ fa' := fun z => by
  have := s.new a z n
  rw [e] at this; cases this
theorem Step.rd {fa fa' : List Addr} {H H' : Hp} (s : Step fa H fa' H') {a : Addr} {u : HO} (h : a ∉ fa ∧ Rd H a u) : a ∉ fa' ∧ Rd H' a u := by
  obtain ⟨n, h | ⟨o, h⟩⟩ := h
  · exact ⟨s.out n h, .inl (s.ext a _ n h)⟩
  · exact ⟨s.out n h, .inr ⟨o, s.ext a _ n h⟩⟩
theorem Step.exact {fa fa' : List Addr} {H H' : Hp} (s : Step fa H fa' H') {a : Addr} {u : HO} (h : a ∉ fa ∧ H a = some u) : a ∉ fa' ∧ H' a = some u := ⟨s.out h.1 h.2, s.ext a u h.1 h.2⟩
theorem Step.at {fa fa' : List Addr} {H H' : Hp} (s : Step fa H fa' H') {n : Nat} {a : Addr} (h : fa[n]? = some a) : fa'[n]? = some a := by
  obtain ⟨t, rfl⟩ := s.pre
  have hn := (List.getElem?_eq_some_iff.mp h).1
  rw [List.getElem?_append_left hn]; exact h

section
variable {c : Kx} {fa fa' : List Addr} {H H' : Hp}
mutual
theorem Rel.mono (s : Step fa H fa' H') : ∀ (d : D) (v : V), Rel c fa H d v → Rel c fa' H' d v
  | .non, _, h => h
  | .bl _, _, h => h
  | .int _, _, h => h
  | .str _, _, h => h
  | .tup ds, v, h => by
    simp only [Rel] at h ⊢
    obtain ⟨a, vs, e, h, r⟩ := h
    refine ⟨a, vs, e, ?_, Rels.mono s ds vs r⟩
    rcases h with ⟨h, o, ho, hH⟩ | h
    · exact .inl ⟨s.out h hH, o, ho, s.ext _ _ h hH⟩
    · exact .inr h
  | .tp ds, v, h => by
    simp only [Rel] at h ⊢
    obtain ⟨a, vs, e, h, r⟩ := h
    exact ⟨a, vs, e, s.exact h, Rels.mono s ds vs r⟩
  | .lst ds, v, h => by
    simp only [Rel] at h ⊢
    obtain ⟨a, vs, e, h, r⟩ := h
    exact ⟨a, vs, e, s.exact h, Rels.mono s ds vs r⟩
  | .fz ds, v, h => by
    simp only [Rel] at h ⊢
    obtain ⟨a, vs, e, h, r⟩ := h
    refine ⟨a, vs, e, ?_, Rels.mono s ds vs r⟩
    rcases h with h | h
    · exact .inl (s.rd h)
    · exact .inr h
  | .kt ds, v, h => by
    simp only [Rel] at h ⊢
    obtain ⟨a, vs, e, h, r⟩ := h
    exact ⟨a, vs, e, h, Rels.mono s ds vs r⟩
  | .dK ks ds, v, h => by
    simp only [Rel] at h ⊢
    obtain ⟨a, vs, e, h, l, r⟩ := h
    exact ⟨a, vs, e, s.rd h, l, Rels.mono s ds vs r⟩
  | .dT ks ds, v, h => by
    simp only [Rel] at h ⊢
    obtain ⟨a, vs, e, h, l, r⟩ := h
    exact ⟨a, vs, e, s.rd h, l, Rels.mono s ds vs r⟩
  | .ins n fs ds, v, h => by
    simp only [Rel] at h ⊢
    obtain ⟨a, C, dx, vs, e, h, k, l, r⟩ := h
    exact ⟨a, C, dx, vs, e, ⟨s.out h.1 h.2, s.ext _ _ h.1 h.2⟩, k, l, Rels.mono s ds vs r⟩
  | .ref n, v, h => by
    simp only [Rel] at h ⊢
    obtain ⟨a, e, q⟩ := h
    exact ⟨a, s.at e, q⟩
theorem Rels.mono (s : Step fa H fa' H') : ∀ (ds : List D) (vs : List V), Rels c fa H ds vs → Rels c fa' H' ds vs
  | [], _, h => h
  | d :: ds, vs, h => by
    simp only [Rels] at h ⊢
    obtain ⟨v, r, e, h1, h2⟩ := h
    exact ⟨v, r, e, Rel.mono s d v h1, Rels.mono s ds r h2⟩
end

theorem Rels.nil : Rels c fa H [] [] := by simp only [Rels]
theorem Rels.cons {d : D} {ds : List D} {v : V} {vs : List V} (h : Rel c fa H d v) (t : Rels c fa H ds vs) : Rels c fa H (d :: ds) (v :: vs) := by
  simp only [Rels]; exact ⟨v, vs, rfl, h, t⟩
theorem Rels.nil_iff {vs : List V} : Rels c fa H [] vs ↔ vs = [] := by simp only [Rels]
theorem Rels.cons_iff {d : D} {ds : List D} {vs : List V} : Rels c fa H (d :: ds) vs ↔ ∃ v r, vs = v :: r ∧ Rel c fa H d v ∧ Rels c fa H ds r := by simp only [Rels]
theorem Rels.length : ∀ {ds : List D} {vs : List V}, Rels c fa H ds vs → ds.length = vs.length
  | [], vs, h => by rw [Rels.nil_iff.mp h]; rfl
  | d :: ds, vs, h => by
    obtain ⟨v, r, rfl, _, h2⟩ := Rels.cons_iff.mp h
    simp [Rels.length h2]
theorem Rels.get : ∀ {ds : List D} {vs : List V} {i : Nat} {d : D}, Rels c fa H ds vs → ds[i]? = some d → ∃ v, vs[i]? = some v ∧ Rel c fa H d v
  | [], vs, i, d, h, e => by simp at e
  | x :: ds, vs, 0, d, h, e => by
    obtain ⟨v, r, rfl, h1, h2⟩ := Rels.cons_iff.mp h
    simp at e; subst e
    exact ⟨v, rfl, h1⟩
  | x :: ds, vs, i + 1, d, h, e => by
    obtain ⟨v, r, rfl, h1, h2⟩ := Rels.cons_iff.mp h
    obtain ⟨w, h3, h4⟩ := Rels.get (i := i) h2 (by simpa using e)
    exact ⟨w, by simpa using h3, h4⟩
theorem Rels.append : ∀ {ds es : List D} {vs ws : List V}, Rels c fa H ds vs → Rels c fa H es ws → Rels c fa H (ds ++ es) (vs ++ ws)
  | [], es, vs, ws, h, g => by rw [Rels.nil_iff.mp h]; exact g
  | d :: ds, es, vs, ws, h, g => by
    obtain ⟨v, r, rfl, h1, h2⟩ := Rels.cons_iff.mp h
    exact .cons h1 (Rels.append h2 g)
theorem Rels.take : ∀ {ds : List D} {vs : List V} (n : Nat), Rels c fa H ds vs → Rels c fa H (ds.take n) (vs.take n)
  | _, _, 0, _ => by simpa using Rels.nil
  | [], vs, n + 1, h => by rw [Rels.nil_iff.mp h]; simpa using Rels.nil
  | d :: ds, vs, n + 1, h => by
    obtain ⟨v, r, rfl, h1, h2⟩ := Rels.cons_iff.mp h
    exact .cons h1 (Rels.take n h2)
theorem Rels.drop : ∀ {ds : List D} {vs : List V} (n : Nat), Rels c fa H ds vs → Rels c fa H (ds.drop n) (vs.drop n)
  | _, _, 0, h => h
  | [], vs, n + 1, h => by rw [Rels.nil_iff.mp h]; simpa using Rels.nil
  | d :: ds, vs, n + 1, h => by
    obtain ⟨v, r, rfl, h1, h2⟩ := Rels.cons_iff.mp h
    exact Rels.drop n h2
theorem Rels.set : ∀ {ds : List D} {vs : List V} (n : Nat) {d : D} {v : V}, Rels c fa H ds vs → Rel c fa H d v → Rels c fa H (ds.set n d) (vs.set n v)
  | [], vs, n, d, v, h, g => by rw [Rels.nil_iff.mp h]; simpa using Rels.nil
  | x :: ds, vs, 0, d, v, h, g => by
    obtain ⟨w, r, rfl, h1, h2⟩ := Rels.cons_iff.mp h
    exact .cons g h2
  | x :: ds, vs, n + 1, d, v, h, g => by
    obtain ⟨w, r, rfl, h1, h2⟩ := Rels.cons_iff.mp h
    exact .cons h1 (Rels.set n h2 g)
theorem Rels.eraseIdx : ∀ {ds : List D} {vs : List V} (n : Nat), Rels c fa H ds vs → Rels c fa H (ds.eraseIdx n) (vs.eraseIdx n)
  | [], vs, n, h => by rw [Rels.nil_iff.mp h]; simpa using Rels.nil
  | x :: ds, vs, 0, h => by
    obtain ⟨w, r, rfl, h1, h2⟩ := Rels.cons_iff.mp h
    exact h2
  | x :: ds, vs, n + 1, h => by
    obtain ⟨w, r, rfl, h1, h2⟩ := Rels.cons_iff.mp h
    exact .cons h1 (Rels.eraseIdx n h2)
theorem Rels.reverse {ds : List D} {vs : List V} (h : Rels c fa H ds vs) : Rels c fa H ds.reverse vs.reverse := by
  induction ds generalizing vs with
  | nil => rw [Rels.nil_iff.mp h]; simpa using Rels.nil
  | cons d ds ih =>
    obtain ⟨w, r, rfl, h1, h2⟩ := Rels.cons_iff.mp h
    simp only [List.reverse_cons]
    exact (ih h2).append (.cons h1 .nil)
theorem RelO.mono (s : Step fa H fa' H') {d : D} {o : HO} (h : RelO c fa H d o) : RelO c fa' H' d o := by
  cases d with
  | lst ds => obtain ⟨vs, e, r⟩ := h; exact ⟨vs, e, r.mono s⟩
  | dK ks ds => obtain ⟨vs, e, l, r⟩ := h; exact ⟨vs, e, l, r.mono s⟩
  | dT ks ds => obtain ⟨vs, e, l, r⟩ := h; exact ⟨vs, e, l, r.mono s⟩
  | ins n fs ds => obtain ⟨C, dx, vs, e, k, l, r⟩ := h; exact ⟨C, dx, vs, e, k, l, r.mono s⟩
  | _ => exact h.elim

theorem StOk.in_some {S : Sto} (ok : StOk c fa S H) {a : Addr} (h : a ∈ fa) : ∃ o, H a = some o := by
  obtain ⟨n, hn, rfl⟩ := List.getElem_of_mem h
  have h2 : n < S.length := by rw [← ok.len]; exact hn
  obtain ⟨o, e, _⟩ := ok.obj n fa[n] S[n] (List.getElem?_eq_getElem hn) (List.getElem?_eq_getElem h2)
  exact ⟨o, e⟩
theorem StOk.notin {S : Sto} (ok : StOk c fa S H) {a : Addr} (h : H a = none) : a ∉ fa := fun z => by
  obtain ⟨o, e⟩ := ok.in_some z
  rw [h] at e; cases e
/-- a new object that nothing of the store is -/
theorem Step.fresh {S : Sto} (ok : StOk c fa S H) {p : Addr} {o : HO} (hp : H p = none) : Step fa H fa (upd H p o) :=
  ⟨List.prefix_refl _, fun _ h n => absurd h n, fun a u n e => by rw [upd_ne (ne_of_none e hp)]; exact e⟩
theorem StOk.fresh {S : Sto} (ok : StOk c fa S H) {p : Addr} {o : HO} (hp : H p = none) : StOk c fa S (upd H p o) :=
  ⟨ok.nd, ok.len, fun n a d h1 h2 => by
    obtain ⟨u, e, r⟩ := ok.obj n a d h1 h2
    exact ⟨u, by rw [upd_ne (ne_of_none e hp)]; exact e, r.mono (Step.fresh ok hp)⟩⟩
/-- a new object of the store -/
theorem Step.alloc {S : Sto} (ok : StOk c fa S H) {p : Addr} {o : HO} (hp : H p = none) : Step fa H (fa ++ [p]) (upd H p o) :=
  ⟨List.prefix_append _ _, fun a h n => by
    rcases List.mem_append.mp h with h | h
    · exact absurd h n
    · simp at h; subst h; exact hp, fun a u n e => by rw [upd_ne (ne_of_none e hp)]; exact e⟩
theorem StOk.alloc {S : Sto} (ok : StOk c fa S H) {p : Addr} {o : HO} {d : D} (hp : H p = none) (r : RelO c fa H d o) : StOk c (fa ++ [p]) (S ++ [d]) (upd H p o) := by
  have st : Step fa H (fa ++ [p]) (upd H p o) := Step.alloc ok hp
  refine ⟨?_, by simp [ok.len], fun n a e h1 h2 => ?_⟩
  · rw [List.nodup_append]
    refine ⟨ok.nd, by simp, fun a ha b hb => ?_⟩
    simp at hb; subst hb
    rintro rfl
    exact ok.notin hp ha
  · by_cases hn : n < fa.length
    · rw [List.getElem?_append_left hn] at h1
      rw [List.getElem?_append_left (by rw [← ok.len]; exact hn)] at h2
      obtain ⟨u, e1, r1⟩ := ok.obj n a e h1 h2
      exact ⟨u, by rw [upd_ne (ne_of_none e1 hp)]; exact e1, r1.mono st⟩
    · have hl : n < (fa ++ [p]).length := (List.getElem?_eq_some_iff.mp h1).1
      have en : n = fa.length := by simp at hl; omega
      subst en
      rw [List.getElem?_append_right (Nat.le_refl _)] at h1
      rw [ok.len, List.getElem?_append_right (Nat.le_refl _)] at h2
      simp at h1 h2
      subst h1; subst h2
      exact ⟨o, upd_same, r.mono st⟩
theorem Rel.refn {n : Nat} {a : Addr} (h : fa[n]? = some a) : Rel c fa H (.ref n) (.ref a) := by simp only [Rel]; exact ⟨a, h, rfl⟩
/-- an object of the store is written -/
theorem Step.write {S : Sto} {n : Nat} {a : Addr} (h : fa[n]? = some a) {o : HO} : Step fa H fa (upd H a o) :=
  ⟨List.prefix_refl _, fun _ h n => absurd h n, fun b u nb e => by
    rw [upd_ne]; exact e
    rintro rfl
    exact nb (List.mem_of_getElem? h)⟩
theorem nodup_get {fa : List Addr} (nd : fa.Nodup) {i j : Nat} {a : Addr} (h1 : fa[i]? = some a) (h2 : fa[j]? = some a) : i = j := by
  obtain ⟨h3, e1⟩ := List.getElem?_eq_some_iff.mp h1
  obtain ⟨h4, e2⟩ := List.getElem?_eq_some_iff.mp h2
  exact (List.getElem_inj nd).mp (e1.trans e2.symm)
theorem StOk.write {S : Sto} (ok : StOk c fa S H) {n : Nat} {a : Addr} {d : D} {o : HO} (h : fa[n]? = some a) (r : RelO c fa H d o) : StOk c fa (S.set n d) (upd H a o) := by
  have st : Step fa H fa (upd H a o) := Step.write (S := S) h
  refine ⟨ok.nd, by simp [ok.len], fun m b e h1 h2 => ?_⟩
  by_cases hm : m = n
  · subst hm
    rw [h] at h1; cases h1
    have hl : m < S.length := by rw [← ok.len]; exact (List.getElem?_eq_some_iff.mp h).1
    rw [List.getElem?_set_self hl] at h2
    cases h2
    exact ⟨o, upd_same, r.mono st⟩
  · rw [List.getElem?_set_ne (Ne.symm hm)] at h2
    obtain ⟨u, e1, r1⟩ := ok.obj m b e h1 h2
    refine ⟨u, ?_, r1.mono st⟩
    rw [upd_ne]; exact e1
    rintro rfl
    exact hm (nodup_get ok.nd h1 h)
end

/-! ### the outcome of a run -/
inductive Res (α : Type) where
  | ok (a : α) (S : Sto)
  | exc (x : D) (S : Sto)
  | bad
abbrev M (α : Type) := Sto → Res α
def M.pure {α : Type} (a : α) : M α := fun S => .ok a S
def M.bind {α β : Type} (m : M α) (f : α → M β) : M β := fun S => match m S with
  | .ok a S1 => f a S1
  | .exc x S1 => .exc x S1
  | .bad => .bad
instance : Monad M where
  pure := M.pure
  bind := M.bind
def M.bad {α : Type} : M α := fun _ => .bad
theorem M.bind_ok {α β : Type} {m : M α} {f : α → M β} {S S' : Sto} {b : β} (h : (m >>= f) S = .ok b S') : ∃ a S1, m S = .ok a S1 ∧ f a S1 = .ok b S' := by
  change M.bind m f S = _ at h
  unfold M.bind at h
  cases e : m S with
  | ok a S1 => rw [e] at h; exact ⟨a, S1, rfl, h⟩
  | exc x S1 => rw [e] at h; cases h
  | bad => rw [e] at h; cases h
theorem M.bind_of {α β : Type} {m : M α} {f : α → M β} {S S1 : Sto} {a : α} (h : m S = .ok a S1) : (m >>= f) S = f a S1 := by
  change M.bind m f S = _
  unfold M.bind
  rw [h]
theorem M.pure_eq {α : Type} (a : α) (S : Sto) : (Pure.pure a : M α) S = .ok a S := rfl

/-- the slots -/
def EnvOk (c : Kx) (fa : List Addr) (H : Hp) (ρ : Rho) (σ : L2.St) : Prop := ρ.length = σ.length ∧ ∀ (i : Nat) (d : D), ρ[i]? = some (some d) → ∃ v, σ[i]? = some (some v) ∧ Rel c fa H d v
theorem EnvOk.mono {c : Kx} {fa fa' : List Addr} {H H' : Hp} {ρ : Rho} {σ : L2.St} (s : Step fa H fa' H') (h : EnvOk c fa H ρ σ) : EnvOk c fa' H' ρ σ :=
  ⟨h.1, fun i d e => let ⟨v, e1, r⟩ := h.2 i d e; ⟨v, e1, r.mono s⟩⟩
theorem EnvOk.set {c : Kx} {fa : List Addr} {H : Hp} {ρ : Rho} {σ : L2.St} (h : EnvOk c fa H ρ σ) (i : Nat) {d : D} {v : V} (r : Rel c fa H d v) : EnvOk c fa H (ρ.set i (some d)) (σ.set i (some v)) := by
  refine ⟨by simp [h.1], fun j e q => ?_⟩
  by_cases hj : i = j
  · subst hj
    by_cases hl : i < ρ.length
    · rw [List.getElem?_set_self hl] at q
      cases q
      exact ⟨v, List.getElem?_set_self (by rw [← h.1]; exact hl), r⟩
    · rw [List.getElem?_eq_none (by simpa using hl)] at q; cases q
  · rw [List.getElem?_set_ne hj] at q ⊢
    exact h.2 j e q

/-! ### the readings -/
/-- an error in flight: its class, its own dict -/
def XR (c : Kx) (fa : List Addr) (H : Hp) (x : D) (cls : Value) (d : Option Addr) : Prop :=
  ∃ n fs ds C dx vs, x = .ins n fs ds ∧ cls = .ref C ∧ c.cl n = some C ∧ d = some dx ∧ (dx ∉ fa ∧ H dx = some (.xd (fs.zip vs))) ∧ fs.length = vs.length ∧ Rels c fa H ds vs
abbrev X0 : XK := fun _ _ _ => False
section
variable (c : Kx)
/-- from here, m ends well and Q holds of what comes out, E of an error -/
def Ends1 {α β : Type} (R : List Addr → Hp → α → β → Prop) (m : M α) (fa : List Addr) (S : Sto) (H : Hp) (Q : β → Hp → Prop) (E : XK) : Prop :=
  match m S with
  | .ok a S' => ∀ fa' b H', Step fa H fa' H' → StOk c fa' S' H' → R fa' H' a b → Q b H'
  | .exc x S' => ∀ fa' cls d H', Step fa H fa' H' → StOk c fa' S' H' → XR c fa' H' x cls d → E cls d H'
  | .bad => False
def EvR (W : WX) (m : Rho → M D) : TE := fun σ H Q => ∃ fa S ρ, StOk c fa S H ∧ EnvOk c fa H ρ σ ∧ Ends1 c (Rel c) (m ρ) fa S H Q (fun cls d H' => W cls d σ H')
def TvR (W : WX) (m : Rho → M Bool) : TT := fun σ H Q => ∃ fa S ρ, StOk c fa S H ∧ EnvOk c fa H ρ σ ∧ Ends1 c (fun _ _ a b => b = a) (m ρ) fa S H Q (fun cls d H' => W cls d σ H')
def AvR (W : WX) (m : Rho → M (List D)) : TA := fun σ H Q => ∃ fa S ρ, StOk c fa S H ∧ EnvOk c fa H ρ σ ∧ Ends1 c (Rels c) (m ρ) fa S H Q (fun cls d H' => W cls d σ H')
/-- by values -/
def r1 (m : D → M D) : V → Hp → VK → Prop := fun x H Q => ∃ fa S d, StOk c fa S H ∧ Rel c fa H d x ∧ Ends1 c (Rel c) (m d) fa S H Q X0
def r2 (m : D → D → M D) : R2 := fun x y H Q => ∃ fa S d e, StOk c fa S H ∧ Rel c fa H d x ∧ Rel c fa H e y ∧ Ends1 c (Rel c) (m d e) fa S H Q X0
def rn (m : List D → M D) : List V → Hp → VK → Prop := fun xs H Q => ∃ fa S ds, StOk c fa S H ∧ Rels c fa H ds xs ∧ Ends1 c (Rel c) (m ds) fa S H Q X0
def rt (m : D → M Bool) : V → Hp → (Bool → Hp → Prop) → Prop := fun x H Q => ∃ fa S d, StOk c fa S H ∧ Rel c fa H d x ∧ Ends1 c (fun _ _ a b => b = a) (m d) fa S H Q X0
end
section
variable {c : Kx} {α β γ δ : Type} {R : List Addr → Hp → α → β → Prop} {R' : List Addr → Hp → γ → δ → Prop} {m : M α} {f : α → M γ} {fa : List Addr} {S : Sto} {H : Hp} {Q : δ → Hp → Prop} {E : XK}
theorem Ends1.bind (h : Ends1 c R' (m >>= f) fa S H Q E) :
    Ends1 c R m fa S H (fun b H1 => ∃ fa1 S1 a, StOk c fa1 S1 H1 ∧ Step fa H fa1 H1 ∧ R fa1 H1 a b ∧ Ends1 c R' (f a) fa1 S1 H1 Q E) E := by
  unfold Ends1 at h ⊢
  change (match M.bind m f S with
    | .ok a S' => ∀ fa' b H', Step fa H fa' H' → StOk c fa' S' H' → R' fa' H' a b → Q b H'
    | .exc x S' => ∀ fa' cls d H', Step fa H fa' H' → StOk c fa' S' H' → XR c fa' H' x cls d → E cls d H'
    | .bad => False) at h
  unfold M.bind at h
  cases e : m S with
  | bad => rw [e] at h; exact h
  | exc x S1 => rw [e] at h; exact h
  | ok a S1 =>
    rw [e] at h
    dsimp only at h ⊢
    intro fa1 b H1 st ok r
    refine ⟨fa1, S1, a, ok, st, r, ?_⟩
    cases e2 : f a S1 with
    | bad => rw [e2] at h; exact h
    | exc x S2 => rw [e2] at h; exact fun fa' cls d H' st' => h fa' cls d H' (st.trans st')
    | ok g S2 => rw [e2] at h; exact fun fa' b H' st' => h fa' b H' (st.trans st')
theorem Ends1.pure {a : γ} (h : Ends1 c R' (Pure.pure a) fa S H Q E) : ∀ fa' b H', Step fa H fa' H' → StOk c fa' S H' → R' fa' H' a b → Q b H' := h
theorem Ends1.pure0 {a : γ} {b : δ} (h : Ends1 c R' (Pure.pure a) fa S H Q E) (ok : StOk c fa S H) (r : R' fa H a b) : Q b H := h fa b H .refl ok r
theorem Ends1.imp {Q' : δ → Hp → Prop} {E' : XK} {g : M γ} (h : Ends1 c R' g fa S H Q E) (i : ∀ b H', Q b H' → Q' b H') (j : ∀ cls d H', E cls d H' → E' cls d H') : Ends1 c R' g fa S H Q' E' := by
  unfold Ends1 at h ⊢
  cases e : g S with
  | bad => rw [e] at h; exact h
  | exc x S2 => rw [e] at h; exact fun fa' cls d H' a b c => j _ _ _ (h fa' cls d H' a b c)
  | ok a S2 => rw [e] at h; exact fun fa' b H' a c d => i _ _ (h fa' b H' a c d)
theorem Ends1.step {fa0 : List Addr} {H0 : Hp} {g : M γ} (h : Ends1 c R' g fa S H Q E) : Ends1 c R' g fa S H Q E := h
theorem Ends1.bad (h : Ends1 c R' (M.bad) fa S H Q E) : False := h
end

section
variable {X : Cx} {c : Kx}
theorem _root_.L2.PE.imp {e : Expr} {t t' : TE} (h : PE X e t) (i : ∀ σ H Q, t' σ H Q → t σ H Q) : PE X e t' := ⟨fun pins s σ H Q I q => h.run pins s σ H Q I (i σ H Q q)⟩
theorem _root_.L2.PT.imp {e : Expr} {t t' : TT} (h : PT X e t) (i : ∀ σ H Q, t' σ H Q → t σ H Q) : PT X e t' := ⟨fun pins s σ H Q I q => h.run pins s σ H Q I (i σ H Q q)⟩
theorem _root_.L2.PW.imp {e : Expr} {t t' : TT} (h : PW X e t) (i : ∀ σ H Q, t' σ H Q → t σ H Q) : PW X e t' := ⟨fun w pins s σ H Q I q => h.run w pins s σ H Q I (i σ H Q q)⟩
theorem _root_.L2.PA.imp {es : List Expr} {t t' : TA} (h : PA X es t) (i : ∀ σ H Q, t' σ H Q → t σ H Q) : PA X es t' := ⟨fun p pins s σ H Q I q => h.run p pins s σ H Q I (i σ H Q q)⟩
theorem _root_.L2.PS.imp {st : Stmt} {t t' : TS} (h : PS X st t) (i : ∀ D σ H, t' D σ H → t D σ H) : PS X st t' := ⟨fun pins s σ H D I q => h.run pins s σ H D I (i D σ H q)⟩
theorem _root_.L2.PSs.imp {st : List Stmt} {t t' : TS} (h : PSs X st t) (i : ∀ D σ H, t' D σ H → t D σ H) : PSs X st t' := ⟨fun pins s σ H D I q => h.run pins s σ H D I (i D σ H q)⟩
theorem _root_.L2.PG.imp {e : Expr} {t t' : TG} (h : PG X e t) (i : ∀ v σ H Q, t' v σ H Q → t v σ H Q) : PG X e t' := ⟨fun pins s σ H v u Q I r q => h.run pins s σ H v u Q I r (i v σ H Q q)⟩
theorem _root_.L2.PI.imp {tg e : Expr} {t t' : TI} (h : PI X tg e t) (i : ∀ σ H Q, t' σ H Q → t σ H Q) : PI X tg e t' := ⟨fun pins s σ H Q I q => h.run pins s σ H Q I (i σ H Q q)⟩
theorem _root_.L2.OpR.imp {f : Value → Value → Sem Value} {r r' : R2} (h : OpR X f r) (i : ∀ x y H Q, r' x y H Q → r x y H Q) : OpR X f r' := fun pins s σ H x y v u Q I a b q => h pins s σ H x y v u Q I a b (i x y H Q q)
end
end CR

/-! CrB: expressions put together. -/
namespace CR
open PySem PySem.Spec PyProof.Rows L2

/-! ### looks at data -/
def listOf (S : Sto) : D → Option (List D)
  | .lst ds => some ds
  | .fz ds => some ds
  | .ref n => match S[n]? with
    | some (.lst ds) => some ds
    | _ => none
  | _ => none
def tupOf : D → Option (List D)
  | .tup ds => some ds
  | .tp ds => some ds
  | .kt ds => some ds
  | _ => none
def seqOf (S : Sto) (d : D) : Option (List D) := match listOf S d with
  | some ds => some ds
  | none => tupOf d

section
variable {c : Kx} {fa : List Addr} {H : Hp} {S : Sto}
theorem Rel.sqt {d : D} {ds : List D} {v : V} (h : Rel c fa H d v) (e : tupOf d = some ds) : ∃ a vs, v = .ref a ∧ SqT c.K H a vs ∧ Rels c fa H ds vs := by
  cases d with
  | tup es =>
    cases e
    simp only [Rel] at h
    obtain ⟨a, vs, rfl, h, r⟩ := h
    refine ⟨a, vs, rfl, ?_, r⟩
    rcases h with ⟨h, o, ho, hH⟩ | h
    · exact .inl (.inr ⟨o, hH⟩)
    · exact .inr h.2
  | tp es =>
    cases e
    simp only [Rel] at h
    obtain ⟨a, vs, rfl, h, r⟩ := h
    exact ⟨a, vs, rfl, .inl (.inl h.2), r⟩
  | kt es =>
    cases e
    simp only [Rel] at h
    obtain ⟨a, vs, rfl, h, r⟩ := h
    exact ⟨a, vs, rfl, .inr h, r⟩
  | _ => cases e
theorem Rel.sql (ok : StOk c fa S H) {d : D} {ds : List D} {v : V} (h : Rel c fa H d v) (e : listOf S d = some ds) : ∃ a vs, v = .ref a ∧ SqL c.K H a vs ∧ Rels c fa H ds vs := by
  cases d with
  | lst es =>
    cases e
    simp only [Rel] at h
    obtain ⟨a, vs, rfl, h, r⟩ := h
    exact ⟨a, vs, rfl, .inl (.inl h.2), r⟩
  | fz es =>
    cases e
    simp only [Rel] at h
    obtain ⟨a, vs, rfl, h, r⟩ := h
    refine ⟨a, vs, rfl, ?_, r⟩
    rcases h with h | h
    · exact .inl h.2
    · exact .inr h
  | ref n =>
    simp only [Rel] at h
    obtain ⟨a, ha, rfl⟩ := h
    unfold listOf at e
    cases q : S[n]? with
    | none => simp only [q] at e; cases e
    | some o =>
      simp only [q] at e
      obtain ⟨u, hu, r⟩ := ok.obj n a o ha q
      cases o with
      | lst es =>
        cases e
        obtain ⟨vs, rfl, r⟩ := r
        exact ⟨a, vs, rfl, .inl (.inl hu), r⟩
      | _ => cases e
  | _ => cases e
theorem Rel.sq (ok : StOk c fa S H) {d : D} {ds : List D} {v : V} (h : Rel c fa H d v) (e : seqOf S d = some ds) : ∃ a vs, v = .ref a ∧ (SqL c.K H a vs ∨ SqT c.K H a vs) ∧ Rels c fa H ds vs := by
  unfold seqOf at e
  cases q : listOf S d with
  | some es =>
    rw [q] at e; cases e
    obtain ⟨a, vs, e1, h1, r⟩ := h.sql ok q
    exact ⟨a, vs, e1, .inl h1, r⟩
  | none =>
    rw [q] at e
    obtain ⟨a, vs, e1, h1, r⟩ := h.sqt e
    exact ⟨a, vs, e1, .inr h1, r⟩
/-- a list that stands by itself: in the store, or held by nobody -/
theorem Rel.own (ok : StOk c fa S H) {d : D} {ds : List D} {v : V} (h : Rel c fa H d v) (e : listOf S d = some ds) (nf : ∀ es, d ≠ .fz es) : ∃ a vs, v = .ref a ∧ H a = some (.lst vs) ∧ Rels c fa H ds vs := by
  cases d with
  | lst es =>
    cases e
    simp only [Rel] at h
    obtain ⟨a, vs, rfl, h, r⟩ := h
    exact ⟨a, vs, rfl, h.2, r⟩
  | fz es => exact absurd rfl (nf es)
  | ref n =>
    simp only [Rel] at h
    obtain ⟨a, ha, rfl⟩ := h
    unfold listOf at e
    cases q : S[n]? with
    | none => simp only [q] at e; cases e
    | some o =>
      simp only [q] at e
      obtain ⟨u, hu, r⟩ := ok.obj n a o ha q
      cases o with
      | lst es =>
        cases e
        obtain ⟨vs, rfl, r⟩ := r
        exact ⟨a, vs, rfl, hu, r⟩
      | _ => cases e
  | _ => cases e
theorem Rel.int {i : Int} {v : V} (h : Rel c fa H (.int i) v) : v = .int i := by simpa only [Rel] using h
theorem Rel.bl {i : Bool} {v : V} (h : Rel c fa H (.bl i) v) : v = .bl i := by simpa only [Rel] using h
theorem Rel.str {i : Str} {v : V} (h : Rel c fa H (.str i) v) : v = .str i := by simpa only [Rel] using h
theorem Rel.non {v : V} (h : Rel c fa H .non v) : v = .non := by simpa only [Rel] using h
theorem Rel.mkI (i : Int) : Rel c fa H (.int i) (.int i) := by simp only [Rel]
theorem Rel.mkB (i : Bool) : Rel c fa H (.bl i) (.bl i) := by simp only [Rel]
theorem Rel.mkS (i : Str) : Rel c fa H (.str i) (.str i) := by simp only [Rel]
theorem Rel.mkN : Rel c fa H .non .non := by simp only [Rel]
/-- a new tuple, a new list that nobody changes -/
theorem Rel.newT (ok : StOk c fa S H) {p : Addr} {ds : List D} {vs : List V} {o : Obj} (ho : o.dict = none) (hp : H p = none) (r : Rels c fa H ds vs) : Rel c fa (upd H p (.frz o (.tup vs))) (.tup ds) (.ref p) := by
  simp only [Rel]
  exact ⟨p, vs, rfl, .inl ⟨ok.notin hp, o, ho, upd_same⟩, r.mono (Step.fresh ok hp)⟩
theorem Rel.newP (ok : StOk c fa S H) {p : Addr} {ds : List D} {vs : List V} (hp : H p = none) (r : Rels c fa H ds vs) : Rel c fa (upd H p (.tup vs)) (.tp ds) (.ref p) := by
  simp only [Rel]
  exact ⟨p, vs, rfl, ⟨ok.notin hp, upd_same⟩, r.mono (Step.fresh ok hp)⟩
theorem Rel.newL (ok : StOk c fa S H) {p : Addr} {ds : List D} {vs : List V} (hp : H p = none) (r : Rels c fa H ds vs) : Rel c fa (upd H p (.lst vs)) (.lst ds) (.ref p) := by
  simp only [Rel]
  exact ⟨p, vs, rfl, ⟨ok.notin hp, upd_same⟩, r.mono (Step.fresh ok hp)⟩
end

section
variable {X : Cx} {c : Kx} {W : WX} {a b e : Expr} {pos : Pos}
/-! ### names, constants -/
def eVar (i : Nat) : Rho → M D := fun ρ => match ρ[i]? with
  | some (some d) => pure d
  | _ => M.bad
theorem ev_var {i : Nat} {x : Str} (hN : X.N[i]? = some x) (hv : Vis X.env.scope x) (hd : (x == ("__debug__" : Str)) = false) (hcd : (x == ("__classdict__" : Str)) = false) : PE X (.Name x pos) (EvR c W (eVar i)) :=
  (pe_var hN hv hd hcd).imp fun σ H Q ⟨fa, S, ρ, ok, en, h⟩ => by
    unfold eVar at h
    cases q : ρ[i]? with
    | none => rw [q] at h; exact h.bad.elim
    | some o =>
      cases o with
      | none => rw [q] at h; exact h.bad.elim
      | some d =>
        rw [q] at h
        obtain ⟨v, e, r⟩ := en.2 i d q
        exact ⟨v, e, h.pure0 ok r⟩
def eCst (d : D) : Rho → M D := fun _ => pure d
theorem ev_cst {d : D} {v : V} (he : PE X e (tC v)) (r : ∀ fa H, Rel c fa H d v) : PE X e (EvR c W (eCst d)) :=
  he.imp fun σ H Q ⟨fa, S, ρ, ok, en, h⟩ => h.pure0 ok (r fa H)
theorem ev_int {i : Int} {j : Nat} : PE X (.Constant (.int i) j pos) (EvR c W (eCst (.int i))) := ev_cst pe_int fun _ _ => .mkI i
theorem ev_bl {i : Bool} {j : Nat} : PE X (.Constant (.bool i) j pos) (EvR c W (eCst (.bl i))) := ev_cst pe_bl fun _ _ => .mkB i
theorem ev_str {i : Str} {j : Nat} : PE X (.Constant (.str i) j pos) (EvR c W (eCst (.str i))) := ev_cst pe_str fun _ _ => .mkS i
theorem ev_non {j : Nat} : PE X (.Constant .none j pos) (EvR c W (eCst .non)) := ev_cst pe_non fun _ _ => .mkN
/-- never come to -/
theorem ev_bad : PE X e (EvR c W (fun _ => M.bad)) := ⟨fun _ _ σ H Q _ ⟨_, _, _, _, _, h⟩ => h.bad.elim⟩

/-! ### operators -/
variable {ma mb mc : Rho → M D}
def eOp (mo : D → D → M D) (ma mb : Rho → M D) : Rho → M D := fun ρ => ma ρ >>= fun x => mb ρ >>= fun y => mo x y
/-- the end by values -/
theorem Ends1.val {R : List Addr → Hp → D → V → Prop} {m : M D} {fa : List Addr} {S : Sto} {H : Hp} {Q : VK} {E : XK} (h : Ends1 c R m fa S H Q E) (n : ∀ x S', m S ≠ .exc x S') : Ends1 c R m fa S H Q X0 := by
  unfold Ends1 at h ⊢
  cases e : m S with
  | bad => rw [e] at h; exact h
  | exc x S2 => exact absurd e (n x S2)
  | ok a S2 => rw [e] at h; exact h
/-- what is never an error -/
def NoX {α : Type} (m : M α) : Prop := ∀ S x S', m S ≠ .exc x S'
theorem ev_op {op : Operator} {mo : D → D → M D} (ho : OpR X (binaryOp op) (r2 c mo)) (nx : ∀ x y, NoX (mo x y)) (ha : PE X a (EvR c W ma)) (hb : PE X b (EvR c W mb)) : PE X (.BinOp a op b pos) (EvR c W (eOp mo ma mb)) :=
  (pe_op ho ha hb).imp fun σ H Q ⟨fa, S, ρ, ok, en, h⟩ => by
    refine ⟨fa, S, ρ, ok, en, h.bind.imp (fun x H1 ⟨fa1, S1, d, ok1, st1, r1, h1⟩ => ?_) fun _ _ _ z => z⟩
    refine ⟨fa1, S1, ρ, ok1, en.mono st1, h1.bind.imp (fun y H2 ⟨fa2, S2, d2, ok2, st2, r2, h2⟩ => ?_) fun _ _ _ z => z⟩
    exact ⟨fa2, S2, d, d2, ok2, r1.mono st2, r2, h2.val fun x S' => nx _ _ _ x S'⟩
def eUn (mo : D → M D) (ma : Rho → M D) : Rho → M D := fun ρ => ma ρ >>= fun x => mo x
theorem ev_un {op : UnaryOp} {mo : D → M D} (ho : UnR X (unaryOp op) (r1 c mo)) (nx : ∀ x, NoX (mo x)) (ha : PE X a (EvR c W ma)) : PE X (.UnaryOp op a pos) (EvR c W (eUn mo ma)) :=
  (pe_un ho ha).imp fun σ H Q ⟨fa, S, ρ, ok, en, h⟩ => by
    refine ⟨fa, S, ρ, ok, en, h.bind.imp (fun x H1 ⟨fa1, S1, d, ok1, st1, r1, h1⟩ => ?_) fun _ _ _ z => z⟩
    exact ⟨fa1, S1, d, ok1, r1, h1.val fun x S' => nx _ _ x S'⟩
theorem ev_cmp {op : CmpOp} {mo : D → D → M D} (ho : OpR X (compareOp op) (r2 c mo)) (nx : ∀ x y, NoX (mo x y)) (hm : behindInMarks op b = false) (ha : PE X a (EvR c W ma)) (hb : PE X b (EvR c W mb)) : PE X (.Compare a [op] [b] pos) (EvR c W (eOp mo ma mb)) :=
  (pe_cmpR ho ha hb hm).imp fun σ H Q ⟨fa, S, ρ, ok, en, h⟩ => by
    refine ⟨fa, S, ρ, ok, en, h.bind.imp (fun x H1 ⟨fa1, S1, d, ok1, st1, r1, h1⟩ => ?_) fun _ _ _ z => z⟩
    refine ⟨fa1, S1, ρ, ok1, en.mono st1, h1.bind.imp (fun y H2 ⟨fa2, S2, d2, ok2, st2, r2, h2⟩ => ?_) fun _ _ _ z => z⟩
    exact ⟨fa2, S2, d, d2, ok2, r1.mono st2, r2, h2.val fun x S' => nx _ _ _ x S'⟩
/-- the bool that a comparison gives -/
def asB : D → M Bool
  | .bl b => pure b
  | _ => M.bad
def tOf (m : Rho → M D) : Rho → M Bool := fun ρ => m ρ >>= asB
theorem Ends1.asB {d : D} {v : V} {fa : List Addr} {S : Sto} {H : Hp} {Q : Bool → Hp → Prop} {E : XK} (h : Ends1 c (fun _ _ a b => b = a) (CR.asB d) fa S H Q E) (ok : StOk c fa S H) (r : Rel c fa H d v) : ∃ k, v = .bl k ∧ Q k H := by
  cases d with
  | bl k => exact ⟨k, r.bl, h.pure0 ok rfl⟩
  | _ => exact h.bad.elim
theorem tv_cmp {op : CmpOp} {mo : D → D → M D} (ho : OpR X (compareOp op) (r2 c mo)) (nx : ∀ x y, NoX (mo x y)) (hm : behindInMarks op b = false) (ha : PE X a (EvR c W ma)) (hb : PE X b (EvR c W mb)) : PT X (.Compare a [op] [b] pos) (TvR c W (tOf (eOp mo ma mb))) :=
  (pt_cmpR ho ha hb hm).imp fun σ H Q ⟨fa, S, ρ, ok, en, h⟩ => by
    have h := h.bind (R := Rel c)
    refine ⟨fa, S, ρ, ok, en, h.bind.imp (fun x H1 ⟨fa1, S1, d, ok1, st1, r1, h1⟩ => ?_) fun _ _ _ z => z⟩
    refine ⟨fa1, S1, ρ, ok1, en.mono st1, h1.bind.imp (fun y H2 ⟨fa2, S2, d2, ok2, st2, r2, h2⟩ => ?_) fun _ _ _ z => z⟩
    refine ⟨fa2, S2, d, d2, ok2, r1.mono st2, r2, (h2.val fun x S' => nx _ _ _ x S').imp (fun z H3 ⟨fa3, S3, d3, ok3, st3, r3, h3⟩ => ?_) fun _ _ _ z => z⟩
    exact h3.asB ok3 r3
/-- a < b < c -/
def eChain (mo mo' : D → D → M D) (ma mb mc : Rho → M D) : Rho → M D := fun ρ => ma ρ >>= fun x => mb ρ >>= fun y => mo x y >>= fun z => asB z >>= fun k => if k = true then mc ρ >>= fun w => mo' y w else pure (.bl false)
theorem ev_chain {op op' : CmpOp} {cx : Expr} {mo mo' : D → D → M D} (ho : OpR X (compareOp op) (r2 c mo)) (nx : ∀ x y, NoX (mo x y)) (ho' : OpR X (compareOp op') (r2 c mo')) (nx' : ∀ x y, NoX (mo' x y))
    (ha : PE X a (EvR c W ma)) (hb : PE X b (EvR c W mb)) (hc : PE X cx (EvR c W mc)) (h1 : behindInMarks op b = false) (h2 : behindInMarks op' cx = false) :
    PE X (.Compare a [op, op'] [b, cx] pos) (EvR c W (eChain mo mo' ma mb mc)) :=
  (pe_chain ho ho' ha hb hc (by simp [lastMarks, h2])).imp fun σ H Q ⟨fa, S, ρ, ok, en, h⟩ => by
    refine ⟨fa, S, ρ, ok, en, h.bind.imp (fun x H1 ⟨fa1, S1, d, ok1, st1, r1, h1⟩ => ?_) fun _ _ _ z => z⟩
    refine ⟨fa1, S1, ρ, ok1, en.mono st1, h1.bind.imp (fun y H2 ⟨fa2, S2, d2, ok2, st2, r2, h2⟩ => ?_) fun _ _ _ z => z⟩
    refine ⟨fa2, S2, d, d2, ok2, r1.mono st2, r2, (h2.bind.val fun x S' => nx _ _ _ x S').imp (fun z H3 ⟨fa3, S3, d3, ok3, st3, r3, h3⟩ => ?_) fun _ _ _ z => z⟩
    obtain ⟨k, e, fa4, S4, kk, ok4, st4, rfl, h4⟩ := (h3.bind (R := fun _ _ a b => b = a)).asB ok3 r3
    refine ⟨k, e, ?_⟩
    cases k with
    | false => exact h4.pure0 ok4 (.mkB _)
    | true =>
      refine ⟨fa4, S4, ρ, ok4, ((en.mono st1).mono st2).mono (st3.trans st4), h4.bind.imp (fun w H5 ⟨fa5, S5, d5, ok5, st5, r5, h5⟩ => ?_) fun _ _ _ z => z⟩
      exact ⟨fa5, S5, d2, d5, ok5, r2.mono (st3.trans (st4.trans st5)), r5, h5.val fun x S' => nx' _ _ _ x S'⟩
end
end CR

namespace CR
open PySem PySem.Spec PyProof.Rows L2
section
variable {X : Cx} {c : Kx} {W : WX} {a b e : Expr} {pos : Pos} {ma mb mc : Rho → M D} {ta tb : Rho → M Bool} {rest : List Expr}
/-! ### tests -/
theorem tv_chain {op op' : CmpOp} {cx : Expr} {mo mo' : D → D → M D} (ho : OpR X (compareOp op) (r2 c mo)) (nx : ∀ x y, NoX (mo x y)) (ho' : OpR X (compareOp op') (r2 c mo')) (nx' : ∀ x y, NoX (mo' x y))
    (ha : PE X a (EvR c W ma)) (hb : PE X b (EvR c W mb)) (hc : PE X cx (EvR c W mc)) (h1 : behindInMarks op b = false) (h2 : behindInMarks op' cx = false) :
    PT X (.Compare a [op, op'] [b, cx] pos) (TvR c W (tOf (eChain mo mo' ma mb mc))) :=
  (pt_chain ho ho' ha hb hc (by simp [lastMarks, h2])).imp fun σ H Q ⟨fa, S, ρ, ok, en, h⟩ => by
    have h := h.bind (R := Rel c)
    refine ⟨fa, S, ρ, ok, en, h.bind.imp (fun x H1 ⟨fa1, S1, d, ok1, st1, r1, h1⟩ => ?_) fun _ _ _ z => z⟩
    refine ⟨fa1, S1, ρ, ok1, en.mono st1, h1.bind.imp (fun y H2 ⟨fa2, S2, d2, ok2, st2, r2, h2⟩ => ?_) fun _ _ _ z => z⟩
    refine ⟨fa2, S2, d, d2, ok2, r1.mono st2, r2, (h2.bind.val fun x S' => nx _ _ _ x S').imp (fun z H3 ⟨fa3, S3, d3, ok3, st3, r3, h3⟩ => ?_) fun _ _ _ z => z⟩
    obtain ⟨k, e, fa4, S4, kk, ok4, st4, rfl, h4⟩ := (h3.bind (R := fun _ _ a b => b = a)).asB ok3 r3
    refine ⟨k, e, ?_⟩
    cases k with
    | false =>
      obtain ⟨fa5, S5, d5, ok5, st5, r5, h5⟩ := h4.pure0 ok4 (.mkB _)
      exact h5.asB ok5 r5
    | true =>
      refine ⟨fa4, S4, ρ, ok4, ((en.mono st1).mono st2).mono (st3.trans st4), h4.bind.imp (fun w H5 ⟨fa5, S5, d5, ok5, st5, r5, h5⟩ => ?_) fun _ _ _ z => z⟩
      refine ⟨fa5, S5, d2, d5, ok5, r2.mono (st3.trans (st4.trans st5)), r5, (h5.val fun x S' => nx' _ _ _ x S').imp (fun z H6 ⟨fa6, S6, d6, ok6, st6, r6, h6⟩ => ?_) fun _ _ _ z => z⟩
      exact h6.asB ok6 r6
def tTru (mo : D → M Bool) (m : Rho → M D) : Rho → M Bool := fun ρ => m ρ >>= mo
/-- an error in a look at truth: none -/
theorem Ends1.valT {α β : Type} {R : List Addr → Hp → α → β → Prop} {m : M α} {fa : List Addr} {S : Sto} {H : Hp} {Q : β → Hp → Prop} {E : XK} (h : Ends1 c R m fa S H Q E) (n : ∀ x S', m S ≠ .exc x S') : Ends1 c R m fa S H Q X0 := by
  unfold Ends1 at h ⊢
  cases e : m S with
  | bad => rw [e] at h; exact h
  | exc x S2 => exact absurd e (n x S2)
  | ok a S2 => rw [e] at h; exact h
theorem tv_truth {mo : D → M Bool} (hr : TruR X (rt c mo)) (nx : ∀ x, NoX (mo x)) (he : ∀ whole, isTrue a X.env whole = (do let v ← whole; standAt a.pos; holding [v] (truthy v))) (ha : PE X a (EvR c W ma)) : PT X a (TvR c W (tTru mo ma)) :=
  (pt_truthR ha hr he).imp fun σ H Q ⟨fa, S, ρ, ok, en, h⟩ => by
    refine ⟨fa, S, ρ, ok, en, h.bind.imp (fun x H1 ⟨fa1, S1, d, ok1, st1, r1, h1⟩ => ?_) fun _ _ _ z => z⟩
    exact ⟨fa1, S1, d, ok1, r1, h1.valT fun x S' => nx _ _ x S'⟩
def tNotM (t : Rho → M Bool) : Rho → M Bool := fun ρ => t ρ >>= fun k => pure (!k)
theorem tv_not (ha : PT X a (TvR c W ta)) : PT X (.UnaryOp .Not a pos) (TvR c W (tNotM ta)) :=
  (pt_not ha).imp fun σ H Q ⟨fa, S, ρ, ok, en, h⟩ => by
    refine ⟨fa, S, ρ, ok, en, h.bind.imp (fun x H1 ⟨fa1, S1, d, ok1, st1, r1, h1⟩ => ?_) fun _ _ _ z => z⟩
    subst r1
    exact h1.pure0 ok1 rfl
def tAndM (t u : Rho → M Bool) : Rho → M Bool := fun ρ => t ρ >>= fun k => if k = true then u ρ else pure false
def tOrM (t u : Rho → M Bool) : Rho → M Bool := fun ρ => t ρ >>= fun k => if k = true then pure true else u ρ
theorem tw_and1 (ha : PT X a (TvR c W ta)) : PW X (.BoolOp .And [a] pos) (TvR c W ta) := pw_and1 ha
theorem tw_or1 (ha : PT X a (TvR c W ta)) : PW X (.BoolOp .Or [a] pos) (TvR c W ta) := pw_or1 ha
theorem tw_and (ha : PT X a (TvR c W ta)) (hb : PW X (.BoolOp .And (b :: rest) pos) (TvR c W tb)) : PW X (.BoolOp .And (a :: b :: rest) pos) (TvR c W (tAndM ta tb)) :=
  (pw_and ha hb).imp fun σ H Q ⟨fa, S, ρ, ok, en, h⟩ => by
    refine ⟨fa, S, ρ, ok, en, h.bind.imp (fun x H1 ⟨fa1, S1, d, ok1, st1, r1, h1⟩ => ?_) fun _ _ _ z => z⟩
    subst r1
    cases x with
    | true => exact ⟨fa1, S1, ρ, ok1, en.mono st1, h1⟩
    | false => exact h1.pure0 ok1 rfl
theorem tw_or (ha : PT X a (TvR c W ta)) (hb : PW X (.BoolOp .Or (b :: rest) pos) (TvR c W tb)) : PW X (.BoolOp .Or (a :: b :: rest) pos) (TvR c W (tOrM ta tb)) :=
  (pw_or ha hb).imp fun σ H Q ⟨fa, S, ρ, ok, en, h⟩ => by
    refine ⟨fa, S, ρ, ok, en, h.bind.imp (fun x H1 ⟨fa1, S1, d, ok1, st1, r1, h1⟩ => ?_) fun _ _ _ z => z⟩
    subst r1
    cases x with
    | true => exact h1.pure0 ok1 rfl
    | false => exact ⟨fa1, S1, ρ, ok1, en.mono st1, h1⟩
theorem tv_bad : PT X e (TvR c W (fun _ => M.bad)) := ⟨fun _ _ σ H Q _ ⟨_, _, _, _, _, h⟩ => h.bad.elim⟩
/-! ### and, or, not, if as values -/
def eAndM (t u : Rho → M D) : Rho → M D := fun ρ => t ρ >>= fun x => asB x >>= fun k => if k = true then u ρ else pure (.bl false)
def eOrM (t u : Rho → M D) : Rho → M D := fun ρ => t ρ >>= fun x => asB x >>= fun k => if k = true then pure (.bl true) else u ρ
theorem ev_one {op : BoolOp} (ha : PE X a (EvR c W ma)) : PE X (.BoolOp op [a] pos) (EvR c W ma) := pe_one ha
theorem ev_and (ha : PE X a (EvR c W ma)) (hb : PE X (.BoolOp .And (b :: rest) pos) (EvR c W mb)) : PE X (.BoolOp .And (a :: b :: rest) pos) (EvR c W (eAndM ma mb)) :=
  (pe_and ha hb).imp fun σ H Q ⟨fa, S, ρ, ok, en, h⟩ => by
    refine ⟨fa, S, ρ, ok, en, h.bind.imp (fun x H1 ⟨fa1, S1, d, ok1, st1, r1, h1⟩ => ?_) fun _ _ _ z => z⟩
    obtain ⟨k, e, fa4, S4, kk, ok4, st4, rfl, h4⟩ := (h1.bind (R := fun _ _ a b => b = a)).asB ok1 r1
    refine ⟨k, e, ?_⟩
    cases k with
    | true => exact ⟨fa4, S4, ρ, ok4, en.mono (st1.trans st4), h4⟩
    | false => exact h4.pure0 ok4 (.mkB _)
theorem ev_or (ha : PE X a (EvR c W ma)) (hb : PE X (.BoolOp .Or (b :: rest) pos) (EvR c W mb)) : PE X (.BoolOp .Or (a :: b :: rest) pos) (EvR c W (eOrM ma mb)) :=
  (pe_or ha hb).imp fun σ H Q ⟨fa, S, ρ, ok, en, h⟩ => by
    refine ⟨fa, S, ρ, ok, en, h.bind.imp (fun x H1 ⟨fa1, S1, d, ok1, st1, r1, h1⟩ => ?_) fun _ _ _ z => z⟩
    obtain ⟨k, e, fa4, S4, kk, ok4, st4, rfl, h4⟩ := (h1.bind (R := fun _ _ a b => b = a)).asB ok1 r1
    refine ⟨k, e, ?_⟩
    cases k with
    | true => exact h4.pure0 ok4 (.mkB _)
    | false => exact ⟨fa4, S4, ρ, ok4, en.mono (st1.trans st4), h4⟩
def eNotM (t : Rho → M D) : Rho → M D := fun ρ => t ρ >>= fun x => asB x >>= fun k => pure (.bl (!k))
theorem ev_not (ha : PE X a (EvR c W ma)) : PE X (.UnaryOp .Not a pos) (EvR c W (eNotM ma)) :=
  (pe_not ha).imp fun σ H Q ⟨fa, S, ρ, ok, en, h⟩ => by
    refine ⟨fa, S, ρ, ok, en, h.bind.imp (fun x H1 ⟨fa1, S1, d, ok1, st1, r1, h1⟩ => ?_) fun _ _ _ z => z⟩
    obtain ⟨k, e, fa4, S4, kk, ok4, st4, rfl, h4⟩ := (h1.bind (R := fun _ _ a b => b = a)).asB ok1 r1
    exact ⟨k, e, h4.pure0 ok4 (.mkB _)⟩
def eIfM (t : Rho → M Bool) (ma mb : Rho → M D) : Rho → M D := fun ρ => t ρ >>= fun k => if k = true then ma ρ else mb ρ
theorem ev_if {x : Expr} (ht : PT X x (TvR c W ta)) (ha : PE X a (EvR c W ma)) (hb : PE X b (EvR c W mb)) : PE X (.IfExp x a b pos) (EvR c W (eIfM ta ma mb)) :=
  (pe_ifExp ht ha hb).imp fun σ H Q ⟨fa, S, ρ, ok, en, h⟩ => by
    refine ⟨fa, S, ρ, ok, en, h.bind.imp (fun x H1 ⟨fa1, S1, d, ok1, st1, r1, h1⟩ => ?_) fun _ _ _ z => z⟩
    subst r1
    cases x with
    | true => exact ⟨fa1, S1, ρ, ok1, en.mono st1, h1⟩
    | false => exact ⟨fa1, S1, ρ, ok1, en.mono st1, h1⟩
/-! ### arguments, displays -/
def aNil : Rho → M (List D) := fun _ => pure []
def aCons (m : Rho → M D) (r : Rho → M (List D)) : Rho → M (List D) := fun ρ => m ρ >>= fun x => r ρ >>= fun xs => pure (x :: xs)
variable {mr : Rho → M (List D)} {es : List Expr}
theorem av_nil : PA X [] (AvR c W aNil) := (pa_nil).imp fun σ H Q ⟨fa, S, ρ, ok, en, h⟩ => h.pure0 ok .nil
theorem av_cons (hs : starEach (e :: es) X.env = (false, eval e X.env) :: starEach es X.env) (ha : PE X e (EvR c W ma)) (hr : PA X es (AvR c W mr)) : PA X (e :: es) (AvR c W (aCons ma mr)) :=
  (pa_cons ha hr hs).imp fun σ H Q ⟨fa, S, ρ, ok, en, h⟩ => by
    refine ⟨fa, S, ρ, ok, en, h.bind.imp (fun x H1 ⟨fa1, S1, d, ok1, st1, r1, h1⟩ => ?_) fun _ _ _ z => z⟩
    refine ⟨fa1, S1, ρ, ok1, en.mono st1, h1.bind.imp (fun y H2 ⟨fa2, S2, d2, ok2, st2, r2, h2⟩ => ?_) fun _ _ _ z => z⟩
    exact h2.pure0 ok2 (.cons (r1.mono st2) r2)
theorem av_bad : PA X es (AvR c W (fun _ => M.bad)) := ⟨fun _ _ _ σ H Q _ ⟨_, _, _, _, _, h⟩ => h.bad.elim⟩
/-- short enough -/
def fits (n : Nat) : Bool := Nat.ble n sizeLine
theorem fits_iff {n : Nat} : fits n = true ↔ n ≤ sizeLine := by unfold fits; rw [Nat.ble_eq]
def eTup (m : Rho → M (List D)) : Rho → M D := fun ρ => m ρ >>= fun xs => if fits xs.length = true then pure (.tup xs) else M.bad
/-- .. that may be a key -/
def eTp (m : Rho → M (List D)) : Rho → M D := fun ρ => m ρ >>= fun xs => if fits xs.length = true then pure (.tp xs) else M.bad
/-- a display whose object is known -/
def tTupF (t : TA) : TE := fun σ H Q => t σ H fun xs H1 => xs.length ≤ sizeLine ∧ ∀ p o, H1 p = none → o.dict = none → Q (.ref p) (upd H1 p (.frz o (.tup xs)))
theorem pe_tupF {k : Nat} {t : TA} (h : PA X es t) : PE X (.Tuple es k pos) (tTupF t) := by
  refine ⟨fun pins s σ H Q I hq => ?_⟩
  refine wpAny_Tuple_spliced (thn (h.run pos pins s σ H _ I hq) fun us s1 ⟨xs, H1, I1, r, z, q⟩ => ⟨by rw [← r.length]; exact z, ?_⟩)
  refine ⟨.ref s1.heap.objs.size, _, I1.laid (t' := s1.toks) (fun b u e => Heap.get?_push_of_some _ e) (Nat.le_refl _) ?_, rfl, q _ { cls := .type "tuple", data := .seq us.toArray } (I1.hok.fresh (Nat.le_refl _)) rfl⟩
  exact ⟨Heap.get?_push_size _ rfl, z, us, r, ⟨_, Heap.get?_push_size _ rfl, rfl, _, rfl⟩⟩
def eLst (m : Rho → M (List D)) : Rho → M D := fun ρ => m ρ >>= fun xs => if fits xs.length = true then pure (.lst xs) else M.bad
def allocM (d : D) : M D := fun S => .ok (.ref S.length) (S ++ [d])
def eLstM (m : Rho → M (List D)) : Rho → M D := fun ρ => m ρ >>= fun xs => if fits xs.length = true then allocM (.lst xs) else M.bad
theorem ev_tup {k : Nat} (h : PA X es (AvR c W mr)) : PE X (.Tuple es k pos) (EvR c W (eTup mr)) :=
  (pe_tupF h).imp fun σ H Q ⟨fa, S, ρ, ok, en, h⟩ => by
    refine ⟨fa, S, ρ, ok, en, h.bind.imp (fun x H1 ⟨fa1, S1, d, ok1, st1, r1, h1⟩ => ?_) fun _ _ _ z => z⟩
    by_cases hf : fits d.length = true
    · rw [if_pos hf] at h1
      refine ⟨by rw [← r1.length]; exact fits_iff.mp hf, fun p o hp ho => ?_⟩
      exact h1 fa1 _ _ (Step.fresh ok1 hp) (ok1.fresh hp) (Rel.newT ok1 ho hp r1)
    · rw [if_neg hf] at h1
      exact h1.bad.elim
theorem ev_tp {k : Nat} (h : PA X es (AvR c W mr)) : PE X (.Tuple es k pos) (EvR c W (eTp mr)) :=
  (pe_tup h).imp fun σ H Q ⟨fa, S, ρ, ok, en, h⟩ => by
    refine ⟨fa, S, ρ, ok, en, h.bind.imp (fun x H1 ⟨fa1, S1, d, ok1, st1, r1, h1⟩ => ?_) fun _ _ _ z => z⟩
    by_cases hf : fits d.length = true
    · rw [if_pos hf] at h1
      refine ⟨by rw [← r1.length]; exact fits_iff.mp hf, fun p hp => ?_⟩
      exact h1 fa1 _ _ (Step.fresh ok1 hp) (ok1.fresh hp) (Rel.newP ok1 hp r1)
    · rw [if_neg hf] at h1
      exact h1.bad.elim
theorem ev_lst (h : PA X es (AvR c W mr)) : PE X (.List es pos) (EvR c W (eLst mr)) :=
  (pe_lst h).imp fun σ H Q ⟨fa, S, ρ, ok, en, h⟩ => by
    refine ⟨fa, S, ρ, ok, en, h.bind.imp (fun x H1 ⟨fa1, S1, d, ok1, st1, r1, h1⟩ => ?_) fun _ _ _ z => z⟩
    by_cases hf : fits d.length = true
    · rw [if_pos hf] at h1
      refine ⟨by rw [← r1.length]; exact fits_iff.mp hf, fun p hp => ?_⟩
      exact h1 fa1 _ _ (Step.fresh ok1 hp) (ok1.fresh hp) (Rel.newL ok1 hp r1)
    · rw [if_neg hf] at h1
      exact h1.bad.elim
theorem alloc_ends {d : D} {o : HO} {fa : List Addr} {S : Sto} {H : Hp} {Q : VK} {E : XK} (h : Ends1 c (Rel c) (allocM d) fa S H Q E) (ok : StOk c fa S H) (r : RelO c fa H d o) : ∀ p, H p = none → Q (.ref p) (upd H p o) := fun p hp =>
  h (fa ++ [p]) _ _ (Step.alloc ok hp) (ok.alloc hp r) (.refn (by rw [← ok.len, List.getElem?_append_right (Nat.le_refl _)]; simp))
theorem ev_lstM (h : PA X es (AvR c W mr)) : PE X (.List es pos) (EvR c W (eLstM mr)) :=
  (pe_lst h).imp fun σ H Q ⟨fa, S, ρ, ok, en, h⟩ => by
    refine ⟨fa, S, ρ, ok, en, h.bind.imp (fun x H1 ⟨fa1, S1, d, ok1, st1, r1, h1⟩ => ?_) fun _ _ _ z => z⟩
    by_cases hf : fits d.length = true
    · rw [if_pos hf] at h1
      exact ⟨by rw [← r1.length]; exact fits_iff.mp hf, alloc_ends h1 ok1 ⟨x, rfl, r1⟩⟩
    · rw [if_neg hf] at h1
      exact h1.bad.elim
/-! ### calls of what is built in -/
def eCallB (mo : List D → M D) (m : Rho → M (List D)) : Rho → M D := fun ρ => m ρ >>= mo
theorem ev_callB {x : Str} {p : Pos} {id : String} {mo : List D → M D} (hc : CallR X (.builtin id) (rn c mo)) (nx : ∀ x, NoX (mo x)) (hg : Gl X x) (hm : X.mg x = none) (hv : bootBuiltins x = some (.builtin id)) (hn : x ≠ "__name__") (hdb : (x == ("__debug__" : Str)) = false)
    (he : starEach (e :: es) X.env = (false, eval e X.env) :: starEach es X.env) (hpl : (backTo pos (starEach es X.env)).any (·.1) = false) (ha : PA X (e :: es) (AvR c W mr)) : PE X (.Call (.Name x p) (e :: es) [] pos) (EvR c W (eCallB mo mr)) :=
  (pe_callB hc hg hm hv ha hn hdb he hpl).imp fun σ H Q ⟨fa, S, ρ, ok, en, h⟩ => by
    refine ⟨fa, S, ρ, ok, en, h.bind.imp (fun x H1 ⟨fa1, S1, d, ok1, st1, r1, h1⟩ => ?_) fun _ _ _ z => z⟩
    exact ⟨fa1, S1, d, ok1, r1, h1.val fun x S' => nx _ _ x S'⟩
theorem ev_callTy {x : Str} {p : Pos} {T : String} {mo : List D → M D} (hc : CallR X (.type T) (rn c mo)) (nx : ∀ x, NoX (mo x)) (hg : Gl X x) (hm : X.mg x = none) (hv : bootBuiltins x = some (.type T)) (hn : x ≠ "__name__") (hdb : (x == ("__debug__" : Str)) = false)
    (he : starEach (e :: es) X.env = (false, eval e X.env) :: starEach es X.env) (hpl : (backTo pos (starEach es X.env)).any (·.1) = false) (ha : PA X (e :: es) (AvR c W mr)) : PE X (.Call (.Name x p) (e :: es) [] pos) (EvR c W (eCallB mo mr)) :=
  (pe_callTy hc hg hm hv ha hn hdb he hpl).imp fun σ H Q ⟨fa, S, ρ, ok, en, h⟩ => by
    refine ⟨fa, S, ρ, ok, en, h.bind.imp (fun x H1 ⟨fa1, S1, d, ok1, st1, r1, h1⟩ => ?_) fun _ _ _ z => z⟩
    exact ⟨fa1, S1, d, ok1, r1, h1.val fun x S' => nx _ _ x S'⟩
/-! ### methods of built-in types -/
/-- the type of a value, as far as a method asks -/
def tyD (T : String) (d : D) (S : Sto) : Bool := match d with
  | .str _ => T == "str"
  | .tup _ => T == "tuple"
  | .tp _ => T == "tuple"
  | .kt _ => T == "tuple"
  | .lst _ => T == "list"
  | .fz _ => T == "list"
  | .dK _ _ => T == "dict"
  | .dT _ _ => T == "dict"
  | .ref n => (match S[n]? with
    | some (.lst _) => T == "list"
    | some (.dK _ _) => T == "dict"
    | some (.dT _ _) => T == "dict"
    | _ => false)
  | _ => false
end
end CR

/-! CrC1: operators by values. -/
namespace CR
open PySem PySem.Spec PyProof.Rows L2
section
variable {X : Cx} {c : Kx}
/-! ### never an error -/
theorem NoX.pure {α : Type} (a : α) : NoX (Pure.pure a : M α) := fun _ _ _ h => by cases h
theorem NoX.bad {α : Type} : NoX (M.bad : M α) := fun _ _ _ h => by cases h
theorem NoX.ite {α : Type} {p : Prop} [Decidable p] {a b : M α} (ha : NoX a) (hb : NoX b) : NoX (if p then a else b) := by
  by_cases h : p
  · rw [if_pos h]; exact ha
  · rw [if_neg h]; exact hb
/-- a pure look at the store -/
def opt {α : Type} (f : Sto → Option α) : M α := fun S => match f S with
  | some d => .ok d S
  | none => .bad
theorem NoX.opt {α : Type} {f : Sto → Option α} : NoX (opt f) := fun S x S' h => by
  unfold CR.opt at h
  cases e : f S with
  | none => rw [e] at h; cases h
  | some d => rw [e] at h; cases h
theorem Ends1.opt {α β : Type} {f : Sto → Option α} {R : List Addr → Hp → α → β → Prop} {fa : List Addr} {S : Sto} {H : Hp} {Q : β → Hp → Prop} {E : XK} (h : Ends1 c R (CR.opt f) fa S H Q E) : ∃ d, f S = some d ∧ ∀ fa' b H', Step fa H fa' H' → StOk c fa' S H' → R fa' H' d b → Q b H' := by
  unfold Ends1 CR.opt at h
  cases e : f S with
  | none => rw [e] at h; exact h.elim
  | some d => rw [e] at h; exact ⟨d, rfl, h⟩
/-! ### tuples made anew, their objects known -/
def rCatF (K : PySem.W.Frag) : R2 := fun x y H Q => ∃ a b xs ys, x = .ref a ∧ y = .ref b ∧ SqT K H a xs ∧ SqT K H b ys ∧ xs.length + ys.length ≤ sizeLine ∧
  (xs = [] → Q (.ref b) H) ∧ (xs ≠ [] → ys = [] → Q (.ref a) H) ∧ (xs ≠ [] → ys ≠ [] → ∀ p o, H p = none → o.dict = none → Q (.ref p) (upd H p (.frz o (.tup (xs ++ ys)))))
theorem op_catF : OpR X (binaryOp .Add) (rCatF X.K) := by
  rintro pins s σ H x y v u Q I rx ry ⟨a, b, xs, ys, rfl, rfl, ha, hb, hz, q0, q1, q2⟩
  by_cases hx : xs = []
  · exact op_catA pins s σ H _ _ v u Q I rx ry ⟨a, b, xs, ys, rfl, rfl, ha, hb, hz, q0, fun n => absurd hx n, fun n => absurd hx n⟩
  · cases rx
    cases ry
    obtain ⟨its, r1, p1, _⟩ := I.tuple ha
    obtain ⟨jts, r2, p2, _⟩ := I.tuple hb
    refine HT.cat_tup p1 p2 (fun z => hx (r1.nil_iff.mp z)) (fun z => ⟨.ref a, H, I, rfl, q1 hx (r2.nil_iff.mp z)⟩) (fun z => ?_) (by rw [← r1.length, ← r2.length]; exact hz)
    refine ⟨.ref s.heap.objs.size, _, I.laid (t' := s.toks) (fun b ob q => Heap.get?_push_of_some _ q) (Nat.le_refl _) ?_, rfl, q2 hx (fun w => z (r2.nil_iff.mpr w)) s.heap.objs.size { cls := .type "tuple", data := .seq (its ++ jts).toArray } (I.hok.fresh (Nat.le_refl _)) rfl⟩
    have e : (s.heap.push { cls := .type "tuple", data := .seq (its ++ jts).toArray }).get? s.heap.objs.size = some { cls := .type "tuple", data := .seq (its ++ jts).toArray } := Heap.get?_push_size _ rfl
    exact ⟨by first | exact e | simpa using e, by rw [List.length_append]; exact hz, _, r1.append r2, by first | exact IsTup.new _ _ | simpa using IsTup.new _ _⟩
/-! ### + -/
def isFz : D → Bool
  | .fz _ => true
  | _ => false
theorem isFz_no {d : D} (h : isFz d = false) : ∀ es, d ≠ .fz es := fun es e => by subst e; cases h
/-- a list that may be taken apart as it is -/
def lstOf (S : Sto) (d : D) : Option (List D) := if isFz d = true then none else listOf S d
theorem Rel.lown {fa : List Addr} {S : Sto} {H : Hp} (ok : StOk c fa S H) {d : D} {ds : List D} {v : V} (h : Rel c fa H d v) (e : lstOf S d = some ds) : ∃ a vs, v = .ref a ∧ H a = some (.lst vs) ∧ Rels c fa H ds vs := by
  unfold lstOf at e
  by_cases hf : isFz d = true
  · rw [if_pos hf] at e; cases e
  · rw [if_neg hf] at e
    exact h.own ok e (isFz_no (by simpa using hf))
def catL (S : Sto) (d e : D) : Option D := match lstOf S d, lstOf S e with
  | some xs, some ys => if fits (xs.length + ys.length) = true then some (.lst (xs ++ ys)) else none
  | _, _ => none
def addD (S : Sto) (d e : D) : Option D := match d, e with
  | .int i, .int j => some (.int (i + j))
  | .int i, .bl k => some (.int (i + b2i k))
  | .str x, .str y => if fits (x.length + y.length) = true then some (.str (x ++ y)) else none
  | .tup xs, .tup ys => if fits (xs.length + ys.length) = true then some (.tup (xs ++ ys)) else none
  | .lst xs, .lst ys => if fits (xs.length + ys.length) = true then some (.lst (xs ++ ys)) else none
  | .ref n, e => catL S (.ref n) e
  | .lst xs, .ref n => catL S (.lst xs) (.ref n)
  | _, _ => none
def mAdd (d e : D) : M D := opt fun S => addD S d e
theorem cat_ok {fa : List Addr} {S : Sto} {H : Hp} {d e z : D} {x y : V} {Q : VK} (ok : StOk c fa S H) (h1 : Rel c fa H d x) (h2 : Rel c fa H e y) (hz : catL S d e = some z) (q : ∀ fa' b H', Step fa H fa' H' → StOk c fa' S H' → Rel c fa' H' z b → Q b H') : rCat x y H Q := by
  unfold catL at hz
  cases e1 : lstOf S d with
  | none => rw [e1] at hz; cases hz
  | some xs =>
    cases e2 : lstOf S e with
    | none => rw [e1, e2] at hz; cases hz
    | some ys =>
      rw [e1, e2] at hz
      by_cases hf : fits (xs.length + ys.length) = true
      · simp only [hf, if_true] at hz
        cases hz
        obtain ⟨a, vs, rfl, g1, r1⟩ := h1.lown ok e1
        obtain ⟨b, ws, rfl, g2, r2⟩ := h2.lown ok e2
        have hl := fits_iff.mp hf
        rw [r1.length, r2.length] at hl
        exact ⟨a, b, vs, ws, rfl, rfl, g1, g2, hl, fun p hp => q fa _ _ (.fresh ok hp) (ok.fresh hp) (Rel.newL ok hp (r1.append r2))⟩
      · simp only [hf] at hz; cases hz
theorem op_mAdd (hK : c.K = X.K) : OpR X (binaryOp .Add) (r2 c mAdd) := by
  refine OpR.imp (OpR.or op_add (OpR.or op_add_ib (OpR.or op_add_str (OpR.or op_catF op_cat)))) ?_
  rintro x y H Q ⟨fa, S, d, e, ok, h1, h2, en⟩
  obtain ⟨z, hz, q⟩ := en.opt
  unfold addD at hz
  split at hz
  · cases hz; exact .inl ⟨_, _, h1.int, h2.int, q fa _ H .refl ok (.mkI _)⟩
  · cases hz; exact .inr (.inl ⟨_, _, h1.int, h2.bl, q fa _ H .refl ok (.mkI _)⟩)
  · split at hz
    · rename_i hf
      cases hz; exact .inr (.inr (.inl ⟨_, _, h1.str, h2.str, fits_iff.mp hf, q fa _ H .refl ok (.mkS _)⟩))
    · cases hz
  · rename_i xs ys
    split at hz
    · rename_i hf
      cases hz
      obtain ⟨a, vs, rfl, s1, r1⟩ := h1.sqt rfl
      obtain ⟨b, ws, rfl, s2, r2⟩ := h2.sqt rfl
      rw [hK] at s1 s2
      have hl := fits_iff.mp hf
      rw [r1.length, r2.length] at hl
      refine .inr (.inr (.inr (.inl ⟨a, b, vs, ws, rfl, rfl, s1, s2, hl, ?_, ?_, ?_⟩)))
      · intro e; subst e
        have : xs = [] := List.eq_nil_of_length_eq_zero (by rw [r1.length]; rfl)
        subst this
        exact q fa _ H .refl ok h2
      · intro _ e; subst e
        have : ys = [] := List.eq_nil_of_length_eq_zero (by rw [r2.length]; rfl)
        subst this
        rw [List.append_nil] at q
        exact q fa _ H .refl ok h1
      · intro n1 n2 p o hp ho
        exact q fa _ _ (.fresh ok hp) (ok.fresh hp) (Rel.newT ok ho hp (r1.append r2))
    · cases hz
  · exact .inr (.inr (.inr (.inr (cat_ok ok h1 h2 (by simpa [catL, lstOf, isFz, listOf] using hz) q))))
  · exact .inr (.inr (.inr (.inr (cat_ok ok h1 h2 hz q))))
  · exact .inr (.inr (.inr (.inr (cat_ok ok h1 h2 hz q))))
  · cases hz
/-! ### whole numbers -/
def intOp (C : Int → Int → Bool) (g : Int → Int → D) (d e : D) : Option D := match d, e with
  | .int i, .int j => if C i j = true then some (g i j) else none
  | _, _ => none
theorem intOp_some {C : Int → Int → Bool} {g : Int → Int → D} {d e z : D} (h : intOp C g d e = some z) : ∃ i j, d = .int i ∧ e = .int j ∧ C i j = true ∧ z = g i j := by
  unfold intOp at h
  split at h
  · split at h
    · rename_i i j hc
      exact ⟨i, j, rfl, rfl, hc, (Option.some.inj h).symm⟩
    · cases h
  · cases h
theorem op_intOp {f : Value → Value → Sem Value} {P : Int → Int → Prop} {C : Int → Int → Bool} {g : Int → Int → D} {gV : Int → Int → V} (h : OpR X f (rI P gV)) (hC : ∀ i j, C i j = true → P i j) (hg : ∀ i j fa H, Rel c fa H (g i j) (gV i j)) :
    OpR X f (r2 c fun d e => opt fun _ => intOp C g d e) := by
  refine OpR.imp h ?_
  rintro x y H Q ⟨fa, S, d, e, ok, h1, h2, en⟩
  obtain ⟨z, hz, q⟩ := en.opt
  obtain ⟨i, j, rfl, rfl, hc, rfl⟩ := intOp_some hz
  exact ⟨i, j, h1.int, h2.int, hC i j hc, q fa _ H .refl ok (hg i j fa H)⟩
theorem rI_of0 {f : Value → Value → Sem Value} {g : Int → Int → V} (h : OpR X f (rI0 g)) : OpR X f (rI (fun _ _ => True) g) := OpR.imp h fun x y H Q ⟨i, j, e1, e2, _, q⟩ => ⟨i, j, e1, e2, q⟩
def yes2 (_ _ : Int) : Bool := true
def mSub (d e : D) : M D := opt fun _ => intOp yes2 (fun i j => .int (i - j)) d e
theorem op_mSub : OpR X (binaryOp .Sub) (r2 c mSub) := op_intOp (rI_of0 op_sub) (fun _ _ _ => True.intro) fun _ _ _ _ => .mkI _
def cMod (_ j : Int) : Bool := decide (0 < j)
def mMod (d e : D) : M D := opt fun _ => intOp cMod (fun i j => .int (i % j)) d e
theorem op_mMod : OpR X (binaryOp .Mod) (r2 c mMod) := op_intOp op_mod (fun _ _ h => of_decide_eq_true h) fun _ _ _ _ => .mkI _
def cDiv (_ j : Int) : Bool := decide (0 < j) && decide (j < 1073741824)
def mFdiv (d e : D) : M D := opt fun _ => intOp cDiv (fun i j => .int (i / j)) d e
theorem op_mFdiv : OpR X (binaryOp .FloorDiv) (r2 c mFdiv) := op_intOp op_fdiv (fun i j h => by
  simp only [cDiv, Bool.and_eq_true, decide_eq_true_eq] at h; exact h) fun _ _ _ _ => .mkI _
def cPow (i j : Int) : Bool := decide (0 ≤ j) && decide (j ≤ 1000000) && decide (i.natAbs < 2 ^ 64)
theorem cPow_ok (i j : Int) (h : cPow i j = true) : CPow i j := by
  simp only [cPow, Bool.and_eq_true, decide_eq_true_eq] at h; exact ⟨h.1.1, h.1.2, h.2⟩
def mPow (d e : D) : M D := opt fun _ => intOp cPow (fun i j => .int (i ^ j.toNat)) d e
theorem op_mPow : OpR X (binaryOp .Pow) (r2 c mPow) := op_intOp op_pow cPow_ok fun _ _ _ _ => .mkI _
def mShl (d e : D) : M D := opt fun _ => intOp cPow (fun i j => .int (i * 2 ^ j.toNat)) d e
theorem op_mShl : OpR X (binaryOp .LShift) (r2 c mShl) := op_intOp op_shl cPow_ok fun _ _ _ _ => .mkI _
def cShr (_ j : Int) : Bool := decide (0 ≤ j)
def mShr (d e : D) : M D := opt fun _ => intOp cShr (fun i j => .int (i / 2 ^ j.toNat)) d e
theorem op_mShr : OpR X (binaryOp .RShift) (r2 c mShr) := op_intOp op_shr (fun _ _ h => of_decide_eq_true h) fun _ _ _ _ => .mkI _
def mAndI (d e : D) : M D := opt fun _ => intOp yes2 (fun i j => .int (Builtin.bitAnd i j)) d e
theorem op_mAndI : OpR X (binaryOp .BitAnd) (r2 c mAndI) := op_intOp (rI_of0 op_and) (fun _ _ _ => True.intro) fun _ _ _ _ => .mkI _
def mOrI (d e : D) : M D := opt fun _ => intOp yes2 (fun i j => .int (Builtin.bitOr i j)) d e
theorem op_mOrI : OpR X (binaryOp .BitOr) (r2 c mOrI) := op_intOp (rI_of0 op_or) (fun _ _ _ => True.intro) fun _ _ _ _ => .mkI _
/-- one factor small -/
def cMul (i j : Int) : Bool := (decide (-(2 ^ 64) < i) && decide (i < 2 ^ 64)) || (decide (-(2 ^ 64) < j) && decide (j < 2 ^ 64))
def repL (S : Sto) (d : D) (k : Int) : Option D := match lstOf S d with
  | some xs => if decide (-(2 ^ 63) ≤ k) && decide (k < 2 ^ 63) && fits (xs.length * k.toNat) then some (.lst (List.replicate k.toNat xs).flatten) else none
  | none => none
def mulD (S : Sto) (d e : D) : Option D := match d, e with
  | .int i, .int j => if cMul i j = true then some (.int (i * j)) else none
  | .tup xs, .int k => if !xs.isEmpty && decide (2 ≤ k) && decide (k ≤ 1000) && decide (xs.length ≤ 1000) then some (.tp (List.replicate k.toNat xs).flatten) else none
  | d, .int k => repL S d k
  | _, _ => none
def mMul (d e : D) : M D := opt fun S => mulD S d e
theorem Rels.rep {fa : List Addr} {H : Hp} {ds : List D} {vs : List V} (r : Rels c fa H ds vs) : ∀ k : Nat, Rels c fa H (List.replicate k ds).flatten (List.replicate k vs).flatten
  | 0 => by simpa using Rels.nil
  | k + 1 => by
    simp only [List.replicate_succ, List.flatten_cons]
    exact r.append (Rels.rep r k)
theorem op_mMul (hK : c.K = X.K) : OpR X (binaryOp .Mult) (r2 c mMul) := by
  refine OpR.imp (OpR.or op_mul (OpR.or op_repT op_rep)) ?_
  rintro x y H Q ⟨fa, S, d, e, ok, h1, h2, en⟩
  obtain ⟨z, hz, q⟩ := en.opt
  unfold mulD at hz
  split at hz
  · split at hz
    · rename_i i j hc
      cases hz
      refine .inl ⟨i, j, h1.int, h2.int, ?_, q fa _ H .refl ok (.mkI _)⟩
      simp only [cMul, Bool.or_eq_true, Bool.and_eq_true, decide_eq_true_eq] at hc
      exact hc
    · cases hz
  · split at hz
    · rename_i xs k hc
      cases hz
      obtain ⟨a, vs, rfl, s1, r1⟩ := h1.sqt rfl
      rw [hK] at s1
      simp only [Bool.and_eq_true, decide_eq_true_eq, Bool.not_eq_true', List.isEmpty_eq_false_iff] at hc
      have hl := r1.length
      refine .inr (.inl ⟨a, k, vs, rfl, h2.int, s1, ?_, hc.1.1.2, hc.1.2, by omega, fun p hp => q fa _ _ (.fresh ok hp) (ok.fresh hp) (Rel.newP ok hp (r1.rep _))⟩)
      intro e; subst e
      exact hc.1.1.1 (List.eq_nil_of_length_eq_zero hl)
    · cases hz
  · rename_i k _ _
    unfold repL at hz
    split at hz
    · rename_i xs e1
      split at hz
      · rename_i hc
        cases hz
        obtain ⟨a, vs, rfl, g1, r1⟩ := h1.lown ok e1
        simp only [Bool.and_eq_true, decide_eq_true_eq] at hc
        have hl := fits_iff.mp hc.2
        rw [r1.length] at hl
        exact .inr (.inr ⟨a, k, vs, rfl, h2.int, g1, hc.1.1, hc.1.2, hl, fun p hp => q fa _ _ (.fresh ok hp) (ok.fresh hp) (Rel.newL ok hp (r1.rep _))⟩)
      · cases hz
    · cases hz
  · cases hz
def mNeg (d : D) : M D := opt fun _ => match d with | .int i => some (.int (-i)) | _ => none
def mInv (d : D) : M D := opt fun _ => match d with | .int i => some (.int (Builtin.bitNot i)) | _ => none
theorem un_mNeg : UnR X (unaryOp .USub) (r1 c mNeg) := by
  rintro pins s σ H x v Q I rx ⟨fa, S, d, ok, h1, en⟩
  obtain ⟨z, hz, q⟩ := en.opt
  refine un_neg pins s σ H x v Q I rx ?_
  split at hz
  · cases hz; exact ⟨_, h1.int, q fa _ H .refl ok (.mkI _)⟩
  · cases hz
theorem un_mInv : UnR X (unaryOp .Invert) (r1 c mInv) := by
  rintro pins s σ H x v Q I rx ⟨fa, S, d, ok, h1, en⟩
  obtain ⟨z, hz, q⟩ := en.opt
  refine un_inv pins s σ H x v Q I rx ?_
  split at hz
  · cases hz; exact ⟨_, h1.int, q fa _ H .refl ok (.mkI _)⟩
  · cases hz
/-! ### order -/
def strLt (x y : Str) : Bool := decide (x.cps.toList < y.cps.toList)
def ordD (gi : Int → Int → Bool) (gs : Str → Str → Bool) (d e : D) : Option D := match d, e with
  | .int i, .int j => some (.bl (gi i j))
  | .str x, .str y => some (.bl (gs x y))
  | _, _ => none
theorem op_ord {f : Value → Value → Sem Value} {gi : Int → Int → Bool} {gs : Str → Str → Bool} (hi : OpR X f (rI0 fun i j => .bl (gi i j))) (hs : OpR X f (fun x y H Q => ∃ i j, x = .str i ∧ y = .str j ∧ Q (.bl (gs i j)) H)) :
    OpR X f (r2 c fun d e => opt fun _ => ordD gi gs d e) := by
  refine OpR.imp (OpR.or hi hs) ?_
  rintro x y H Q ⟨fa, S, d, e, ok, h1, h2, en⟩
  obtain ⟨z, hz, q⟩ := en.opt
  unfold ordD at hz
  split at hz
  · cases hz; exact .inl ⟨_, _, h1.int, h2.int, q fa _ H .refl ok (.mkB _)⟩
  · cases hz; exact .inr ⟨_, _, h1.str, h2.str, q fa _ H .refl ok (.mkB _)⟩
  · cases hz
def mLt (d e : D) : M D := opt fun _ => ordD (fun i j => decide (i < j)) strLt d e
def mLe (d e : D) : M D := opt fun _ => ordD (fun i j => decide (i ≤ j)) (fun x y => !strLt y x) d e
def mGt (d e : D) : M D := opt fun _ => ordD (fun i j => decide (j < i)) (fun x y => strLt y x) d e
def mGe (d e : D) : M D := opt fun _ => ordD (fun i j => decide (j ≤ i)) (fun x y => !strLt x y) d e
theorem op_mLt : OpR X (compareOp .Lt) (r2 c mLt) := op_ord op_lt op_lt_str
theorem op_mLe : OpR X (compareOp .LtE) (r2 c mLe) := op_ord op_le op_le_str
theorem op_mGt : OpR X (compareOp .Gt) (r2 c mGt) := op_ord op_gt op_gt_str
theorem op_mGe : OpR X (compareOp .GtE) (r2 c mGe) := op_ord op_ge op_ge_str
/-! ### is -/
def isD (d e : D) : Option Bool := match d, e with
  | .bl a, .bl b => some (decide (a = b))
  | .non, .non => some true
  | _, .non => some false
  | _, _ => none
theorem Rel.non_iff {fa : List Addr} {H : Hp} {d : D} {v : V} (h : Rel c fa H d v) (n : d ≠ .non) : v ≠ .non := by
  rintro rfl
  cases d with
  | non => exact n rfl
  | _ =>
    simp only [Rel] at h
    first
      | (cases h; done)
      | (obtain ⟨a, vs, e, _⟩ := h; cases e; done)
      | (obtain ⟨a, e, h⟩ := h; cases h; done)
      | (obtain ⟨a, C, dx, vs, e, _⟩ := h; cases e; done)
theorem isD_none (d : D) : isD d .non = some (match d with | .non => true | _ => false) := by cases d <;> rfl
def mIs (d e : D) : M D := opt fun _ => (isD d e).map .bl
def mIsNot (d e : D) : M D := opt fun _ => (isD d e).map fun b => .bl !b
theorem is_cases {fa : List Addr} {H : Hp} {d e : D} {b : Bool} {x y : V} (h1 : Rel c fa H d x) (h2 : Rel c fa H e y) (h : isD d e = some b) : (∃ p q : Bool, x = .bl p ∧ y = .bl q ∧ b = decide (p = q)) ∨ (y = .non ∧ b = decide (x = .non)) := by
  unfold isD at h
  split at h
  · cases h; exact .inl ⟨_, _, h1.bl, h2.bl, rfl⟩
  · cases h; exact .inr ⟨h2.non, by rw [h1.non]; rfl⟩
  · rename_i d' hn _
    cases h
    refine .inr ⟨h2.non, ?_⟩
    have := h1.non_iff (by rintro rfl; first | exact hn rfl | exact hn rfl rfl | contradiction)
    simp [this]
  · cases h
theorem op_mIs : OpR X (compareOp .Is) (r2 c mIs) := by
  refine OpR.imp (OpR.or op_isN op_isBl) ?_
  rintro x y H Q ⟨fa, S, d, e, ok, h1, h2, en⟩
  obtain ⟨z, hz, q⟩ := en.opt
  cases e1 : isD d e with
  | none => rw [e1] at hz; cases hz
  | some b =>
    rw [e1] at hz
    cases hz
    rcases is_cases h1 h2 e1 with ⟨p, r, rfl, rfl, rfl⟩ | ⟨rfl, rfl⟩
    · exact .inr ⟨p, r, rfl, rfl, q fa _ H .refl ok (.mkB _)⟩
    · exact .inl ⟨rfl, q fa _ H .refl ok (.mkB _)⟩
theorem op_mIsNot : OpR X (compareOp .IsNot) (r2 c mIsNot) := by
  refine OpR.imp (OpR.or op_notN op_notBl) ?_
  rintro x y H Q ⟨fa, S, d, e, ok, h1, h2, en⟩
  obtain ⟨z, hz, q⟩ := en.opt
  cases e1 : isD d e with
  | none => rw [e1] at hz; cases hz
  | some b =>
    rw [e1] at hz
    cases hz
    rcases is_cases h1 h2 e1 with ⟨p, r, rfl, rfl, rfl⟩ | ⟨rfl, rfl⟩
    · exact .inr ⟨p, r, rfl, rfl, q fa _ H .refl ok (.mkB _)⟩
    · exact .inl ⟨rfl, q fa _ H .refl ok (.mkB _)⟩
/-! ### == over data -/
mutual
def toPy : D → Option PyData
  | .non => some .none
  | .bl b => some (.bool b)
  | .int i => some (.int i)
  | .str x => some (.str x)
  | .tup ds => (toPys ds).map .tuple
  | .tp ds => (toPys ds).map .tuple
  | .kt ds => (toPys ds).map .tuple
  | .lst ds => (toPys ds).map .list
  | .fz ds => (toPys ds).map .list
  | _ => none
def toPys : List D → Option (List PyData)
  | [] => some []
  | d :: ds => match toPy d, toPys ds with
    | some p, some ps => some (p :: ps)
    | _, _ => none
end
mutual
theorem Rel.dp {fa : List Addr} {H : Hp} : ∀ (d : D) (v : V) (p : PyData), Rel c fa H d v → toPy d = some p → Dp c.K H v p
  | .non, v, p, h, e => by cases h.non; simp only [toPy] at e; cases e; exact .non
  | .bl b, v, p, h, e => by cases h.bl; simp only [toPy] at e; cases e; exact .bl b
  | .int i, v, p, h, e => by cases h.int; simp only [toPy] at e; cases e; exact .int i
  | .str x, v, p, h, e => by cases h.str; simp only [toPy] at e; cases e; exact .str x
  | .tup ds, v, p, h, e => by
    obtain ⟨a, vs, rfl, s, r⟩ := h.sqt rfl
    simp only [toPy] at e
    obtain ⟨ps, e1, rfl⟩ := Option.map_eq_some_iff.mp e
    exact .tup s (Rels.dp ds vs ps r e1)
  | .tp ds, v, p, h, e => by
    obtain ⟨a, vs, rfl, s, r⟩ := h.sqt rfl
    simp only [toPy] at e
    obtain ⟨ps, e1, rfl⟩ := Option.map_eq_some_iff.mp e
    exact .tup s (Rels.dp ds vs ps r e1)
  | .kt ds, v, p, h, e => by
    obtain ⟨a, vs, rfl, s, r⟩ := h.sqt rfl
    simp only [toPy] at e
    obtain ⟨ps, e1, rfl⟩ := Option.map_eq_some_iff.mp e
    exact .tup s (Rels.dp ds vs ps r e1)
  | .lst ds, v, p, h, e => by
    simp only [Rel] at h
    obtain ⟨a, vs, rfl, s, r⟩ := h
    simp only [toPy] at e
    obtain ⟨ps, e1, rfl⟩ := Option.map_eq_some_iff.mp e
    exact .lst (.inl (.inl s.2)) (Rels.dp ds vs ps r e1)
  | .fz ds, v, p, h, e => by
    simp only [Rel] at h
    obtain ⟨a, vs, rfl, s, r⟩ := h
    simp only [toPy] at e
    obtain ⟨ps, e1, rfl⟩ := Option.map_eq_some_iff.mp e
    refine .lst ?_ (Rels.dp ds vs ps r e1)
    rcases s with s | s
    · exact .inl s.2
    · exact .inr s
  | .dK _ _, v, p, h, e => by simp only [toPy] at e; cases e
  | .dT _ _, v, p, h, e => by simp only [toPy] at e; cases e
  | .ins _ _ _, v, p, h, e => by simp only [toPy] at e; cases e
  | .ref _, v, p, h, e => by simp only [toPy] at e; cases e
theorem Rels.dp {fa : List Addr} {H : Hp} : ∀ (ds : List D) (vs : List V) (ps : List PyData), Rels c fa H ds vs → toPys ds = some ps → DpAll c.K H vs ps
  | [], vs, ps, h, e => by
    cases Rels.nil_iff.mp h
    simp only [toPys] at e; cases e
    exact .nil
  | d :: ds, vs, ps, h, e => by
    obtain ⟨v, r, rfl, h1, h2⟩ := Rels.cons_iff.mp h
    simp only [toPys] at e
    cases e1 : toPy d with
    | none => rw [e1] at e; cases e
    | some p =>
      cases e2 : toPys ds with
      | none => rw [e1, e2] at e; cases e
      | some qs =>
        rw [e1, e2] at e; cases e
        exact .cons (Rel.dp d v p h1 e1) (Rels.dp ds r qs h2 e2)
end
/-- what stands at a place of the store, as data -/
def top (S : Sto) : D → D
  | .ref n => (S[n]?).getD (.ref n)
  | d => d
def pyOf (S : Sto) (d : D) : Option PyData := match toPy (top S d) with
  | some p => if SeqAt.shaped p = true then some p else none
  | none => none
theorem Rel.pdp {fa : List Addr} {S : Sto} {H : Hp} (ok : StOk c fa S H) {d : D} {v : V} {p : PyData} (h : Rel c fa H d v) (e : pyOf S d = some p) : Dp c.K H v p ∧ SeqAt.shaped p = true := by
  unfold pyOf at e
  cases e1 : toPy (top S d) with
  | none => rw [e1] at e; cases e
  | some p' =>
    rw [e1] at e
    by_cases hs : SeqAt.shaped p' = true
    · simp only [hs, if_true] at e
      cases e
      refine ⟨?_, hs⟩
      cases d with
      | ref n =>
        simp only [Rel] at h
        obtain ⟨a, ha, rfl⟩ := h
        change toPy ((S[n]?).getD (.ref n)) = some _ at e1
        cases q : S[n]? with
        | none => rw [q] at e1; simp only [Option.getD_none, toPy] at e1; cases e1
        | some o =>
          rw [q] at e1
          simp only [Option.getD_some] at e1
          obtain ⟨u, hu, r⟩ := ok.obj n a o ha q
          cases o with
          | lst es =>
            obtain ⟨vs, rfl, r⟩ := r
            simp only [toPy] at e1
            obtain ⟨ps, e2, rfl⟩ := Option.map_eq_some_iff.mp e1
            exact .lst (.inl (.inl hu)) (r.dp _ _ _ e2)
          | dK _ _ => simp only [toPy] at e1; cases e1
          | dT _ _ => simp only [toPy] at e1; cases e1
          | ins _ _ _ => simp only [toPy] at e1; cases e1
          | _ => exact r.elim
      | _ => exact h.dp _ _ _ e1
    · simp only [hs] at e; cases e
def eqD (S : Sto) (d e : D) : Option Bool := match d, e with
  | .int i, .int j => some (i == j)
  | .str x, .str y => some (x == y)
  | .bl x, .bl y => some (x == y)
  | d, e => match pyOf S d, pyOf S e with
    | some p, some q => some (PyData.eqv p q)
    | _, _ => none
def mEq (d e : D) : M D := opt fun S => (eqD S d e).map .bl
def mNe (d e : D) : M D := opt fun S => (eqD S d e).map fun b => .bl !b
theorem eq_dp {fa : List Addr} {S : Sto} {H : Hp} (hK : c.K = X.K) (ok : StOk c fa S H) {d e : D} {b : Bool} {x y : V} (h1 : Rel c fa H d x) (h2 : Rel c fa H e y) (h : eqD S d e = some b) :
    ∃ p q, Dp X.K H x p ∧ Dp X.K H y q ∧ SeqAt.shaped p = true ∧ SeqAt.shaped q = true ∧ PyData.eqv p q = b ∨ (scal x y = true ∧ decide (x = y) = b) := by
  unfold eqD at h
  split at h
  · cases h; rw [h1.int, h2.int]; exact ⟨.none, .none, .inr ⟨rfl, dec_int⟩⟩
  · cases h; rw [h1.str, h2.str]; exact ⟨.none, .none, .inr ⟨rfl, dec_str⟩⟩
  · cases h; rw [h1.bl, h2.bl]; exact ⟨.none, .none, .inr ⟨rfl, dec_bl⟩⟩
  · cases e1 : pyOf S d with
    | none => rw [e1] at h; cases h
    | some p =>
      cases e2 : pyOf S e with
      | none => rw [e1, e2] at h; cases h
      | some q =>
        rw [e1, e2] at h; cases h
        obtain ⟨g1, g2⟩ := h1.pdp ok e1
        obtain ⟨g3, g4⟩ := h2.pdp ok e2
        rw [hK] at g1 g3
        exact ⟨p, q, .inl ⟨g1, g3, g2, g4, rfl⟩⟩
theorem op_mEq (hK : c.K = X.K) (hu : X.A.units + 64 < cLine) : OpR X (compareOp .Eq) (r2 c mEq) := by
  refine OpR.imp (OpR.or (op_eqD hu) op_eq) ?_
  rintro x y H Q ⟨fa, S, d, e, ok, h1, h2, en⟩
  obtain ⟨z, hz, q⟩ := en.opt
  cases e1 : eqD S d e with
  | none => rw [e1] at hz; cases hz
  | some b =>
    rw [e1] at hz; cases hz
    obtain ⟨p, r, ⟨g1, g2, g3, g4, g5⟩ | ⟨g1, g2⟩⟩ := eq_dp hK ok h1 h2 e1
    · exact .inl ⟨p, r, g1, g2, g3, g4, by rw [g5]; exact q fa _ H .refl ok (.mkB _)⟩
    · exact .inr ⟨g1, by rw [g2]; exact q fa _ H .refl ok (.mkB _)⟩
theorem op_mNe (hK : c.K = X.K) (hu : X.A.units + 64 < cLine) : OpR X (compareOp .NotEq) (r2 c mNe) := by
  refine OpR.imp (OpR.or (op_neD hu) op_ne) ?_
  rintro x y H Q ⟨fa, S, d, e, ok, h1, h2, en⟩
  obtain ⟨z, hz, q⟩ := en.opt
  cases e1 : eqD S d e with
  | none => rw [e1] at hz; cases hz
  | some b =>
    rw [e1] at hz; cases hz
    obtain ⟨p, r, ⟨g1, g2, g3, g4, g5⟩ | ⟨g1, g2⟩⟩ := eq_dp hK ok h1 h2 e1
    · exact .inl ⟨p, r, g1, g2, g3, g4, by rw [g5]; exact q fa _ H .refl ok (.mkB _)⟩
    · exact .inr ⟨g1, by rw [g2]; exact q fa _ H .refl ok (.mkB _)⟩
/-! ### in -/
def flatD : D → Option V
  | .non => some .non
  | .bl b => some (.bl b)
  | .int i => some (.int i)
  | .str x => some (.str x)
  | _ => none
def flatDs : List D → Option (List V)
  | [] => some []
  | d :: ds => match flatD d, flatDs ds with
    | some v, some vs => some (v :: vs)
    | _, _ => none
theorem Rel.flat {fa : List Addr} {H : Hp} {d : D} {v w : V} (h : Rel c fa H d v) (e : flatD d = some w) : v = w ∧ flatV w = true := by
  cases d with
  | non => cases e; exact ⟨h.non, rfl⟩
  | bl b => cases e; exact ⟨h.bl, rfl⟩
  | int b => cases e; exact ⟨h.int, rfl⟩
  | str b => cases e; exact ⟨h.str, rfl⟩
  | _ => cases e
theorem Rels.flat {fa : List Addr} {H : Hp} : ∀ {ds : List D} {vs ws : List V}, Rels c fa H ds vs → flatDs ds = some ws → vs = ws ∧ ws.all flatV = true
  | [], vs, ws, h, e => by cases e; exact ⟨Rels.nil_iff.mp h, rfl⟩
  | d :: ds, vs, ws, h, e => by
    obtain ⟨v, r, rfl, h1, h2⟩ := Rels.cons_iff.mp h
    unfold flatDs at e
    cases e1 : flatD d with
    | none => rw [e1] at e; cases e
    | some p =>
      cases e2 : flatDs ds with
      | none => rw [e1, e2] at e; cases e
      | some qs =>
        rw [e1, e2] at e; cases e
        obtain ⟨g1, g2⟩ := h1.flat e1
        obtain ⟨g3, g4⟩ := h2.flat e2
        subst g1; subst g3
        exact ⟨rfl, by simp [g2, g4]⟩
/-- x in s, s a text -/
def inStr (x y : Str) : Bool := !(Builtin.Str.occurrences y x 0 y.length 1).isEmpty
def inD (S : Sto) (d e : D) : Option Bool := match d, e with
  | .str x, .str y => some (match x.cps.toList with
    | [k] => decide (k ∈ y.cps.toList)
    | _ => inStr x y)
  | d, e => match seqOf S e with
    | some ds => (match flatD d, flatDs ds with
      | some v, some vs => some (inV v vs)
      | _, _ => none)
    | none => none
def mIn (d e : D) : M D := opt fun S => (inD S d e).map .bl
def mNotIn (d e : D) : M D := opt fun S => (inD S d e).map fun b => .bl !b
theorem in_cases {fa : List Addr} {S : Sto} {H : Hp} (ok : StOk c fa S H) {d e : D} {b : Bool} {x y : V} (h1 : Rel c fa H d x) (h2 : Rel c fa H e y) (h : inD S d e = some b) :
    (∃ (k : Nat) (z : Str), x = .str ⟨#[k]⟩ ∧ y = .str z ∧ b = decide (k ∈ z.cps.toList)) ∨ (∃ i j, x = .str i ∧ y = .str j ∧ b = inStr i j) ∨
      ∃ p xs, y = .ref p ∧ (SqL c.K H p xs ∨ SqT c.K H p xs) ∧ flatV x = true ∧ xs.all flatV = true ∧ b = inV x xs := by
  unfold inD at h
  split at h
  · rename_i x' y'
    cases h
    split
    · rename_i k e1
      refine .inl ⟨k, y', ?_, h2.str, rfl⟩
      rw [h1.str]
      obtain ⟨⟨l⟩⟩ := x'
      simp only at e1
      subst e1
      rfl
    · exact .inr (.inl ⟨_, _, h1.str, h2.str, rfl⟩)
  · split at h
    · rename_i ds e1
      split at h
      · rename_i v vs e2 e3
        cases h
        obtain ⟨a, ws, rfl, s, r⟩ := h2.sq ok e1
        obtain ⟨rfl, g2⟩ := h1.flat e2
        obtain ⟨rfl, g4⟩ := r.flat e3
        exact .inr (.inr ⟨a, _, rfl, s, g2, g4, rfl⟩)
      · cases h
    · cases h
theorem op_mIn (hK : c.K = X.K) : OpR X (compareOp .In) (r2 c mIn) := by
  refine OpR.imp (OpR.or op_in_sign (OpR.or op_in_str op_in_seq)) ?_
  rintro x y H Q ⟨fa, S, d, e, ok, h1, h2, en⟩
  obtain ⟨z, hz, q⟩ := en.opt
  cases e1 : inD S d e with
  | none => rw [e1] at hz; cases hz
  | some b =>
    rw [e1] at hz; cases hz
    rcases in_cases ok h1 h2 e1 with ⟨k, z, g1, g2, rfl⟩ | ⟨i, j, g1, g2, rfl⟩ | ⟨p, xs, g1, g2, g3, g4, rfl⟩
    · exact .inl ⟨k, z, g1, g2, q fa _ H .refl ok (.mkB _)⟩
    · exact .inr (.inl ⟨i, j, g1, g2, q fa _ H .refl ok (.mkB _)⟩)
    · rw [hK] at g2
      exact .inr (.inr ⟨p, xs, g1, g2, g3, g4, q fa _ H .refl ok (.mkB _)⟩)
theorem op_mNotIn (hK : c.K = X.K) : OpR X (compareOp .NotIn) (r2 c mNotIn) := by
  refine OpR.imp (OpR.or op_notIn_sign (OpR.or op_notin_str op_notIn_seq)) ?_
  rintro x y H Q ⟨fa, S, d, e, ok, h1, h2, en⟩
  obtain ⟨z, hz, q⟩ := en.opt
  cases e1 : inD S d e with
  | none => rw [e1] at hz; cases hz
  | some b =>
    rw [e1] at hz; cases hz
    rcases in_cases ok h1 h2 e1 with ⟨k, z, g1, g2, rfl⟩ | ⟨i, j, g1, g2, rfl⟩ | ⟨p, xs, g1, g2, g3, g4, rfl⟩
    · exact .inl ⟨k, z, g1, g2, q fa _ H .refl ok (.mkB _)⟩
    · exact .inr (.inl ⟨i, j, g1, g2, q fa _ H .refl ok (.mkB _)⟩)
    · rw [hK] at g2
      exact .inr (.inr ⟨p, xs, g1, g2, g3, g4, q fa _ H .refl ok (.mkB _)⟩)
/-! ### truth -/
def truD (S : Sto) (d : D) : Option Bool := match d with
  | .non => some false
  | .bl b => some b
  | .int i => some (i != 0)
  | .str x => if fits x.length = true then some ((x.length : Int) != 0) else none
  | d => (seqOf S d).map fun ds => !ds.isEmpty
def mTru (d : D) : M Bool := opt fun S => truD S d
theorem tru_m (hK : c.K = X.K) : TruR X (rt c mTru) := by
  rintro pins s σ H x v Q I rx ⟨fa, S, d, ok, h1, en⟩
  obtain ⟨z, hz, q⟩ := en.opt
  refine tru_ok pins s σ H x v Q I rx ⟨z, ?_, q fa z H .refl ok rfl⟩
  unfold truD at hz
  split at hz
  · cases hz; rw [h1.non]; rfl
  · cases hz; rw [h1.bl]; rfl
  · cases hz; rw [h1.int]; rfl
  · split at hz
    · rename_i hf
      cases hz; rw [h1.str]; exact ⟨fits_iff.mp hf, rfl⟩
    · cases hz
  · obtain ⟨ds, e1, rfl⟩ := Option.map_eq_some_iff.mp hz
    obtain ⟨a, vs, rfl, g, r⟩ := h1.sq ok e1
    have hl := r.length
    have he : (!ds.isEmpty) = !vs.isEmpty := by cases ds <;> cases vs <;> simp_all
    rw [he]
    rw [hK] at g
    rcases g with g | g
    · exact .inl ⟨vs, g, rfl⟩
    · exact .inr (.inl ⟨vs, g, rfl⟩)
end
end CR

/-! CrC2: built-in functions, places, slices by values. -/
namespace CR
open PySem PySem.Spec PyProof.Rows L2
section
variable {X : Cx} {c : Kx}
theorem CallR.imp {f : Value} {r r' : List V → Hp → VK → Prop} (h : CallR X f r) (i : ∀ xs H Q, r' xs H Q → r xs H Q) : CallR X f r' := fun pins s σ H xs us Q I rv q => h pins s σ H xs us Q I rv (i xs H Q q)
theorem CallR.or {f : Value} {r r' : List V → Hp → VK → Prop} (h : CallR X f r) (h' : CallR X f r') : CallR X f (fun xs H Q => r xs H Q ∨ r' xs H Q) := fun pins s σ H xs us Q I rv q => by
  rcases q with q | q
  · exact h pins s σ H xs us Q I rv q
  · exact h' pins s σ H xs us Q I rv q
theorem Rels.one {fa : List Addr} {H : Hp} {d : D} {vs : List V} (h : Rels c fa H [d] vs) : ∃ v, vs = [v] ∧ Rel c fa H d v := by
  obtain ⟨v, r, rfl, h1, h2⟩ := Rels.cons_iff.mp h
  rw [Rels.nil_iff.mp h2]
  exact ⟨v, rfl, h1⟩
theorem Rels.two {fa : List Addr} {H : Hp} {d e : D} {vs : List V} (h : Rels c fa H [d, e] vs) : ∃ v w, vs = [v, w] ∧ Rel c fa H d v ∧ Rel c fa H e w := by
  obtain ⟨v, r, rfl, h1, h2⟩ := Rels.cons_iff.mp h
  obtain ⟨w, rfl, h3⟩ := h2.one
  exact ⟨v, w, rfl, h1, h3⟩
/-! ### a call of one look -/
def opt1 (f : Sto → D → Option D) (ds : List D) : M D := opt fun S => match ds with
  | [d] => f S d
  | _ => none
def opt2 (f : Sto → D → D → Option D) (ds : List D) : M D := opt fun S => match ds with
  | [d, e] => f S d e
  | _ => none
theorem rn_opt1 {f : Sto → D → Option D} {xs : List V} {H : Hp} {Q : VK} (h : rn c (opt1 f) xs H Q) : ∃ fa S d v z, StOk c fa S H ∧ xs = [v] ∧ Rel c fa H d v ∧ f S d = some z ∧ ∀ fa' b H', Step fa H fa' H' → StOk c fa' S H' → Rel c fa' H' z b → Q b H' := by
  obtain ⟨fa, S, ds, ok, r, en⟩ := h
  obtain ⟨z, hz, q⟩ := en.opt
  match ds, hz, r with
  | [d], hz, r =>
    obtain ⟨v, rfl, h1⟩ := r.one
    exact ⟨fa, S, d, v, z, ok, rfl, h1, hz, q⟩
theorem rn_opt2 {f : Sto → D → D → Option D} {xs : List V} {H : Hp} {Q : VK} (h : rn c (opt2 f) xs H Q) : ∃ fa S d e v w z, StOk c fa S H ∧ xs = [v, w] ∧ Rel c fa H d v ∧ Rel c fa H e w ∧ f S d e = some z ∧ ∀ fa' b H', Step fa H fa' H' → StOk c fa' S H' → Rel c fa' H' z b → Q b H' := by
  obtain ⟨fa, S, ds, ok, r, en⟩ := h
  obtain ⟨z, hz, q⟩ := en.opt
  match ds, hz, r with
  | [d, e], hz, r =>
    obtain ⟨v, w, rfl, h1, h2⟩ := r.two
    exact ⟨fa, S, d, e, v, w, z, ok, rfl, h1, h2, hz, q⟩
/-! ### len -/
def lenD (S : Sto) (d : D) : Option D := match d with
  | .str x => if fits x.length = true then some (.int x.length) else none
  | d => (seqOf S d).map fun ds => .int ds.length
def mLen : List D → M D := opt1 lenD
theorem cr_mLen (hK : c.K = X.K) : CallR X (.builtin "len") (rn c mLen) := by
  refine CallR.imp call_len fun xs H Q h => ?_
  obtain ⟨fa, S, d, v, z, ok, rfl, h1, hz, q⟩ := rn_opt1 h
  unfold lenD at hz
  split at hz
  · split at hz
    · rename_i x hf
      cases hz
      refine ⟨_, x.length, rfl, ?_, q fa _ H .refl ok (.mkI _)⟩
      rw [h1.str]
      exact ⟨fits_iff.mp hf, rfl⟩
    · cases hz
  · obtain ⟨ds, e1, rfl⟩ := Option.map_eq_some_iff.mp hz
    obtain ⟨a, vs, rfl, g, r⟩ := h1.sq ok e1
    rw [hK] at g
    refine ⟨_, ds.length, rfl, ?_, q fa _ H .refl ok (.mkI _)⟩
    rw [r.length]
    rcases g with g | g
    · exact .inl ⟨vs, g, rfl⟩
    · exact .inr ⟨vs, g, rfl⟩
/-! ### abs, min, max of two, int, str -/
def mAbs : List D → M D := opt1 fun _ d => match d with | .int i => some (.int (if i < 0 then -i else i)) | _ => none
theorem cr_mAbs : CallR X (.builtin "abs") (rn c mAbs) := by
  refine CallR.imp call_abs fun xs H Q h => ?_
  obtain ⟨fa, S, d, v, z, ok, rfl, h1, hz, q⟩ := rn_opt1 h
  split at hz
  · cases hz; rw [h1.int]; exact ⟨_, rfl, q fa _ H .refl ok (.mkI _)⟩
  · cases hz
def min2D (_ : Sto) (d e : D) : Option D := match d, e with | .int i, .int j => some (.int (if j < i then j else i)) | _, _ => none
def max2D (_ : Sto) (d e : D) : Option D := match d, e with | .int i, .int j => some (.int (if j > i then j else i)) | _, _ => none
theorem cr_min2D (hc : X.calm = true) : CallR X (.builtin "min") (rn c (opt2 min2D)) := by
  refine CallR.imp (call_min2 hc) fun xs H Q h => ?_
  obtain ⟨fa, S, d, e, v, w, z, ok, rfl, h1, h2, hz, q⟩ := rn_opt2 h
  unfold min2D at hz
  split at hz
  · cases hz; rw [h1.int, h2.int]; exact ⟨_, _, rfl, q fa _ H .refl ok (.mkI _)⟩
  · cases hz
theorem cr_max2D (hc : X.calm = true) : CallR X (.builtin "max") (rn c (opt2 max2D)) := by
  refine CallR.imp (call_max2 hc) fun xs H Q h => ?_
  obtain ⟨fa, S, d, e, v, w, z, ok, rfl, h1, h2, hz, q⟩ := rn_opt2 h
  unfold max2D at hz
  split at hz
  · cases hz; rw [h1.int, h2.int]; exact ⟨_, _, rfl, q fa _ H .refl ok (.mkI _)⟩
  · cases hz
/-! ### lists of whole numbers, of truths, of texts -/
def intsOf : List D → Option (List Int)
  | [] => some []
  | .int i :: ds => (intsOf ds).map (i :: ·)
  | _ => none
def blsOf : List D → Option (List Bool)
  | [] => some []
  | .bl i :: ds => (blsOf ds).map (i :: ·)
  | _ => none
def strsOf : List D → Option (List Str)
  | [] => some []
  | .str i :: ds => (strsOf ds).map (i :: ·)
  | _ => none
theorem Rels.ints {fa : List Addr} {H : Hp} : ∀ {ds : List D} {vs : List V} {ns : List Int}, Rels c fa H ds vs → intsOf ds = some ns → vs = ns.map V.int
  | [], vs, ns, h, e => by cases e; rw [Rels.nil_iff.mp h]; rfl
  | d :: ds, vs, ns, h, e => by
    obtain ⟨v, r, rfl, h1, h2⟩ := Rels.cons_iff.mp h
    cases d with
    | int i =>
      obtain ⟨ms, e1, rfl⟩ := Option.map_eq_some_iff.mp (show (intsOf ds).map (i :: ·) = some ns from e)
      rw [h1.int, Rels.ints h2 e1]; rfl
    | _ => cases e
theorem Rels.bls {fa : List Addr} {H : Hp} : ∀ {ds : List D} {vs : List V} {ns : List Bool}, Rels c fa H ds vs → blsOf ds = some ns → vs = ns.map V.bl
  | [], vs, ns, h, e => by cases e; rw [Rels.nil_iff.mp h]; rfl
  | d :: ds, vs, ns, h, e => by
    obtain ⟨v, r, rfl, h1, h2⟩ := Rels.cons_iff.mp h
    cases d with
    | bl i =>
      obtain ⟨ms, e1, rfl⟩ := Option.map_eq_some_iff.mp (show (blsOf ds).map (i :: ·) = some ns from e)
      rw [h1.bl, Rels.bls h2 e1]; rfl
    | _ => cases e
theorem Rels.strs {fa : List Addr} {H : Hp} : ∀ {ds : List D} {vs : List V} {ns : List Str}, Rels c fa H ds vs → strsOf ds = some ns → vs = ns.map V.str
  | [], vs, ns, h, e => by cases e; rw [Rels.nil_iff.mp h]; rfl
  | d :: ds, vs, ns, h, e => by
    obtain ⟨v, r, rfl, h1, h2⟩ := Rels.cons_iff.mp h
    cases d with
    | str i =>
      obtain ⟨ms, e1, rfl⟩ := Option.map_eq_some_iff.mp (show (strsOf ds).map (i :: ·) = some ns from e)
      rw [h1.str, Rels.strs h2 e1]; rfl
    | _ => cases e
theorem Rels.mkInts {fa : List Addr} {H : Hp} : ∀ ns : List Int, Rels c fa H (ns.map D.int) (ns.map V.int)
  | [] => .nil
  | n :: ns => .cons (.mkI n) (Rels.mkInts ns)
theorem Rels.mkStrs {fa : List Addr} {H : Hp} : ∀ ns : List Str, Rels c fa H (ns.map D.str) (ns.map V.str)
  | [] => .nil
  | n :: ns => .cons (.mkS n) (Rels.mkStrs ns)
def mAll : List D → M D := opt1 fun S d => ((listOf S d).bind blsOf).map fun bs => .bl (bs.all id)
def mAny : List D → M D := opt1 fun S d => ((listOf S d).bind blsOf).map fun bs => .bl (bs.any id)
def mSum : List D → M D := opt1 fun S d => ((listOf S d).bind intsOf).map fun bs => .int bs.sum
theorem bind_some {α β : Type} {o : Option α} {f : α → Option β} {b : β} (h : o.bind f = some b) : ∃ a, o = some a ∧ f a = some b := by cases o with | none => cases h | some a => exact ⟨a, rfl, h⟩
theorem cr_mAll (hK : c.K = X.K) (hc : X.calm = true) : CallR X (.builtin "all") (rn c mAll) := by
  refine CallR.imp (cr_all hc) fun xs H Q h => ?_
  obtain ⟨fa, S, d, v, z, ok, rfl, h1, hz, q⟩ := rn_opt1 h
  obtain ⟨bs, e1, rfl⟩ := Option.map_eq_some_iff.mp hz
  obtain ⟨ds, e2, e3⟩ := bind_some e1
  obtain ⟨a, vs, rfl, g, r⟩ := h1.sql ok e2
  rw [r.bls e3, hK] at g
  exact ⟨a, bs, rfl, g, q fa _ H .refl ok (.mkB _)⟩
theorem cr_mAny (hK : c.K = X.K) (hc : X.calm = true) : CallR X (.builtin "any") (rn c mAny) := by
  refine CallR.imp (cr_any hc) fun xs H Q h => ?_
  obtain ⟨fa, S, d, v, z, ok, rfl, h1, hz, q⟩ := rn_opt1 h
  obtain ⟨bs, e1, rfl⟩ := Option.map_eq_some_iff.mp hz
  obtain ⟨ds, e2, e3⟩ := bind_some e1
  obtain ⟨a, vs, rfl, g, r⟩ := h1.sql ok e2
  rw [r.bls e3, hK] at g
  exact ⟨a, bs, rfl, g, q fa _ H .refl ok (.mkB _)⟩
theorem cr_mSum (hK : c.K = X.K) (hc : X.calm = true) : CallR X (.builtin "sum") (rn c mSum) := by
  refine CallR.imp (cr_sum hc) fun xs H Q h => ?_
  obtain ⟨fa, S, d, v, z, ok, rfl, h1, hz, q⟩ := rn_opt1 h
  obtain ⟨bs, e1, rfl⟩ := Option.map_eq_some_iff.mp hz
  obtain ⟨ds, e2, e3⟩ := bind_some e1
  obtain ⟨a, vs, rfl, g, r⟩ := h1.sql ok e2
  rw [r.ints e3, hK] at g
  exact ⟨a, bs, rfl, g, q fa _ H .refl ok (.mkI _)⟩
/-! ### int(x), str(n) -/
def intD (_ : Sto) (d : D) : Option D := match d with
  | .int i => some (.int i)
  | .bl k => some (.int (if k then 1 else 0))
  | _ => none
theorem cr_intD : CallR X (.type "int") (rn c (opt1 intD)) := by
  refine CallR.imp call_int1 fun xs H Q h => ?_
  obtain ⟨fa, S, d, v, z, ok, rfl, h1, hz, q⟩ := rn_opt1 h
  unfold intD at hz
  split at hz
  · cases hz; rw [h1.int]; exact .inl ⟨_, rfl, q fa _ H .refl ok (.mkI _)⟩
  · cases hz; rw [h1.bl]; exact .inr ⟨_, rfl, q fa _ H .refl ok (.mkI _)⟩
  · cases hz
def strD (_ : Sto) (d : D) : Option D := match d with
  | .int i => if decide (i.natAbs.log2 < 1920) = true then some (.str (toString i)) else none
  | _ => none
theorem cr_strD : CallR X (.type "str") (rn c (opt1 strD)) := by
  refine CallR.imp call_str_int fun xs H Q h => ?_
  obtain ⟨fa, S, d, v, z, ok, rfl, h1, hz, q⟩ := rn_opt1 h
  unfold strD at hz
  split at hz
  · split at hz
    · rename_i hf
      cases hz; rw [h1.int]; exact ⟨_, rfl, of_decide_eq_true hf, q fa _ H .refl ok (.mkS _)⟩
    · cases hz
  · cases hz
/-! ### list(x), tuple(x) -/
def listD (S : Sto) (d : D) : Option D := (seqOf S d).map .lst
theorem cr_listD (hK : c.K = X.K) : CallR X (.type "list") (rn c (opt1 listD)) := by
  refine CallR.imp call_list_of fun xs H Q h => ?_
  obtain ⟨fa, S, d, v, z, ok, rfl, h1, hz, q⟩ := rn_opt1 h
  obtain ⟨ds, e1, rfl⟩ := Option.map_eq_some_iff.mp hz
  obtain ⟨a, vs, rfl, g, r⟩ := h1.sq ok e1
  rw [hK] at g
  exact ⟨a, vs, rfl, g, fun p hp => q fa _ _ (.fresh ok hp) (ok.fresh hp) (Rel.newL ok hp r)⟩
/-- .. an own list, that may be changed -/
def allocL (f : Sto → D → Option (List D)) (ds : List D) : M D := fun S => match ds with
  | [d] => (match f S d with
    | some es => .ok (.ref S.length) (S ++ [.lst es])
    | none => .bad)
  | _ => .bad
theorem cr_listM (hK : c.K = X.K) : CallR X (.type "list") (rn c (allocL seqOf)) := by
  refine CallR.imp call_list_of fun xs H Q ⟨fa, S, ds, ok, r, en⟩ => ?_
  unfold Ends1 allocL at en
  match ds, en, r with
  | [d], en, r =>
    obtain ⟨v, rfl, h1⟩ := r.one
    cases e1 : seqOf S d with
    | none => simp only [e1] at en
    | some es =>
      simp only [e1] at en
      obtain ⟨a, vs, rfl, g, r⟩ := h1.sq ok e1
      rw [hK] at g
      exact ⟨a, vs, rfl, g, fun p hp => en (fa ++ [p]) _ _ (Step.alloc ok hp) (ok.alloc hp ⟨vs, rfl, r⟩) (.refn (by rw [← ok.len, List.getElem?_append_right (Nat.le_refl _)]; simp))⟩
def tupleD (S : Sto) (d : D) : Option D := match d with
  | .tup ds => some (.tup ds)
  | d => (listOf S d).map .tup
/-- tuple(list), its object known -/
theorem call_tupleF : CallR X (.type "tuple") (fun xs H Q => ∃ p ys, xs = [.ref p] ∧ ((SqL X.K H p ys ∧ ∀ l o, H l = none → o.dict = none → Q (.ref l) (upd H l (.frz o (.tup ys)))) ∨ (SqT X.K H p ys ∧ Q (.ref p) H))) := by
  rintro pins s σ H xs us Q I r ⟨p, ys, rfl, ⟨hq, q⟩ | ⟨hq, q⟩⟩
  · obtain ⟨u, rfl, rx⟩ := vals1 r
    cases rx
    obtain ⟨its, rv, pl, hz⟩ := I.list hq
    refine call_tuple_list pl.isList (fun h' kp => ?_) (by rw [List.size_toArray, ← rv.length]; exact hz)
    have I1 : Inv X pins σ H { s with heap := h' } := I.kept (t' := s.toks) kp
    refine ⟨.ref h'.objs.size, _, I1.laid (t' := s.toks) (fun b o e => Heap.get?_push_of_some _ e) (Nat.le_refl _) ?_, rfl, q h'.objs.size { cls := .type "tuple", data := .seq its.toArray } (I1.hok.fresh (Nat.le_refl _)) rfl⟩
    exact ⟨Heap.get?_push_size _ rfl, hz, its, rv, IsTup.new _ _⟩
  · exact call_tuple_of pins s σ H _ us Q I r ⟨p, ys, rfl, .inr ⟨hq, q⟩⟩
theorem cr_tupleD (hK : c.K = X.K) : CallR X (.type "tuple") (rn c (opt1 tupleD)) := by
  refine CallR.imp call_tupleF fun xs H Q h => ?_
  obtain ⟨fa, S, d, v, z, ok, rfl, h1, hz, q⟩ := rn_opt1 h
  unfold tupleD at hz
  split at hz
  · cases hz
    obtain ⟨a, vs, rfl, g, r⟩ := h1.sqt rfl
    rw [hK] at g
    exact ⟨a, vs, rfl, .inr ⟨g, q fa _ H .refl ok h1⟩⟩
  · obtain ⟨ds, e1, rfl⟩ := Option.map_eq_some_iff.mp hz
    obtain ⟨a, vs, rfl, g, r⟩ := h1.sql ok e1
    rw [hK] at g
    exact ⟨a, vs, rfl, .inl ⟨g, fun p o hp ho => q fa _ _ (.fresh ok hp) (ok.fresh hp) (Rel.newT ok ho hp r)⟩⟩
/-! ### divmod -/
def divmodD (_ : Sto) (d e : D) : Option D := match d, e with
  | .int i, .int j => if cDiv i j = true then some (.tp [.int (i / j), .int (i % j)]) else none
  | _, _ => none
theorem cr_divmodD : CallR X (.builtin "divmod") (rn c (opt2 divmodD)) := by
  refine CallR.imp call_divmod fun xs H Q h => ?_
  obtain ⟨fa, S, d, e, v, w, z, ok, rfl, h1, h2, hz, q⟩ := rn_opt2 h
  unfold divmodD at hz
  split at hz
  · split at hz
    · rename_i i j hc
      cases hz
      rw [h1.int, h2.int]
      simp only [cDiv, Bool.and_eq_true, decide_eq_true_eq] at hc
      exact ⟨_, _, rfl, hc, fun p hp => q fa _ _ (.fresh ok hp) (ok.fresh hp) (Rel.newP ok hp (.cons (.mkI _) (.cons (.mkI _) .nil)))⟩
    · cases hz
  · cases hz
/-! ### places -/
def ixD (S : Sto) (d e : D) : Option D := match d, e with
  | .str z, .int i => if fits z.length = true then (atI z.cps.toList i).map fun k => .str ⟨#[k]⟩ else none
  | d, .int i => (seqOf S d).bind fun ds => atI ds i
  | _, _ => none
def mIx (d e : D) : M D := opt fun S => ixD S d e
theorem atI_rel {fa : List Addr} {H : Hp} {ds : List D} {vs : List V} {i : Int} {d : D} (r : Rels c fa H ds vs) (h : atI ds i = some d) : ∃ v, atI vs i = some v ∧ Rel c fa H d v := by
  unfold atI at h ⊢
  rw [← r.length]
  obtain ⟨j, e1, e2⟩ := bind_some h
  obtain ⟨v, e3, h3⟩ := r.get e2
  exact ⟨v, by rw [e1]; exact e3, h3⟩
theorem IxR.imp {r r' : R2} (h : IxR X r) (i : ∀ x y H Q, r' x y H Q → r x y H Q) : IxR X r' := fun value slice pins s σ H x y v u Q I rx ry q hs => h value slice pins s σ H x y v u Q I rx ry (i x y H Q q) hs
theorem ix_mIx (hK : c.K = X.K) : IxR X (r2 c mIx) := by
  refine IxR.imp ix_seq ?_
  rintro x y H Q ⟨fa, S, d, e, ok, h1, h2, en⟩
  obtain ⟨z, hz, q⟩ := en.opt
  unfold ixD at hz
  split at hz
  · split at hz
    · rename_i hf
      obtain ⟨k, e1, rfl⟩ := Option.map_eq_some_iff.mp hz
      exact .inr (.inr ⟨_, _, k, h1.str, h2.int, fits_iff.mp hf, e1, q fa _ H .refl ok (.mkS _)⟩)
    · cases hz
  · obtain ⟨ds, e1, e2⟩ := bind_some hz
    obtain ⟨a, vs, rfl, g, r⟩ := h1.sq ok e1
    obtain ⟨v, e3, h3⟩ := atI_rel r e2
    rw [hK] at g
    rcases g with g | g
    · exact .inl ⟨a, vs, _, v, rfl, h2.int, g, e3, q fa _ H .refl ok h3⟩
    · exact .inr (.inl ⟨a, vs, _, v, rfl, h2.int, g, e3, q fa _ H .refl ok h3⟩)
  · cases hz
/-! ### slices -/
def cutD {α : Type} (xs : List α) (lo hi : Option Int) : List α := (xs.drop (HT.sIx xs.length 0 lo)).take (HT.sIx xs.length xs.length hi - HT.sIx xs.length 0 lo)
theorem Rels.cut {fa : List Addr} {H : Hp} {ds : List D} {vs : List V} (r : Rels c fa H ds vs) (lo hi : Option Int) : Rels c fa H (cutD ds lo hi) (cutV vs lo hi) := by
  unfold cutD cutV
  rw [r.length]
  exact (r.drop _).take _
def slD (S : Sto) (d : D) (lo hi : Option Int) : Option D := match d with
  | .str z => if fits z.length = true then some (.str (cutS z lo hi)) else none
  | .tup ds => some (.tup (cutD ds lo hi))
  | d => (listOf S d).map fun ds => .lst (cutD ds lo hi)
def rs (c : Kx) (f : Sto → D → Option Int → Option Int → Option D) : V → Option Int → Option Int → Hp → VK → Prop := fun x lo hi H Q => ∃ fa S d z, StOk c fa S H ∧ Rel c fa H d x ∧ f S d lo hi = some z ∧ ∀ fa' b H', Step fa H fa' H' → StOk c fa' S H' → Rel c fa' H' z b → Q b H'
def rSlF (K : PySem.W.Frag) : V → Option Int → Option Int → Hp → VK → Prop := fun x lo hi H Q => ∃ a xs, x = .ref a ∧ SqT K H a xs ∧
  (HT.sIx xs.length 0 lo = 0 ∧ HT.sIx xs.length xs.length hi = xs.length → Q (.ref a) H) ∧ (¬ (HT.sIx xs.length 0 lo = 0 ∧ HT.sIx xs.length xs.length hi = xs.length) → ∀ p o, H p = none → o.dict = none → Q (.ref p) (upd H p (.frz o (.tup (cutV xs lo hi)))))
theorem sl_tupF : SlR X (rSlF X.K) := by
  rintro pins s σ H x v vl vu lo hi sl Q I rx hs pl pu ⟨a, xs, rfl, hx, q1, q2⟩
  by_cases hw : HT.sIx xs.length 0 lo = 0 ∧ HT.sIx xs.length xs.length hi = xs.length
  · exact sl_tupA pins s σ H _ v vl vu lo hi sl Q I rx hs pl pu ⟨a, xs, rfl, hx, q1, fun n => absurd hw n⟩
  · cases rx
    obtain ⟨its, r, ht, hz⟩ := I.tuple hx
    have hl : its.toArray.size = xs.length := by rw [List.size_toArray]; exact r.length.symm
    refine ⟨"tuple", _, PyProof.Rows.slot_tuple_getitem.lookup, ht.typeIs, ?_⟩
    refine HT.getItem_tuple_cut ht hs pl pu (by rw [hl]; exact hw) ?_ (by rw [hl]; exact hz)
    rw [hl]
    obtain ⟨o, eo⟩ : ∃ o : Obj, o = { cls := .type "tuple", data := .seq ((its.toArray.toList.drop (HT.sIx xs.length 0 lo)).take (HT.sIx xs.length xs.length hi - HT.sIx xs.length 0 lo)).toArray } := ⟨_, rfl⟩
    have hd : o.dict = none := by rw [eo]
    have ob : ObjOk X.prog X.w (upd H s.heap.objs.size (.frz o (.tup (cutV xs lo hi)))) (s.heap.push o) s.heap.objs.size (.frz o (.tup (cutV xs lo hi))) := by
      refine ⟨Heap.get?_push_size _ (by rw [eo]; rfl), Nat.le_trans (cutV_length xs lo hi) hz, _, (r.drop (HT.sIx xs.length 0 lo)).take (HT.sIx xs.length xs.length hi - HT.sIx xs.length 0 lo), ?_⟩
      rw [eo]
      exact IsTup.new _ _
    rw [← eo]
    exact ⟨.ref s.heap.objs.size, _, I.laid (t' := s.toks) (fun b ob q => Heap.get?_push_of_some _ q) (Nat.le_refl _) ob, rfl, q2 hw s.heap.objs.size o (I.hok.fresh (Nat.le_refl _)) hd⟩
theorem sl_slD (hK : c.K = X.K) : SlR X (rs c slD) := by
  rintro pins s σ H x v vl vu lo hi sl Q I rx hs pl pu ⟨fa, S, d, z, ok, h1, hz, q⟩
  unfold slD at hz
  split at hz
  · split at hz
    · rename_i hf
      cases hz
      exact sl_str pins s σ H x v vl vu lo hi sl Q I rx hs pl pu ⟨_, h1.str, fits_iff.mp hf, q fa _ H .refl ok (.mkS _)⟩
    · cases hz
  · rename_i ds
    cases hz
    obtain ⟨a, vs, rfl, g, r⟩ := h1.sqt rfl
    rw [hK] at g
    refine sl_tupF pins s σ H _ v vl vu lo hi sl Q I rx hs pl pu ⟨a, vs, rfl, g, fun hh => ?_, fun _ p o hp ho => q fa _ _ (.fresh ok hp) (ok.fresh hp) (Rel.newT ok ho hp (r.cut lo hi))⟩
    have e : cutD ds lo hi = ds := by
      unfold cutD
      rw [r.length, hh.1, hh.2, ← r.length]
      simp
    rw [e] at q
    exact q fa _ H .refl ok h1
  · obtain ⟨ds, e1, rfl⟩ := Option.map_eq_some_iff.mp hz
    obtain ⟨a, vs, rfl, g, r⟩ := h1.sql ok e1
    rw [hK] at g
    exact sl_list pins s σ H _ v vl vu lo hi sl Q I rx hs pl pu ⟨a, vs, rfl, g, fun p hp => q fa _ _ (.fresh ok hp) (ok.fresh hp) (Rel.newL ok hp (r.cut lo hi))⟩
end
section
variable {X : Cx} {c : Kx} {W : WX} {a b e : Expr} {pos p2 : Pos} {ma mb : Rho → M D} {ml mh : Rho → M (Option Int)} {lo hi : Option Expr}
theorem ev_ix (hK : c.K = X.K) (hs : PlainIx b) (ha : PE X a (EvR c W ma)) (hb : PE X b (EvR c W mb)) : PE X (.Subscript a b pos) (EvR c W (eOp mIx ma mb)) :=
  (pe_ix (ix_mIx hK) ha hb hs).imp fun σ H Q ⟨fa, S, ρ, ok, en, h⟩ => by
    refine ⟨fa, S, ρ, ok, en, h.bind.imp (fun x H1 ⟨fa1, S1, d, ok1, st1, r1, h1⟩ => ?_) fun _ _ _ z => z⟩
    refine ⟨fa1, S1, ρ, ok1, en.mono st1, h1.bind.imp (fun y H2 ⟨fa2, S2, d2, ok2, st2, r2, h2⟩ => ?_) fun _ _ _ z => z⟩
    exact ⟨fa2, S2, d, d2, ok2, r1.mono st2, r2, h2.val fun x S' => NoX.opt _ x S'⟩
/-- a part of a slice -/
def asI : D → M (Option Int)
  | .int i => pure (some i)
  | _ => M.bad
def oNone : Rho → M (Option Int) := fun _ => pure none
def oSome (m : Rho → M D) : Rho → M (Option Int) := fun ρ => m ρ >>= asI
def OvR (c : Kx) (W : WX) (m : Rho → M (Option Int)) : TO := fun σ H Q => ∃ fa S ρ, StOk c fa S H ∧ EnvOk c fa H ρ σ ∧ Ends1 c (fun _ _ a b => b = a) (m ρ) fa S H Q (fun cls d H' => W cls d σ H')
theorem PO.imp {e : Option Expr} {t t' : TO} (h : PO X e t) (i : ∀ σ H Q, t' σ H Q → t σ H Q) : PO X e t' := ⟨fun pins s σ H Q I q => h.run pins s σ H Q I (i σ H Q q)⟩
theorem ov_none : PO X none (OvR c W oNone) := PO.imp po_none fun σ H Q ⟨fa, S, ρ, ok, en, h⟩ => h.pure0 ok rfl
theorem ov_some (ha : PE X a (EvR c W ma)) : PO X (some a) (OvR c W (oSome ma)) := PO.imp (po_some ha) fun σ H Q ⟨fa, S, ρ, ok, en, h⟩ => by
  refine ⟨fa, S, ρ, ok, en, h.bind.imp (fun x H1 ⟨fa1, S1, d, ok1, st1, r1, h1⟩ => ?_) fun _ _ _ z => z⟩
  cases d with
  | int i => exact ⟨i, r1.int, h1.pure0 ok1 rfl⟩
  | _ => exact h1.bad.elim
def eSl (ma : Rho → M D) (ml mh : Rho → M (Option Int)) : Rho → M D := fun ρ => ma ρ >>= fun x => ml ρ >>= fun l => mh ρ >>= fun h => opt fun S => slD S x l h
theorem ev_sl (hK : c.K = X.K) (ha : PE X a (EvR c W ma)) (hl : PO X lo (OvR c W ml)) (hh : PO X hi (OvR c W mh)) : PE X (.Subscript a (.Slice lo hi none p2) pos) (EvR c W (eSl ma ml mh)) :=
  (pe_slice (sl_slD hK) ha hl hh).imp fun σ H Q ⟨fa, S, ρ, ok, en, h⟩ => by
    refine ⟨fa, S, ρ, ok, en, h.bind.imp (fun x H1 ⟨fa1, S1, d, ok1, st1, r1, h1⟩ => ?_) fun _ _ _ z => z⟩
    refine ⟨fa1, S1, ρ, ok1, en.mono st1, h1.bind.imp (fun y H2 ⟨fa2, S2, d2, ok2, st2, r2, h2⟩ => ?_) fun _ _ _ z => z⟩
    refine ⟨fa2, S2, ρ, ok2, (en.mono st1).mono st2, h2.bind.imp (fun y H3 ⟨fa3, S3, d3, ok3, st3, r3, h3⟩ => ?_) fun _ _ _ z => z⟩
    subst r2; subst r3
    obtain ⟨z, hz, q⟩ := h3.opt
    exact ⟨fa3, S3, d, z, ok3, (r1.mono st2).mono st3, hz, q⟩
end
end CR

/-! CrD: statements, loops, comprehensions. -/
namespace CR
open PySem PySem.Spec PyProof.Rows L2
/-- how a statement ends -/
inductive Fl where
  | nx (ρ : Rho) | ret (d : D) | bk (ρ : Rho) | ct (ρ : Rho) | xc (ρ : Rho) (x : D)
abbrev MS := Rho → M Fl
/-- an expression within a statement -/
def lift {α : Type} (ρ : Rho) (m : M α) (k : α → M Fl) : M Fl := fun S => match m S with
  | .ok a S' => k a S'
  | .exc x S' => .ok (.xc ρ x) S'
  | .bad => .bad
section
variable (c : Kx)
def EndsS (W : WX) (m : M Fl) (fa : List Addr) (S : Sto) (H : Hp) (Dn : Ends) : Prop :=
  match m S with
  | .ok (.nx ρ') S' => ∀ fa' σ' H', Step fa H fa' H' → StOk c fa' S' H' → EnvOk c fa' H' ρ' σ' → Dn.nx σ' H'
  | .ok (.bk ρ') S' => ∀ fa' σ' H', Step fa H fa' H' → StOk c fa' S' H' → EnvOk c fa' H' ρ' σ' → Dn.bk σ' H'
  | .ok (.ct ρ') S' => ∀ fa' σ' H', Step fa H fa' H' → StOk c fa' S' H' → EnvOk c fa' H' ρ' σ' → Dn.ct σ' H'
  | .ok (.ret d) S' => ∀ fa' v H', Step fa H fa' H' → StOk c fa' S' H' → Rel c fa' H' d v → Dn.rt v H'
  | .ok (.xc ρ' x) S' => ∀ fa' σ' cls d H', Step fa H fa' H' → StOk c fa' S' H' → EnvOk c fa' H' ρ' σ' → XR c fa' H' x cls d → W cls d σ' H'
  | _ => False
def SvR (W : WX) (m : MS) : TS := fun Dn σ H => ∃ fa S ρ, StOk c fa S H ∧ EnvOk c fa H ρ σ ∧ EndsS c W (m ρ) fa S H Dn
/-- a target takes a value -/
def GvR (g : D → Rho → M Rho) : TG := fun v σ H Q => ∃ fa S ρ d, StOk c fa S H ∧ EnvOk c fa H ρ σ ∧ Rel c fa H d v ∧ Ends1 c (fun fa' H' ρ' σ' => EnvOk c fa' H' ρ' σ') (g d ρ) fa S H Q X0
def GsR (g : List D → Rho → M Rho) : TGs := fun vs σ H Q => ∃ fa S ρ ds, StOk c fa S H ∧ EnvOk c fa H ρ σ ∧ Rels c fa H ds vs ∧ Ends1 c (fun fa' H' ρ' σ' => EnvOk c fa' H' ρ' σ') (g ds ρ) fa S H Q X0
end
section
variable {X : Cx} {c : Kx} {W : WX}
/-- a further step ahead -/
theorem EndsS.later {m : M Fl} {fa0 fa : List Addr} {S : Sto} {H0 H : Hp} {Dn : Ends} (st : Step fa0 H0 fa H) (h : ∀ r, m S = r → match r with
  | .ok (.nx ρ') S' => ∀ fa' σ' H', Step fa0 H0 fa' H' → StOk c fa' S' H' → EnvOk c fa' H' ρ' σ' → Dn.nx σ' H'
  | .ok (.bk ρ') S' => ∀ fa' σ' H', Step fa0 H0 fa' H' → StOk c fa' S' H' → EnvOk c fa' H' ρ' σ' → Dn.bk σ' H'
  | .ok (.ct ρ') S' => ∀ fa' σ' H', Step fa0 H0 fa' H' → StOk c fa' S' H' → EnvOk c fa' H' ρ' σ' → Dn.ct σ' H'
  | .ok (.ret d) S' => ∀ fa' v H', Step fa0 H0 fa' H' → StOk c fa' S' H' → Rel c fa' H' d v → Dn.rt v H'
  | .ok (.xc ρ' x) S' => ∀ fa' σ' cls d H', Step fa0 H0 fa' H' → StOk c fa' S' H' → EnvOk c fa' H' ρ' σ' → XR c fa' H' x cls d → W cls d σ' H'
  | _ => False) : EndsS c W m fa S H Dn := by
  unfold EndsS
  have := h _ rfl
  cases e : m S with
  | bad => rw [e] at this; exact this
  | exc x S1 => rw [e] at this; exact this
  | ok f S1 =>
    rw [e] at this
    cases f with
    | nx ρ' => exact fun fa' σ' H' s => this fa' σ' H' (st.trans s)
    | bk ρ' => exact fun fa' σ' H' s => this fa' σ' H' (st.trans s)
    | ct ρ' => exact fun fa' σ' H' s => this fa' σ' H' (st.trans s)
    | ret d => exact fun fa' v H' s => this fa' v H' (st.trans s)
    | xc ρ' x => exact fun fa' σ' cls d H' s => this fa' σ' cls d H' (st.trans s)
/-- the whole from a lifted expression: what is asked of the expression -/
theorem EndsS.lift {α β : Type} {R : List Addr → Hp → α → β → Prop} {ρ : Rho} {σ : L2.St} {m : M α} {k : α → M Fl} {fa : List Addr} {S : Sto} {H : Hp} {Dn : Ends} (en : EnvOk c fa H ρ σ) (h : EndsS c W (lift ρ m k) fa S H Dn) :
    Ends1 c R m fa S H (fun b H1 => ∃ fa1 S1 a, StOk c fa1 S1 H1 ∧ Step fa H fa1 H1 ∧ R fa1 H1 a b ∧ EndsS c W (k a) fa1 S1 H1 Dn) (fun cls d H' => W cls d σ H') := by
  unfold Ends1
  cases e : m S with
  | bad => unfold EndsS CR.lift at h; rw [e] at h; exact h
  | exc x S1 =>
    unfold EndsS CR.lift at h; rw [e] at h
    exact fun fa' cls d H' st ok xr => h fa' σ cls d H' st ok (en.mono st) xr
  | ok a S1 =>
    unfold EndsS CR.lift at h; rw [e] at h
    exact fun fa1 b H1 st ok r => ⟨fa1, S1, a, ok, st, r, EndsS.later st fun r hr => by subst hr; exact h⟩
theorem EndsS.imp {W' : WX} {m : M Fl} {fa : List Addr} {S : Sto} {H : Hp} {Dn Dn' : Ends} (h : EndsS c W m fa S H Dn) (i1 : ∀ σ H, Dn.nx σ H → Dn'.nx σ H) (i2 : ∀ σ H, Dn.bk σ H → Dn'.bk σ H) (i3 : ∀ σ H, Dn.ct σ H → Dn'.ct σ H) (i4 : ∀ v H, Dn.rt v H → Dn'.rt v H)
    (i5 : ∀ cls d σ H, W cls d σ H → W' cls d σ H) : EndsS c W' m fa S H Dn' := by
  unfold EndsS at h ⊢
  cases e : m S with
  | bad => rw [e] at h; exact h
  | exc x S1 => rw [e] at h; exact h
  | ok f S1 =>
    rw [e] at h
    cases f with
    | nx ρ' => exact fun fa' σ' H' s a b => i1 _ _ (h fa' σ' H' s a b)
    | bk ρ' => exact fun fa' σ' H' s a b => i2 _ _ (h fa' σ' H' s a b)
    | ct ρ' => exact fun fa' σ' H' s a b => i3 _ _ (h fa' σ' H' s a b)
    | ret d => exact fun fa' v H' s a b => i4 _ _ (h fa' v H' s a b)
    | xc ρ' x => exact fun fa' σ' cls d H' s a b x => i5 _ _ _ _ (h fa' σ' cls d H' s a b x)
/-! ### blocks -/
variable {e : Expr} {st : Stmt} {rest : List Stmt} {pos : Pos} {m : Rho → M D} {t : Rho → M Bool} {ms mr : MS}
def sNext : MS := fun ρ => pure (.nx ρ)
def sSeq (a b : MS) : MS := fun ρ S => match a ρ S with
  | .ok (.nx ρ1) S1 => b ρ1 S1
  | r => r
theorem sv_nil : PSs X [] (SvR c W sNext) := (pss_nil).imp fun Dn σ H ⟨fa, S, ρ, ok, en, h⟩ => h fa σ H .refl ok en
theorem EndsS.seq {ρ : Rho} {fa : List Addr} {S : Sto} {H : Hp} {Dn : Ends} (h : EndsS c W (sSeq ms mr ρ) fa S H Dn) : EndsS c W (ms ρ) fa S H { Dn with nx := SvR c W mr Dn } := by
  unfold EndsS at h ⊢
  unfold sSeq at h
  cases e : ms ρ S with
  | bad => rw [e] at h; exact h
  | exc x S1 => rw [e] at h; exact h
  | ok f S1 =>
    rw [e] at h
    cases f with
    | nx ρ' => exact fun fa' σ' H' st ok en => ⟨fa', S1, ρ', ok, en, EndsS.later st fun r hr => by subst hr; exact h⟩
    | bk ρ' => exact h
    | ct ρ' => exact h
    | ret d => exact h
    | xc ρ' x => exact h
theorem sv_cons (h1 : PS X st (SvR c W ms)) (h2 : PSs X rest (SvR c W mr)) : PSs X (st :: rest) (SvR c W (sSeq ms mr)) :=
  (pss_cons h1 h2).imp fun Dn σ H ⟨fa, S, ρ, ok, en, h⟩ => ⟨fa, S, ρ, ok, en, h.seq⟩
theorem sv_one (h1 : PS X st (SvR c W ms)) : PSs X [st] (SvR c W ms) := pss_one h1
def sBad : MS := fun _ => M.bad
theorem sv_bad : PS X st (SvR c W sBad) := ⟨fun _ _ σ H Dn _ ⟨_, _, _, _, _, h⟩ => h.elim⟩
theorem svs_bad : PSs X rest (SvR c W sBad) := ⟨fun _ _ σ H Dn _ ⟨_, _, _, _, _, h⟩ => h.elim⟩
def sBreak : MS := fun ρ => pure (.bk ρ)
def sCont : MS := fun ρ => pure (.ct ρ)
theorem sv_pass : PS X (.Pass pos) (SvR c W sNext) := (ps_pass).imp fun Dn σ H ⟨fa, S, ρ, ok, en, h⟩ => h fa σ H .refl ok en
theorem sv_break : PS X (.Break pos) (SvR c W sBreak) := (ps_break).imp fun Dn σ H ⟨fa, S, ρ, ok, en, h⟩ => h fa σ H .refl ok en
theorem sv_cont : PS X (.Continue pos) (SvR c W sCont) := (ps_continue).imp fun Dn σ H ⟨fa, S, ρ, ok, en, h⟩ => h fa σ H .refl ok en
def sExpr (m : Rho → M D) : MS := fun ρ => lift ρ (m ρ) fun _ => pure (.nx ρ)
theorem sv_expr (he : PE X e (EvR c W m)) (hs : swapsWith e none pos.line X.env = pure false) : PS X (.Expr e pos) (SvR c W (sExpr m)) :=
  (ps_expr he hs).imp fun Dn σ H ⟨fa, S, ρ, ok, en, h⟩ => ⟨fa, S, ρ, ok, en, (h.lift en).imp (fun x H1 ⟨fa1, S1, d, ok1, st1, r1, h1⟩ => h1 fa1 σ H1 .refl ok1 (en.mono st1)) fun _ _ _ z => z⟩
def sRet (m : Rho → M D) : MS := fun ρ => lift ρ (m ρ) fun d => pure (.ret d)
theorem sv_ret (he : PE X e (EvR c W m)) : PS X (.Return (some e) pos) (SvR c W (sRet m)) :=
  (ps_ret he).imp fun Dn σ H ⟨fa, S, ρ, ok, en, h⟩ => ⟨fa, S, ρ, ok, en, (h.lift en).imp (fun x H1 ⟨fa1, S1, d, ok1, st1, r1, h1⟩ => h1 fa1 x H1 .refl ok1 r1) fun _ _ _ z => z⟩
def sRetN : MS := fun _ => pure (.ret .non)
theorem sv_retN : PS X (.Return none pos) (SvR c W sRetN) := (ps_retN).imp fun Dn σ H ⟨fa, S, ρ, ok, en, h⟩ => h fa .non H .refl ok .mkN
def sIf (t : Rho → M Bool) (a b : MS) : MS := fun ρ => lift ρ (t ρ) fun k => if k = true then a ρ else b ρ
theorem sv_if {a b : List Stmt} {ma mb : MS} (ht : PT X e (TvR c W t)) (ha : PSs X a (SvR c W ma)) (hb : PSs X b (SvR c W mb)) : PS X (.If e a b pos) (SvR c W (sIf t ma mb)) :=
  (ps_if ht ha hb).imp fun Dn σ H ⟨fa, S, ρ, ok, en, h⟩ => ⟨fa, S, ρ, ok, en, (h.lift en).imp (fun x H1 ⟨fa1, S1, d, ok1, st1, r1, h1⟩ => by
    subst r1
    cases x with
    | true => exact ⟨fa1, S1, ρ, ok1, en.mono st1, h1⟩
    | false => exact ⟨fa1, S1, ρ, ok1, en.mono st1, h1⟩) fun _ _ _ z => z⟩
/-! ### targets -/
def gNameM (i : Nat) : D → Rho → M Rho := fun d ρ => pure (ρ.set i (some d))
theorem gv_name {i : Nat} {x : Str} (hN : X.N.Nodup) (hi : X.N[i]? = some x) (hx : Loc X.env.scope x) (hf : X.fn x = true ∨ X.env.scope.names.lookup x = some .local) : PG X (.Name x pos) (GvR c (gNameM i)) :=
  (pg_name hN hi hx hf).imp fun v σ H Q ⟨fa, S, ρ, d, ok, en, r, h⟩ => h.pure0 ok (en.set i r)
theorem PGs.imp {ts : List Expr} {t t' : TGs} (h : PGs X ts t) (i : ∀ v σ H Q, t' v σ H Q → t v σ H Q) : PGs X ts t' := ⟨fun pins s σ H v u Q I r q => h.run pins s σ H v u Q I r (i v σ H Q q)⟩
def gsNil : List D → Rho → M Rho := fun ds ρ => match ds with
  | [] => pure ρ
  | _ => M.bad
def gsCons (g : D → Rho → M Rho) (gs : List D → Rho → M Rho) : List D → Rho → M Rho := fun ds ρ => match ds with
  | d :: ds => g d ρ >>= fun ρ1 => gs ds ρ1
  | [] => M.bad
theorem gv_nil : PGs X [] (GsR c gsNil) := PGs.imp pgs_nil fun vs σ H Q ⟨fa, S, ρ, ds, ok, en, r, h⟩ => by
  cases ds with
  | nil => exact ⟨Rels.nil_iff.mp r, h.pure0 ok en⟩
  | cons d ds => exact h.bad.elim
theorem gv_cons {es : List Expr} {g : D → Rho → M Rho} {gs : List D → Rho → M Rho} (hs : (assignEach (e :: es) X.env).map (·.2) = assign e X.env :: (assignEach es X.env).map (·.2)) (h1 : PG X e (GvR c g)) (h2 : PGs X es (GsR c gs)) : PGs X (e :: es) (GsR c (gsCons g gs)) :=
  PGs.imp (pgs_cons h1 h2 hs) fun vs σ H Q ⟨fa, S, ρ, ds, ok, en, r, h⟩ => by
    cases ds with
    | nil => exact h.bad.elim
    | cons d ds =>
      obtain ⟨v, vr, rfl, r1, r2⟩ := Rels.cons_iff.mp r
      refine ⟨v, vr, rfl, fa, S, ρ, d, ok, en, r1, h.bind.imp (fun σ1 H1 ⟨fa1, S1, ρ1, ok1, st1, en1, h1⟩ => ?_) fun _ _ _ z => z⟩
      exact ⟨fa1, S1, ρ1, ds, ok1, en1, r2.mono st1, h1⟩
/-- (a, b) = a tuple; (a, b) = a list -/
def gTupM (n : Nat) (gs : List D → Rho → M Rho) : D → Rho → M Rho := fun d ρ S => match seqOf S d with
  | some ds => if ds.length = n then gs ds ρ S else .bad
  | none => .bad
theorem _root_.L2.PG.or {e : Expr} {t t' : TG} (h : PG X e t) (h' : PG X e t') : PG X e (fun v σ H Q => t v σ H Q ∨ t' v σ H Q) := ⟨fun pins s σ H v u Q I r q => by
  rcases q with q | q
  · exact h.run pins s σ H v u Q I r q
  · exact h'.run pins s σ H v u Q I r q⟩
theorem gv_tup {es : List Expr} {k n : Nat} {gs : List D → Rho → M Rho} (hK : c.K = X.K) (hc : X.calm = true) (hn : (assignEach es X.env).length = n) (hst : (assignEach es X.env).findIdx? (·.1) = none) (h : PGs X es (GsR c gs)) : PG X (.Tuple es k pos) (GvR c (gTupM n gs)) :=
  ((pg_tup hc h hn hst).or (pg_lst hc h hn hst)).imp fun v σ H Q ⟨fa, S, ρ, d, ok, en, r, h⟩ => by
    unfold Ends1 gTupM at h
    cases e1 : seqOf S d with
    | none => rw [e1] at h; exact h.elim
    | some ds =>
      rw [e1] at h
      by_cases hl : ds.length = n
      · simp only [hl, if_true] at h
        obtain ⟨a, vs, rfl, g, rr⟩ := r.sq ok e1
        rw [hK] at g
        rcases g with g | g
        · exact .inr ⟨a, vs, rfl, g, by rw [← rr.length]; exact hl, fa, S, ρ, ds, ok, en, rr, h⟩
        · exact .inl ⟨a, vs, rfl, g, by rw [← rr.length]; exact hl, fa, S, ρ, ds, ok, en, rr, h⟩
      · simp only [hl, if_false] at h
/-- o[i] = v, by data -/
def pset (c : Kx) (m : D → D → D → M Unit) : TSet := fun o i v H Q => ∃ fa S d e z, StOk c fa S H ∧ Rel c fa H d o ∧ Rel c fa H e i ∧ Rel c fa H z v ∧ Ends1 c (fun _ _ (_ : Unit) (_ : Unit) => True) (m d e z) fa S H (fun _ H' => Q H') X0
def noExc {α : Type} (m : M α) : M α := fun S => match m S with
  | .exc _ _ => .bad
  | r => r
theorem Ends1.noExc {α β : Type} {R : List Addr → Hp → α → β → Prop} {g : M α} {fa : List Addr} {S : Sto} {H : Hp} {Q : β → Hp → Prop} {E : XK} (h : Ends1 c R (CR.noExc g) fa S H Q E) : Ends1 c R g fa S H Q X0 := by
  unfold Ends1 CR.noExc at h
  unfold Ends1
  cases e1 : g S with
  | ok a S1 => rw [e1] at h; exact h
  | exc x S1 => rw [e1] at h; exact h.elim
  | bad => rw [e1] at h; exact h
def gSubM (mo mi : Rho → M D) (st : D → D → D → M Unit) : D → Rho → M Rho := fun z ρ => noExc (mo ρ) >>= fun o => noExc (mi ρ) >>= fun i => st o i z >>= fun _ => pure ρ
theorem gv_sub {o i : Expr} {mo mi : Rho → M D} {stm : D → D → D → M Unit} (hs : PSet X (pset c stm)) (nx : ∀ o i v, NoX (stm o i v))
    (ha : ∀ v, assign (.Subscript o i pos) X.env v = (do
      let ov ← holding [v] (eval o X.env)
      let iv ← holding [v, ov] (eval i X.env)
      standAt pos
      holding [v, ov, iv] (setItem ov iv v)
      release [v, ov, iv] []))
    (ho : PE X o (EvR c (fun _ _ _ _ => False) mo)) (hi : PE X i (EvR c (fun _ _ _ _ => False) mi)) : PG X (.Subscript o i pos) (GvR c (gSubM mo mi stm)) :=
  (pg_sub ho hi hs ha).imp fun v σ H Q ⟨fa, S, ρ, d, ok, en, r, h⟩ => by
    refine ⟨fa, S, ρ, ok, en, h.bind.noExc.imp (fun x H1 ⟨fa1, S1, d1, ok1, st1, r1, h1⟩ => ?_) fun _ _ _ z => z⟩
    refine ⟨fa1, S1, ρ, ok1, en.mono st1, h1.bind.noExc.imp (fun y H2 ⟨fa2, S2, d2, ok2, st2, r2, h2⟩ => ?_) fun _ _ _ z => z⟩
    refine ⟨fa2, S2, d1, d2, d, ok2, r1.mono st2, r2, (r.mono st1).mono st2, ((h2.bind (R := fun _ _ (_ : Unit) (_ : Unit) => True)).valT fun x S' => nx _ _ _ _ x S').imp (fun _ H3 ⟨fa3, S3, _, ok3, st3, _, h3⟩ => ?_) fun _ _ _ z => z⟩
    exact h3.pure0 ok3 (((en.mono st1).mono st2).mono st3)
def sAsg (m : Rho → M D) (g : D → Rho → M Rho) : MS := fun ρ => lift ρ (m ρ) fun d S => match g d ρ S with
  | .ok ρ' S' => .ok (.nx ρ') S'
  | _ => .bad
theorem EndsS.asg {g : M Rho} {fa : List Addr} {S : Sto} {H : Hp} {Dn : Ends} (h : EndsS c W (fun S => match g S with
  | .ok ρ' S' => .ok (.nx ρ') S'
  | _ => .bad) fa S H Dn) : Ends1 c (fun fa' H' ρ' σ' => EnvOk c fa' H' ρ' σ') g fa S H Dn.nx X0 := by
  unfold EndsS at h
  unfold Ends1
  cases e : g S with
  | ok ρ' S' => simp only [e] at h; exact fun fa' b H' s a r => h fa' b H' s a r
  | exc x S' => simp only [e] at h
  | bad => simp only [e] at h
theorem sv_asg {tg : Expr} {g : D → Rho → M Rho} (hs : swapsWithSole [tg] e pos.line X.env = pure false) (hw : swappedStores [tg] e X.env = pure none) (h1 : (assignEach [tg] X.env).map (·.2) = [assign tg X.env]) (he : PE X e (EvR c W m)) (hg : PG X tg (GvR c g)) :
    PS X (.Assign [tg] e pos) (SvR c W (sAsg m g)) :=
  (ps_asg he hg hs hw h1).imp fun Dn σ H ⟨fa, S, ρ, ok, en, h⟩ => ⟨fa, S, ρ, ok, en, (h.lift en).imp (fun x H1 ⟨fa1, S1, d, ok1, st1, r1, h1⟩ => ⟨fa1, S1, ρ, d, ok1, en.mono st1, r1, h1.asg⟩) fun _ _ _ z => z⟩
/-! ### what is walked -/
/-- a list of the store that must stay as it was -/
def Src := Option Nat
def guard (src : Src) (items : List D) (S : Sto) : Prop := match src with
  | none => True
  | some n => S[n]? = some (.lst items)
def ItOk (c : Kx) (fa : List Addr) (H : Hp) (J : It) (src : Src) (items : List D) : Prop :=
  ∀ fa' S' H', Step fa H fa' H' → StOk c fa' S' H' → guard src items S' →
    (∀ i : Nat, items.length ≤ i → J.stop i H') ∧ ∀ (i : Nat) (d : D), items[i]? = some d → J.go i H' ∧ ∀ x H'', J.yld i H' x H'' → Step fa' H' fa' H'' ∧ StOk c fa' S' H'' ∧ Rel c fa' H'' d x
theorem ItOk.mono {fa fa' : List Addr} {H H' : Hp} {J : It} {src : Src} {items : List D} (h : ItOk c fa H J src items) (st : Step fa H fa' H') : ItOk c fa' H' J src items := fun fa2 S2 H2 st2 => h fa2 S2 H2 (st.trans st2)
def IvR (c : Kx) (W : WX) (m : Rho → M (Src × List D)) : TI := fun σ H R => ∃ fa S ρ, StOk c fa S H ∧ EnvOk c fa H ρ σ ∧ Ends1 c (fun fa' H' (p : Src × List D) (J : It) => ItOk c fa' H' J p.1 p.2) (m ρ) fa S H R (fun cls d H' => W cls d σ H')
noncomputable instance (src : Src) (items : List D) (S : Sto) : Decidable (guard src items S) := Classical.propDecidable _
/-- the walk of a for -/
noncomputable def forL (src : Src) (all : List D) (g : D → Rho → M Rho) (body : MS) : List D → MS
  | [], ρ => fun S => if guard src all S then .ok (.nx ρ) S else .bad
  | d :: ds, ρ => fun S => if guard src all S then (match g d ρ S with
    | .ok ρ1 S1 => (match body ρ1 S1 with
      | .ok (.nx ρ2) S2 => forL src all g body ds ρ2 S2
      | .ok (.ct ρ2) S2 => forL src all g body ds ρ2 S2
      | .ok (.bk ρ2) S2 => .ok (.nx ρ2) S2
      | r => r)
    | _ => .bad) else .bad
noncomputable def sFor (m : Rho → M (Src × List D)) (g : D → Rho → M Rho) (body : MS) : MS := fun ρ => lift ρ (m ρ) fun p => forL p.1 p.2 g body p.2 ρ
theorem sv_for {tg iter : Expr} {body : List Stmt} {mi : Rho → M (Src × List D)} {g : D → Rho → M Rho} {mb : MS} (hp : PassesOwn (model X.prog X.w) X.A X.env X.xe) (hc : X.calm = true) (hs : ∀ x, foldedSetIterable iter X.env x = pure x)
    (hi : PI X tg iter (IvR c W mi)) (hg : PG X tg (GvR c g)) (hb : PSs X body (SvR c W mb)) : PS X (.For tg iter body [] pos) (SvR c W (sFor mi g mb)) :=
  (ps_for hp hc hi hg hb hs).imp fun Dn σ H ⟨fa, S, ρ, ok, en, h⟩ => ⟨fa, S, ρ, ok, en, (h.lift en).imp (fun J H1 ⟨fa1, S1, p, ok1, st1, it, h1⟩ => by
    obtain ⟨src, items⟩ := p
    refine ⟨fun i m σ' H' => m = items.length - i ∧ i ≤ items.length ∧ ∃ fa' S' ρ', Step fa1 H1 fa' H' ∧ StOk c fa' S' H' ∧ EnvOk c fa' H' ρ' σ' ∧ EndsS c W (forL src items g mb (items.drop i) ρ') fa' S' H' Dn,
      ⟨items.length, by simp, Nat.zero_le _, fa1, S1, ρ, .refl, ok1, en.mono st1, h1⟩, ?_⟩
    rintro i m σ' H' ⟨rfl, hle, fa', S', ρ', st', ok', en', h'⟩
    by_cases hlt : i < items.length
    · have ed : items.drop i = items[i] :: items.drop (i + 1) := List.drop_eq_getElem_cons hlt
      rw [ed] at h'
      unfold EndsS forL at h'
      by_cases hg : guard src items S'
      · simp only [if_pos hg] at h'
        obtain ⟨hgo, hy⟩ := (it fa' S' H' st' ok' hg).2 i items[i] (List.getElem?_eq_getElem hlt)
        refine .inr ⟨hgo, fun σ2 H2 => ∃ fa2 S2 ρ2, Step fa1 H1 fa2 H2 ∧ StOk c fa2 S2 H2 ∧ EnvOk c fa2 H2 ρ2 σ2 ∧ EndsS c W (forL src items g mb (items.drop (i + 1)) ρ2) fa2 S2 H2 Dn,
          fun σ2 H2 n => ⟨items.length - (i + 1), by omega, rfl, hlt, n⟩, fun x H'' yy => ?_⟩
        obtain ⟨st2, ok2, r2⟩ := hy x H'' yy
        refine ⟨fa', S', ρ', items[i], ok2, en'.mono st2, r2, ?_⟩
        unfold Ends1
        cases e1 : g items[i] ρ' S' with
        | bad => simp only [e1] at h'
        | exc x S1 => simp only [e1] at h'
        | ok ρ1 S1' =>
          simp only [e1] at h'
          intro fa3 σ3 H3 st3 ok3 en3
          refine ⟨fa3, S1', ρ1, ok3, en3, ?_⟩
          have stall : Step fa' H' fa3 H3 := st2.trans st3
          unfold EndsS
          cases e2 : mb ρ1 S1' with
          | bad => simp only [e2] at h'
          | exc x S2 => simp only [e2] at h'
          | ok f S2 =>
            cases f with
            | nx ρ2 =>
              simp only [e2] at h'
              exact fun fa4 σ4 H4 st4 ok4 en4 => ⟨fa4, S2, ρ2, st'.trans (stall.trans st4), ok4, en4, EndsS.later (stall.trans st4) fun r hr => by subst hr; exact h'⟩
            | ct ρ2 =>
              simp only [e2] at h'
              exact fun fa4 σ4 H4 st4 ok4 en4 => ⟨fa4, S2, ρ2, st'.trans (stall.trans st4), ok4, en4, EndsS.later (stall.trans st4) fun r hr => by subst hr; exact h'⟩
            | bk ρ2 =>
              simp only [e2] at h'
              exact fun fa4 σ4 H4 st4 ok4 en4 => h' fa4 σ4 H4 (stall.trans st4) ok4 en4
            | ret d =>
              simp only [e2] at h'
              exact fun fa4 v H4 st4 ok4 r4 => h' fa4 v H4 (stall.trans st4) ok4 r4
            | xc ρ2 x =>
              simp only [e2] at h'
              exact fun fa4 σ4 cls d H4 st4 ok4 en4 xr => h' fa4 σ4 cls d H4 (stall.trans st4) ok4 en4 xr
      · simp only [if_neg hg] at h'
    · have ei : i = items.length := by omega
      subst ei
      rw [List.drop_length] at h'
      unfold EndsS forL at h'
      by_cases hg : guard src items S'
      · simp only [if_pos hg] at h'
        exact .inl ⟨(it fa' S' H' st' ok' hg).1 _ (Nat.le_refl _), h' fa' σ' H' .refl ok' en'⟩
      · simp only [if_neg hg] at h') fun _ _ _ z => z⟩
/-! ### while -/
def whileL (t : Rho → M Bool) (body : MS) : Nat → MS
  | 0, _ => M.bad
  | n + 1, ρ => lift ρ (t ρ) fun k => if k = true then (fun S => match body ρ S with
      | .ok (.nx ρ2) S2 => whileL t body n ρ2 S2
      | .ok (.ct ρ2) S2 => whileL t body n ρ2 S2
      | .ok (.bk ρ2) S2 => .ok (.nx ρ2) S2
      | r => r) else pure (.nx ρ)
theorem sv_while {body : List Stmt} {mb : MS} (n : Nat) (hp : PassesOwn (model X.prog X.w) X.A X.env X.xe) (ht : PT X e (TvR c W t)) (hb : PSs X body (SvR c W mb)) : PS X (.While e body [] pos) (SvR c W (whileL t mb n)) :=
  (ps_while hp ht hb).imp fun Dn σ H ⟨fa, S, ρ, ok, en, h⟩ => by
    refine ⟨fun m σ' H' => ∃ fa' S' ρ', StOk c fa' S' H' ∧ EnvOk c fa' H' ρ' σ' ∧ EndsS c W (whileL t mb m ρ') fa' S' H' Dn, ⟨n, fa, S, ρ, ok, en, h⟩, ?_⟩
    rintro m σ' H' ⟨fa', S', ρ', ok', en', h'⟩
    cases m with
    | zero => exact h'.elim
    | succ m =>
      refine ⟨fa', S', ρ', ok', en', (h'.lift en').imp (fun k H1 ⟨fa1, S1, d, ok1, st1, r1, h1⟩ => ?_) fun _ _ _ z => z⟩
      subst r1
      cases k with
      | false => exact h1 fa1 σ' H1 .refl ok1 (en'.mono st1)
      | true =>
        refine ⟨fun σ2 H2 => ∃ fa2 S2 ρ2, StOk c fa2 S2 H2 ∧ EnvOk c fa2 H2 ρ2 σ2 ∧ EndsS c W (whileL t mb m ρ2) fa2 S2 H2 Dn, fun σ2 H2 q => ⟨m, Nat.lt_succ_self m, q⟩, fa1, S1, ρ', ok1, en'.mono st1, ?_⟩
        simp only [if_true] at h1
        unfold EndsS at h1 ⊢
        cases e2 : mb ρ' S1 with
        | bad => simp only [e2] at h1
        | exc x S2 => simp only [e2] at h1
        | ok f S2 =>
          cases f with
          | nx ρ2 =>
            simp only [e2] at h1
            exact fun fa4 σ4 H4 st4 ok4 en4 => ⟨fa4, S2, ρ2, ok4, en4, EndsS.later st4 fun r hr => by subst hr; exact h1⟩
          | ct ρ2 =>
            simp only [e2] at h1
            exact fun fa4 σ4 H4 st4 ok4 en4 => ⟨fa4, S2, ρ2, ok4, en4, EndsS.later st4 fun r hr => by subst hr; exact h1⟩
          | bk ρ2 => simp only [e2] at h1; exact h1
          | ret d => simp only [e2] at h1; exact h1
          | xc ρ2 x => simp only [e2] at h1; exact h1
end
end CR

/-! CrG: what nobody holds any more is dropped from the store. -/
namespace CR
open PySem PySem.Spec PyProof.Rows L2
mutual
def Rel2 (c : Kx) (fx fa : List Addr) (H : Hp) : D → V → Prop
  | .non, v => v = .non
  | .bl b, v => v = .bl b
  | .int i, v => v = .int i
  | .str x, v => v = .str x
  | .tup ds, v => ∃ a vs, v = .ref a ∧ ((a ∉ fx ∧ ∃ o : Obj, o.dict = none ∧ H a = some (.frz o (.tup vs))) ∨ (ds = [] ∧ KT c.K a vs)) ∧ Rels2 c fx fa H ds vs
  | .tp ds, v => ∃ a vs, v = .ref a ∧ (a ∉ fx ∧ H a = some (.tup vs)) ∧ Rels2 c fx fa H ds vs
  | .lst ds, v => ∃ a vs, v = .ref a ∧ (a ∉ fx ∧ H a = some (.lst vs)) ∧ Rels2 c fx fa H ds vs
  | .fz ds, v => ∃ a vs, v = .ref a ∧ ((a ∉ fx ∧ Rd H a (.lst vs)) ∨ KL c.K a vs) ∧ Rels2 c fx fa H ds vs
  | .kt ds, v => ∃ a vs, v = .ref a ∧ KT c.K a vs ∧ Rels2 c fx fa H ds vs
  | .dK ks ds, v => ∃ a vs, v = .ref a ∧ (a ∉ fx ∧ Rd H a (.dK (ks.zip vs))) ∧ ks.length = vs.length ∧ Rels2 c fx fa H ds vs
  | .dT ks ds, v => ∃ a vs, v = .ref a ∧ (a ∉ fx ∧ Rd H a (.dT (ks.zip vs))) ∧ ks.length = vs.length ∧ Rels2 c fx fa H ds vs
  | .ins n fs ds, v => ∃ a C dx vs, v = .ref a ∧ (a ∉ fx ∧ H a = some (.ins C dx (fs.zip vs))) ∧ c.cl n = some C ∧ fs.length = vs.length ∧ Rels2 c fx fa H ds vs
  | .ref n, v => ∃ a, fa[n]? = some a ∧ v = .ref a
def Rels2 (c : Kx) (fx fa : List Addr) (H : Hp) : List D → List V → Prop
  | [], vs => vs = []
  | d :: ds, vs => ∃ v r, vs = v :: r ∧ Rel2 c fx fa H d v ∧ Rels2 c fx fa H ds r
end
/-! no place of the store from n on -/
mutual
def below (n : Nat) : D → Bool
  | .tup ds => belows n ds
  | .tp ds => belows n ds
  | .lst ds => belows n ds
  | .fz ds => belows n ds
  | .kt ds => belows n ds
  | .dK _ ds => belows n ds
  | .dT _ ds => belows n ds
  | .ins _ _ ds => belows n ds
  | .ref k => Nat.blt k n
  | _ => true
def belows (n : Nat) : List D → Bool
  | [] => true
  | d :: ds => below n d && belows n ds
end
/-! what stands at the places from n on, put in -/
mutual
def sub1 (S : Sto) (n : Nat) : D → D
  | .tup ds => .tup (subs1 S n ds)
  | .tp ds => .tp (subs1 S n ds)
  | .lst ds => .lst (subs1 S n ds)
  | .fz ds => .fz (subs1 S n ds)
  | .kt ds => .kt (subs1 S n ds)
  | .dK ks ds => .dK ks (subs1 S n ds)
  | .dT ks ds => .dT ks (subs1 S n ds)
  | .ins c fs ds => .ins c fs (subs1 S n ds)
  | .ref k => if Nat.blt k n = true then .ref k else (S[k]?).getD (.ref k)
  | d => d
def subs1 (S : Sto) (n : Nat) : List D → List D
  | [] => []
  | d :: ds => sub1 S n d :: subs1 S n ds
end
section
variable {c : Kx} {fx fa : List Addr} {H : Hp} {S : Sto} {n : Nat}
mutual
theorem Rel.to2 (hx : ∀ a ∈ fx, a ∈ fa) : ∀ (d : D) (v : V), Rel c fa H d v → Rel2 c fx fa H d v
  | .non, _, h => by simp only [Rel, Rel2] at h ⊢; exact h
  | .bl _, _, h => by simp only [Rel, Rel2] at h ⊢; exact h
  | .int _, _, h => by simp only [Rel, Rel2] at h ⊢; exact h
  | .str _, _, h => by simp only [Rel, Rel2] at h ⊢; exact h
  | .tup ds, v, h => by
    simp only [Rel, Rel2] at h ⊢
    obtain ⟨a, vs, e, h, r⟩ := h
    exact ⟨a, vs, e, h.imp (fun z => ⟨fun y => z.1 (hx a y), z.2⟩) id, Rels.to2 hx ds vs r⟩
  | .tp ds, v, h => by
    simp only [Rel, Rel2] at h ⊢
    obtain ⟨a, vs, e, z, r⟩ := h
    exact ⟨a, vs, e, ⟨fun y => z.1 (hx a y), z.2⟩, Rels.to2 hx ds vs r⟩
  | .lst ds, v, h => by
    simp only [Rel, Rel2] at h ⊢
    obtain ⟨a, vs, e, z, r⟩ := h
    exact ⟨a, vs, e, ⟨fun y => z.1 (hx a y), z.2⟩, Rels.to2 hx ds vs r⟩
  | .fz ds, v, h => by
    simp only [Rel, Rel2] at h ⊢
    obtain ⟨a, vs, e, h, r⟩ := h
    exact ⟨a, vs, e, h.imp (fun z => ⟨fun y => z.1 (hx a y), z.2⟩) id, Rels.to2 hx ds vs r⟩
  | .kt ds, v, h => by
    simp only [Rel, Rel2] at h ⊢
    obtain ⟨a, vs, e, h, r⟩ := h
    exact ⟨a, vs, e, h, Rels.to2 hx ds vs r⟩
  | .dK ks ds, v, h => by
    simp only [Rel, Rel2] at h ⊢
    obtain ⟨a, vs, e, z, l, r⟩ := h
    exact ⟨a, vs, e, ⟨fun y => z.1 (hx a y), z.2⟩, l, Rels.to2 hx ds vs r⟩
  | .dT ks ds, v, h => by
    simp only [Rel, Rel2] at h ⊢
    obtain ⟨a, vs, e, z, l, r⟩ := h
    exact ⟨a, vs, e, ⟨fun y => z.1 (hx a y), z.2⟩, l, Rels.to2 hx ds vs r⟩
  | .ins m fs ds, v, h => by
    simp only [Rel, Rel2] at h ⊢
    obtain ⟨a, C, dx, vs, e, z, k, l, r⟩ := h
    exact ⟨a, C, dx, vs, e, ⟨fun y => z.1 (hx a y), z.2⟩, k, l, Rels.to2 hx ds vs r⟩
  | .ref k, v, h => by simp only [Rel, Rel2] at h ⊢; exact h
theorem Rels.to2 (hx : ∀ a ∈ fx, a ∈ fa) : ∀ (ds : List D) (vs : List V), Rels c fa H ds vs → Rels2 c fx fa H ds vs
  | [], _, h => by simp only [Rels, Rels2] at h ⊢; exact h
  | d :: ds, vs, h => by
    simp only [Rels, Rels2] at h ⊢
    obtain ⟨v, r, e, h1, h2⟩ := h
    exact ⟨v, r, e, Rel.to2 hx d v h1, Rels.to2 hx ds r h2⟩
end
mutual
theorem Rel2.back (hp : ∀ (m : Nat) (a : Addr), m < n → fa[m]? = some a → fx[m]? = some a) : ∀ (d : D) (v : V), below n d = true → Rel2 c fx fa H d v → Rel c fx H d v
  | .non, _, _, h => by simp only [Rel, Rel2] at h ⊢; exact h
  | .bl _, _, _, h => by simp only [Rel, Rel2] at h ⊢; exact h
  | .int _, _, _, h => by simp only [Rel, Rel2] at h ⊢; exact h
  | .str _, _, _, h => by simp only [Rel, Rel2] at h ⊢; exact h
  | .tup ds, v, b, h => by
    simp only [Rel, Rel2, below] at h b ⊢
    obtain ⟨a, vs, e, h, r⟩ := h
    exact ⟨a, vs, e, h, Rels2.back hp ds vs b r⟩
  | .tp ds, v, b, h => by
    simp only [Rel, Rel2, below] at h b ⊢
    obtain ⟨a, vs, e, z, r⟩ := h
    exact ⟨a, vs, e, z, Rels2.back hp ds vs b r⟩
  | .lst ds, v, b, h => by
    simp only [Rel, Rel2, below] at h b ⊢
    obtain ⟨a, vs, e, z, r⟩ := h
    exact ⟨a, vs, e, z, Rels2.back hp ds vs b r⟩
  | .fz ds, v, b, h => by
    simp only [Rel, Rel2, below] at h b ⊢
    obtain ⟨a, vs, e, h, r⟩ := h
    exact ⟨a, vs, e, h, Rels2.back hp ds vs b r⟩
  | .kt ds, v, b, h => by
    simp only [Rel, Rel2, below] at h b ⊢
    obtain ⟨a, vs, e, h, r⟩ := h
    exact ⟨a, vs, e, h, Rels2.back hp ds vs b r⟩
  | .dK ks ds, v, b, h => by
    simp only [Rel, Rel2, below] at h b ⊢
    obtain ⟨a, vs, e, z, l, r⟩ := h
    exact ⟨a, vs, e, z, l, Rels2.back hp ds vs b r⟩
  | .dT ks ds, v, b, h => by
    simp only [Rel, Rel2, below] at h b ⊢
    obtain ⟨a, vs, e, z, l, r⟩ := h
    exact ⟨a, vs, e, z, l, Rels2.back hp ds vs b r⟩
  | .ins m fs ds, v, b, h => by
    simp only [Rel, Rel2, below] at h b ⊢
    obtain ⟨a, C, dx, vs, e, z, k, l, r⟩ := h
    exact ⟨a, C, dx, vs, e, z, k, l, Rels2.back hp ds vs b r⟩
  | .ref k, v, b, h => by
    simp only [Rel, Rel2, below] at h b ⊢
    obtain ⟨a, e, z⟩ := h
    have hk : k < n := by simpa using b
    exact ⟨a, hp k a hk e, z⟩
theorem Rels2.back (hp : ∀ (m : Nat) (a : Addr), m < n → fa[m]? = some a → fx[m]? = some a) : ∀ (ds : List D) (vs : List V), belows n ds = true → Rels2 c fx fa H ds vs → Rels c fx H ds vs
  | [], _, _, h => by simp only [Rels, Rels2] at h ⊢; exact h
  | d :: ds, vs, b, h => by
    simp only [Rels, Rels2, belows, Bool.and_eq_true] at h b ⊢
    obtain ⟨v, r, e, h1, h2⟩ := h
    exact ⟨v, r, e, Rel2.back hp d v b.1 h1, Rels2.back hp ds r b.2 h2⟩
end
theorem at_pre {fx fa : List Addr} (hp : fx <+: fa) : ∀ (m : Nat) (a : Addr), m < fx.length → fa[m]? = some a → fx[m]? = some a := fun m a hm e => by
  obtain ⟨t, rfl⟩ := hp
  rw [List.getElem?_append_left hm] at e
  exact e
mutual
theorem Rel2.sub (ok : StOk c fa S H) (hp : fx <+: fa) : ∀ (d : D) (v : V), Rel2 c fx fa H d v → Rel2 c fx fa H (sub1 S fx.length d) v
  | .non, _, h => by simp only [Rel2, sub1] at h ⊢; exact h
  | .bl _, _, h => by simp only [Rel2, sub1] at h ⊢; exact h
  | .int _, _, h => by simp only [Rel2, sub1] at h ⊢; exact h
  | .str _, _, h => by simp only [Rel2, sub1] at h ⊢; exact h
  | .tup ds, v, h => by
    simp only [Rel2, sub1] at h ⊢
    obtain ⟨a, vs, e, h, r⟩ := h
    refine ⟨a, vs, e, ?_, Rels2.sub ok hp ds vs r⟩
    rcases h with h | h
    · exact .inl h
    · refine .inr ⟨?_, h.2⟩
      rw [h.1]; simp only [subs1]
  | .tp ds, v, h => by
    simp only [Rel2, sub1] at h ⊢
    obtain ⟨a, vs, e, z, r⟩ := h
    exact ⟨a, vs, e, z, Rels2.sub ok hp ds vs r⟩
  | .lst ds, v, h => by
    simp only [Rel2, sub1] at h ⊢
    obtain ⟨a, vs, e, z, r⟩ := h
    exact ⟨a, vs, e, z, Rels2.sub ok hp ds vs r⟩
  | .fz ds, v, h => by
    simp only [Rel2, sub1] at h ⊢
    obtain ⟨a, vs, e, h, r⟩ := h
    exact ⟨a, vs, e, h, Rels2.sub ok hp ds vs r⟩
  | .kt ds, v, h => by
    simp only [Rel2, sub1] at h ⊢
    obtain ⟨a, vs, e, h, r⟩ := h
    exact ⟨a, vs, e, h, Rels2.sub ok hp ds vs r⟩
  | .dK ks ds, v, h => by
    simp only [Rel2, sub1] at h ⊢
    obtain ⟨a, vs, e, z, l, r⟩ := h
    exact ⟨a, vs, e, z, l, Rels2.sub ok hp ds vs r⟩
  | .dT ks ds, v, h => by
    simp only [Rel2, sub1] at h ⊢
    obtain ⟨a, vs, e, z, l, r⟩ := h
    exact ⟨a, vs, e, z, l, Rels2.sub ok hp ds vs r⟩
  | .ins m fs ds, v, h => by
    simp only [Rel2, sub1] at h ⊢
    obtain ⟨a, C, dx, vs, e, z, k, l, r⟩ := h
    exact ⟨a, C, dx, vs, e, z, k, l, Rels2.sub ok hp ds vs r⟩
  | .ref k, v, h => by
    by_cases hk : Nat.blt k fx.length = true
    · simp only [sub1, hk, if_true]; exact h
    · simp only [sub1, hk]
      simp only [Rel2] at h
      obtain ⟨a, e, rfl⟩ := h
      cases q : S[k]? with
      | none =>
        have : k < S.length := by rw [← ok.len]; exact (List.getElem?_eq_some_iff.mp e).1
        rw [List.getElem?_eq_getElem this] at q; cases q
      | some o =>
        simp only [Option.getD_some]
        obtain ⟨u, hu, r⟩ := ok.obj k a o e q
        have hn : a ∉ fx := fun z => by
          obtain ⟨j, hj, ej⟩ := List.getElem_of_mem z
          obtain ⟨t, rfl⟩ := hp
          have e2 : (fx ++ t)[j]? = some a := by rw [List.getElem?_append_left hj, List.getElem?_eq_getElem hj, ej]
          have := nodup_get ok.nd e e2
          subst this
          exact hk (by simpa using hj)
        have hsub : ∀ b ∈ fx, b ∈ fa := fun b hb => hp.subset hb
        cases o with
        | lst ds => obtain ⟨vs, rfl, r⟩ := r; simp only [Rel2, Bool.false_eq_true, if_false]; exact ⟨a, vs, rfl, ⟨hn, hu⟩, r.to2 hsub _ _⟩
        | dK ks ds => obtain ⟨vs, rfl, l, r⟩ := r; simp only [Rel2, Bool.false_eq_true, if_false]; exact ⟨a, vs, rfl, ⟨hn, .inl hu⟩, l, r.to2 hsub _ _⟩
        | dT ks ds => obtain ⟨vs, rfl, l, r⟩ := r; simp only [Rel2, Bool.false_eq_true, if_false]; exact ⟨a, vs, rfl, ⟨hn, .inl hu⟩, l, r.to2 hsub _ _⟩
        | ins m fs ds => obtain ⟨C, dx, vs, rfl, kk, l, r⟩ := r; simp only [Rel2, Bool.false_eq_true, if_false]; exact ⟨a, C, dx, vs, rfl, ⟨hn, hu⟩, kk, l, r.to2 hsub _ _⟩
        | _ => exact r.elim
theorem Rels2.sub (ok : StOk c fa S H) (hp : fx <+: fa) : ∀ (ds : List D) (vs : List V), Rels2 c fx fa H ds vs → Rels2 c fx fa H (subs1 S fx.length ds) vs
  | [], _, h => by simp only [Rels2, subs1] at h ⊢; exact h
  | d :: ds, vs, h => by
    simp only [Rels2, subs1] at h ⊢
    obtain ⟨v, r, e, h1, h2⟩ := h
    exact ⟨v, r, e, Rel2.sub ok hp d v h1, Rels2.sub ok hp ds r h2⟩
end
/-- three times -/
def frz (S : Sto) (n : Nat) (d : D) : D := if below n d = true then d else sub1 S n (sub1 S n (sub1 S n d))
def frzs (S : Sto) (n : Nat) (ds : List D) : List D := if belows n ds = true then ds else subs1 S n (subs1 S n (subs1 S n ds))
theorem Rel.frz (ok : StOk c fa S H) (hp : fx <+: fa) {d : D} {v : V} (h : Rel c fa H d v) (b : below fx.length (frz S fx.length d) = true) : Rel c fx H (CR.frz S fx.length d) v := by
  have h2 := h.to2 (fx := fx) (fun b hb => hp.subset hb) d v
  unfold CR.frz at b ⊢
  split
  · rename_i hb
    exact h2.back (at_pre hp) _ _ hb
  · rename_i hb
    rw [if_neg hb] at b
    exact Rel2.back (at_pre hp) _ _ b (Rel2.sub ok hp _ _ (Rel2.sub ok hp _ _ (Rel2.sub ok hp _ _ h2)))
theorem Rels.frz (ok : StOk c fa S H) (hp : fx <+: fa) {d : List D} {v : List V} (h : Rels c fa H d v) (b : belows fx.length (frzs S fx.length d) = true) : Rels c fx H (CR.frzs S fx.length d) v := by
  have h2 := h.to2 (fx := fx) (fun b hb => hp.subset hb) d v
  unfold CR.frzs at b ⊢
  split
  · rename_i hb
    exact h2.back (at_pre hp) _ _ hb
  · rename_i hb
    rw [if_neg hb] at b
    exact Rels2.back (at_pre hp) _ _ b (Rels2.sub ok hp _ _ (Rels2.sub ok hp _ _ (Rels2.sub ok hp _ _ h2)))
/-- an object of the store, its parts put in -/
def frzO (S : Sto) (n : Nat) : D → D
  | .lst ds => .lst (frzs S n ds)
  | .dK ks ds => .dK ks (frzs S n ds)
  | .dT ks ds => .dT ks (frzs S n ds)
  | .ins c fs ds => .ins c fs (frzs S n ds)
  | d => d
theorem RelO.frz (ok : StOk c fa S H) (hp : fx <+: fa) {d : D} {o : HO} (h : RelO c fa H d o) (b : below fx.length (frzO S fx.length d) = true) : RelO c fx H (frzO S fx.length d) o := by
  cases d with
  | lst ds => obtain ⟨vs, e, r⟩ := h; simp only [frzO, below] at b; exact ⟨vs, e, r.frz ok hp b⟩
  | dK ks ds => obtain ⟨vs, e, l, r⟩ := h; simp only [frzO, below] at b; exact ⟨vs, e, l, r.frz ok hp b⟩
  | dT ks ds => obtain ⟨vs, e, l, r⟩ := h; simp only [frzO, below] at b; exact ⟨vs, e, l, r.frz ok hp b⟩
  | ins m fs ds => obtain ⟨C, dx, vs, e, k, l, r⟩ := h; simp only [frzO, below] at b; exact ⟨C, dx, vs, e, k, l, r.frz ok hp b⟩
  | _ => exact h.elim
/-- the store down to n -/
def gcS (n : Nat) (S : Sto) : Sto := (S.take n).map (frzO S n)
theorem StOk.gc (ok : StOk c fa S H) (hp : fx <+: fa) (b : (gcS fx.length S).all (below fx.length) = true) : StOk c fx (gcS fx.length S) H := by
  have hl : fx.length ≤ S.length := by rw [← ok.len]; exact hp.length_le
  refine ⟨?_, by unfold gcS; simp; omega, fun n a d h1 h2 => ?_⟩
  · obtain ⟨t, rfl⟩ := hp
    exact (List.nodup_append.mp ok.nd).1
  · have hn : n < fx.length := (List.getElem?_eq_some_iff.mp h1).1
    have e1 : fa[n]? = some a := by obtain ⟨t, rfl⟩ := hp; rw [List.getElem?_append_left hn]; exact h1
    have hb : below fx.length d = true := List.all_eq_true.mp b d (List.mem_of_getElem? h2)
    unfold gcS at h2
    rw [List.getElem?_map, List.getElem?_take_of_lt hn] at h2
    cases q : S[n]? with
    | none => rw [q] at h2; cases h2
    | some o =>
      rw [q] at h2
      cases h2
      obtain ⟨u, hu, r⟩ := ok.obj n a o e1 q
      exact ⟨u, hu, r.frz ok hp hb⟩
theorem Step.gc {fa0 : List Addr} {H0 : Hp} (st : Step fa0 H0 fa H) : Step fa0 H0 fa0 H := ⟨List.prefix_refl _, fun _ h n => absurd h n, st.ext⟩

end
end CR

/-! CrE: what is walked; comprehensions. -/
namespace CR
open PySem PySem.Spec PyProof.Rows L2
section
variable {X : Cx} {c : Kx} {W : WX} {e : Expr} {pos : Pos} {m : Rho → M D}
theorem M.bind_bad {α β : Type} {m : M α} {f : α → M β} {S : Sto} (h : m S = .bad) : (m >>= f) S = .bad := by
  change M.bind m f S = _
  unfold M.bind
  rw [h]
theorem M.bind_exc {α β : Type} {m : M α} {f : α → M β} {S S1 : Sto} {x : D} (h : m S = .exc x S1) : (m >>= f) S = .exc x S1 := by
  change M.bind m f S = _
  unfold M.bind
  rw [h]
theorem _root_.L2.PI.or {tg e : Expr} {t t' : TI} (h : PI X tg e t) (h' : PI X tg e t') : PI X tg e (fun σ H R => t σ H R ∨ t' σ H R) := ⟨fun pins s σ H R I q => by
  rcases q with q | q
  · exact h.run pins s σ H R I q
  · exact h'.run pins s σ H R I q⟩
/-! ### a list, a tuple, a text -/
def chars (x : Str) : List D := x.cps.toList.map fun k => .str ⟨#[k]⟩
def itemsD (d : D) : M (Src × List D) := fun S => match d with
  | .str x => .ok (none, chars x) S
  | .ref n => (match S[n]? with
    | some (.lst ds) => .ok (some n, ds) S
    | _ => .bad)
  | d => match seqOf S d with
    | some ds => .ok (none, ds) S
    | none => .bad
theorem NoX.itemsD (d : D) : NoX (itemsD d) := fun S x S' h => by
  unfold CR.itemsD at h
  split at h
  · cases h
  · split at h <;> cases h
  · split at h <;> cases h
def iSeq (m : Rho → M D) : Rho → M (Src × List D) := fun ρ => m ρ >>= itemsD
/-- the list at a, held by nobody: as it stands -/
theorem ItOk.lst {fa : List Addr} {H : Hp} {a : Addr} {ds : List D} (h : Rel c fa H (.lst ds) (.ref a)) : ItOk c fa H (Itl c.K a) none ds := by
  intro fa' S' H' st ok _
  have h2 := h.mono st
  simp only [Rel] at h2
  obtain ⟨a', vs, e, ⟨hn, hH⟩, r⟩ := h2
  cases e
  refine ⟨fun i hi => ⟨vs, .inl (.inl hH), by rw [← r.length]; exact hi⟩, fun i d hd => ?_⟩
  obtain ⟨v, hv, rv⟩ := r.get hd
  refine ⟨⟨vs, v, .inl (.inl hH), hv⟩, fun x H'' hy => ?_⟩
  obtain ⟨rfl, hy⟩ := hy
  have e := hy vs (.inl (.inl hH))
  rw [hv] at e; cases e
  exact ⟨.refl, ok, rv⟩
theorem ItOk.fz {fa : List Addr} {H : Hp} {a : Addr} {ds : List D} (h : Rel c fa H (.fz ds) (.ref a)) : ItOk c fa H (Itl c.K a) none ds := by
  intro fa' S' H' st ok _
  have h2 := h.mono st
  simp only [Rel] at h2
  obtain ⟨a', vs, e, hH, r⟩ := h2
  cases e
  have hq : SqL c.K H' a vs := by
    rcases hH with z | z
    · exact .inl z.2
    · exact .inr z
  refine ⟨fun i hi => ⟨vs, hq, by rw [← r.length]; exact hi⟩, fun i d hd => ?_⟩
  obtain ⟨v, hv, rv⟩ := r.get hd
  refine ⟨⟨vs, v, hq, hv⟩, fun x H'' hy => ?_⟩
  obtain ⟨rfl, hy⟩ := hy
  have e := hy vs hq
  rw [hv] at e; cases e
  exact ⟨.refl, ok, rv⟩
theorem ItOk.ref {fa : List Addr} {H : Hp} {a : Addr} {n : Nat} {ds : List D} (h : fa[n]? = some a) : ItOk c fa H (Itl c.K a) (some n) ds := by
  intro fa' S' H' st ok hg
  obtain ⟨o, ho, r⟩ := ok.obj n a _ (st.at h) hg
  obtain ⟨vs, rfl, r⟩ := r
  have hq : SqL c.K H' a vs := .inl (.inl ho)
  refine ⟨fun i hi => ⟨vs, hq, by rw [← r.length]; exact hi⟩, fun i d hd => ?_⟩
  obtain ⟨v, hv, rv⟩ := r.get hd
  refine ⟨⟨vs, v, hq, hv⟩, fun x H'' hy => ?_⟩
  obtain ⟨rfl, hy⟩ := hy
  have e := hy vs hq
  rw [hv] at e; cases e
  exact ⟨.refl, ok, rv⟩
theorem ItOk.tup {fa : List Addr} {H : Hp} {a : Addr} {d0 : D} {ds : List D} (h : Rel c fa H d0 (.ref a)) (e0 : tupOf d0 = some ds) : ItOk c fa H (Itt c.K a) none ds := by
  intro fa' S' H' st ok _
  obtain ⟨a', vs, e, hq, r⟩ := (h.mono st).sqt e0
  cases e
  refine ⟨fun i hi => ⟨vs, hq, by rw [← r.length]; exact hi⟩, fun i d hd => ?_⟩
  obtain ⟨v, hv, rv⟩ := r.get hd
  refine ⟨⟨vs, v, hq, hv⟩, fun x H'' hy => ?_⟩
  obtain ⟨rfl, hy⟩ := hy
  have e := hy vs hq
  rw [hv] at e; cases e
  exact ⟨.refl, ok, rv⟩
theorem ItOk.str {fa : List Addr} {H : Hp} {x : Str} : ItOk c fa H (Its x) none (chars x) := by
  intro fa' S' H' st ok _
  refine ⟨fun i hi => ?_, fun i d hd => ?_⟩
  · simp only [chars, List.length_map] at hi
    exact hi
  · simp only [chars, List.getElem?_map] at hd
    obtain ⟨k, hk, rfl⟩ := Option.map_eq_some_iff.mp hd
    have hlt := (List.getElem?_eq_some_iff.mp hk).1
    refine ⟨?_, fun v H'' hy => ?_⟩
    · show i < x.cps.size
      simpa using hlt
    · obtain ⟨rfl, k', hk', rfl⟩ := hy
      rw [Array.getElem?_toList, hk'] at hk; cases hk
      exact ⟨.refl, ok, .mkS _⟩
theorem EvR.look {σ : L2.St} {H : Hp} {Q : VK} {m : Rho → M D} {fa : List Addr} {S : Sto} {ρ : Rho} (ok : StOk c fa S H) (en : EnvOk c fa H ρ σ) (h : Ends1 c (Rel c) (m ρ) fa S H Q (fun cls d H' => W cls d σ H')) : EvR c W m σ H Q := ⟨fa, S, ρ, ok, en, h⟩
theorem iv_seq {tg : Expr} (hK : c.K = X.K) (he : PE X e (EvR c W m)) : PI X tg e (IvR c W (iSeq m)) :=
  ((pi_list he).or ((pi_tup he).or (pi_str he))).imp fun σ H R ⟨fa, S, ρ, ok, en, h⟩ => by
    have hb := h.bind (R := Rel c)
    have go : ∀ (P : V → Hp → Prop), (∀ b H1 fa1 S1 a, m ρ S = .ok a S1 → StOk c fa1 S1 H1 → Step fa H fa1 H1 → Rel c fa1 H1 a b → Ends1 c (fun fa' H' (p : Src × List D) (J : It) => ItOk c fa' H' J p.1 p.2) (itemsD a) fa1 S1 H1 R (fun cls d H' => W cls d σ H') → P b H1) → EvR c W m σ H P := fun P hP => by
      refine ⟨fa, S, ρ, ok, en, ?_⟩
      unfold Ends1 at hb ⊢
      cases e1 : m ρ S with
      | bad => rw [e1] at hb; exact hb
      | exc x S1 => rw [e1] at hb; exact hb
      | ok a S1 =>
        rw [e1] at hb
        intro fa1 b H1 st1 ok1 r1
        obtain ⟨fa2, S2, a2, ok2, st2, r2, h2⟩ := hb fa1 b H1 st1 ok1 r1
        have h0 : Ends1 c (fun fa' H' (p : Src × List D) (J : It) => ItOk c fa' H' J p.1 p.2) (itemsD a) fa1 S1 H1 R (fun cls d H' => W cls d σ H') := by
          have h3 := h
          unfold Ends1 iSeq at h3
          rw [M.bind_of e1] at h3
          unfold Ends1
          cases e2 : itemsD a S1 with
          | bad => rw [e2] at h3; exact h3
          | exc x S3 => exact absurd e2 (NoX.itemsD a _ _ _)
          | ok p S3 => rw [e2] at h3; exact fun fa' b H' st => h3 fa' b H' (st1.trans st)
        exact hP b H1 fa1 S1 a e1 ok1 st1 r1 h0
    cases e1 : m ρ S with
    | bad =>
      unfold Ends1 iSeq at h
      rw [M.bind_bad e1] at h
      exact h.elim
    | exc x S1 =>
      exact .inl (go _ fun b H1 fa1 S1' a e2 => by rw [e1] at e2; cases e2)
    | ok a S1 =>
      have fin : ∀ {P : V → Hp → Prop}, (∀ b H1 fa1, StOk c fa1 S1 H1 → Rel c fa1 H1 a b → Ends1 c (fun fa' H' (p : Src × List D) (J : It) => ItOk c fa' H' J p.1 p.2) (itemsD a) fa1 S1 H1 R (fun cls d H' => W cls d σ H') → P b H1) → EvR c W m σ H P := fun hP =>
        go _ fun b H1 fa1 S1' a' e2 ok1 st1 r1 h1 => by
          rw [e1] at e2; cases e2
          exact hP b H1 fa1 ok1 r1 h1
      have tl : ∀ ds, listOf S1 a = some ds → (∀ es, a ≠ .ref es) → (∀ z, a ≠ .str z) → iList X.K (EvR c W m) σ H R := fun ds hds nr ns => fin fun b H1 fa1 ok1 r1 h1 => by
        have hi : itemsD a S1 = .ok (none, ds) S1 := by
          unfold itemsD
          cases a with
          | ref n => exact absurd rfl (nr n)
          | str z => exact absurd rfl (ns z)
          | lst es => cases hds; rfl
          | fz es => cases hds; rfl
          | _ => cases hds
        obtain ⟨q, vs, rfl, hq, rr⟩ := r1.sql ok1 hds
        rw [← hK]
        refine ⟨q, rfl, ⟨vs, hq⟩, ?_⟩
        unfold Ends1 at h1
        rw [hi] at h1
        refine h1 fa1 _ H1 .refl ok1 ?_
        cases a with
        | lst es => cases hds; exact ItOk.lst r1
        | fz es => cases hds; exact ItOk.fz r1
        | ref n => exact absurd rfl (nr n)
        | _ => cases hds
      have tt : ∀ ds, tupOf a = some ds → iTup X.K (EvR c W m) σ H R := fun ds hds => fin fun b H1 fa1 ok1 r1 h1 => by
        have hi : itemsD a S1 = .ok (none, ds) S1 := by
          unfold itemsD
          cases a with
          | tup es => cases hds; rfl
          | tp es => cases hds; rfl
          | kt es => cases hds; rfl
          | _ => cases hds
        obtain ⟨q, vs, rfl, hq, rr⟩ := r1.sqt hds
        rw [← hK]
        refine ⟨q, rfl, ⟨vs, hq⟩, ?_⟩
        unfold Ends1 at h1
        rw [hi] at h1
        exact h1 fa1 _ H1 .refl ok1 (ItOk.tup r1 hds)
      have tb : (∀ S', itemsD a S' = .bad) → iList X.K (EvR c W m) σ H R := fun hbad => fin fun b H1 fa1 ok1 r1 h1 => by
        unfold Ends1 at h1
        rw [hbad] at h1
        exact h1.elim
      cases a with
      | str z =>
        refine .inr (.inr (fin fun b H1 fa1 ok1 r1 h1 => ⟨z, r1.str, ?_⟩))
        exact h1 fa1 _ H1 .refl ok1 ItOk.str
      | lst es => exact .inl (tl es rfl (fun _ z => by cases z) fun _ z => by cases z)
      | fz es => exact .inl (tl es rfl (fun _ z => by cases z) fun _ z => by cases z)
      | tup es => exact .inr (.inl (tt es rfl))
      | tp es => exact .inr (.inl (tt es rfl))
      | kt es => exact .inr (.inl (tt es rfl))
      | ref n =>
        refine .inl (fin fun b H1 fa1 ok1 r1 h1 => ?_)
        have h2 := r1
        simp only [Rel] at r1
        obtain ⟨q, hq, rfl⟩ := r1
        unfold Ends1 itemsD at h1
        cases e3 : S1[n]? with
        | none => simp only [e3] at h1
        | some o =>
          cases o with
          | lst ds =>
            simp only [e3] at h1
            obtain ⟨u, hu, rr⟩ := ok1.obj n q _ hq e3
            obtain ⟨vs, rfl, rr⟩ := rr
            rw [← hK]
            exact ⟨q, rfl, ⟨vs, .inl (.inl hu)⟩, h1 fa1 _ H1 .refl ok1 (ItOk.ref hq)⟩
          | _ => simp only [e3] at h1
      | _ => exact .inl (tb fun _ => rfl)
/-! ### range -/
def rangeL (lo hi : Int) : List D := (List.range (hi - lo).toNat).map fun (i : Nat) => .int (lo + i)
theorem ItOk.range {fa : List Addr} {H : Hp} {lo hi : Int} : ItOk c fa H (Itr lo (hi - lo).toNat) none (rangeL lo hi) := by
  intro fa' S' H' st ok _
  refine ⟨fun i hj => ?_, fun i d hd => ?_⟩
  · simp only [rangeL, List.length_map, List.length_range] at hj
    exact hj
  · simp only [rangeL, List.getElem?_map] at hd
    obtain ⟨k, hk, rfl⟩ := Option.map_eq_some_iff.mp hd
    obtain ⟨h1, h2⟩ := List.getElem?_eq_some_iff.mp hk
    simp only [List.getElem_range] at h2
    subst h2
    refine ⟨show i < (hi - lo).toNat by simpa using h1, fun v H'' hy => ?_⟩
    obtain ⟨rfl, rfl⟩ := hy
    exact ⟨.refl, ok, .mkI _⟩
def smallI (i : Int) : Bool := decide (-(2 ^ 62) ≤ i) && decide (i < 2 ^ 62)
theorem smallI_iff {i : Int} : smallI i = true ↔ -(2 ^ 62) ≤ i ∧ i < 2 ^ 62 := by simp [smallI]
def rng1 (ds : List D) : M (Src × List D) := match ds with
  | [.int j] => if smallI j = true then pure (none, rangeL 0 j) else M.bad
  | _ => M.bad
def rng2 (ds : List D) : M (Src × List D) := match ds with
  | [.int i, .int j] => if (smallI i && smallI j) = true then pure (none, rangeL i j) else M.bad
  | _ => M.bad
def iRg (f : List D → M (Src × List D)) (m : Rho → M (List D)) : Rho → M (Src × List D) := fun ρ => m ρ >>= f
theorem iv_range1 {tg a : Expr} {p : Pos} {mr : Rho → M (List D)} (hg : Gl X "range") (hm : X.mg "range" = none) (hs : starEach [a] X.env = [(false, eval a X.env)]) (ha : PA X [a] (AvR c W mr)) : PI X tg (.Call (.Name "range" p) [a] [] pos) (IvR c W (iRg rng1 mr)) :=
  (pi_range1 hg hm ha hs).imp fun σ H R ⟨fa, S, ρ, ok, en, h⟩ => by
    refine ⟨fa, S, ρ, ok, en, h.bind.imp (fun x H1 ⟨fa1, S1, d, ok1, st1, r1, h1⟩ => ?_) fun _ _ _ z => z⟩
    unfold rng1 at h1
    split at h1
    · rename_i j
      by_cases hj : smallI j = true
      · rw [if_pos hj] at h1
        obtain ⟨v, rfl, r2⟩ := r1.one
        rw [r2.int]
        have hh := smallI_iff.mp hj
        refine ⟨j, rfl, hh.1, hh.2, ?_⟩
        have := h1.pure0 ok1 (ItOk.range (c := c) (fa := fa1) (H := H1) (lo := 0) (hi := j))
        simpa using this
      · rw [if_neg hj] at h1; exact h1.bad.elim
    · exact h1.bad.elim
theorem iv_range2 {tg a b : Expr} {p : Pos} {mr : Rho → M (List D)} (hg : Gl X "range") (hm : X.mg "range" = none) (hs : starEach [a, b] X.env = [(false, eval a X.env), (false, eval b X.env)]) (hs2 : starEach [b] X.env = [(false, eval b X.env)]) (ha : PA X [a, b] (AvR c W mr)) :
    PI X tg (.Call (.Name "range" p) [a, b] [] pos) (IvR c W (iRg rng2 mr)) :=
  (pi_range2 hg hm ha hs hs2).imp fun σ H R ⟨fa, S, ρ, ok, en, h⟩ => by
    refine ⟨fa, S, ρ, ok, en, h.bind.imp (fun x H1 ⟨fa1, S1, d, ok1, st1, r1, h1⟩ => ?_) fun _ _ _ z => z⟩
    unfold rng2 at h1
    split at h1
    · rename_i i j
      by_cases hj : (smallI i && smallI j) = true
      · rw [if_pos hj] at h1
        obtain ⟨v, w, rfl, r2, r3⟩ := r1.two
        rw [r2.int, r3.int]
        rw [Bool.and_eq_true, smallI_iff, smallI_iff] at hj
        exact ⟨i, j, rfl, ⟨hj.1.1, hj.1.2, hj.2.1, hj.2.2⟩, h1.pure0 ok1 (ItOk.range (c := c) (fa := fa1) (H := H1) (lo := i) (hi := j))⟩
      · rw [if_neg hj] at h1; exact h1.bad.elim
    · exact h1.bad.elim
end
end CR

/-! CrE2: comprehensions. -/
namespace CR
open PySem PySem.Spec PyProof.Rows L2
abbrev W0 : WX := fun _ _ _ _ => False
def wipeR (ρ : Rho) : List Nat → Rho
  | [] => ρ
  | v :: vs => (wipeR ρ vs).set v none
theorem wipeR_len (ρ : Rho) : ∀ vs : List Nat, (wipeR ρ vs).length = ρ.length
  | [] => rfl
  | v :: vs => by unfold wipeR; rw [List.length_set, wipeR_len ρ vs]
section
variable {X : Cx} {c : Kx} {W : WX}
theorem EnvOk.unset {fa : List Addr} {H : Hp} {ρ : Rho} {σ : L2.St} (h : EnvOk c fa H ρ σ) (i : Nat) : EnvOk c fa H (ρ.set i none) (σ.set i none) := by
  refine ⟨by simp [h.1], fun j e q => ?_⟩
  by_cases hj : i = j
  · subst hj
    by_cases hl : i < ρ.length
    · rw [List.getElem?_set_self hl] at q; cases q
    · rw [List.getElem?_eq_none (by simpa using hl)] at q; cases q
  · rw [List.getElem?_set_ne hj] at q ⊢
    exact h.2 j e q
theorem EnvOk.wipe {fa : List Addr} {H : Hp} {ρ : Rho} {σ : L2.St} (h : EnvOk c fa H ρ σ) : ∀ vs : List Nat, EnvOk c fa H (wipeR ρ vs) (L2.wipe σ vs)
  | [] => h
  | v :: vs => (EnvOk.wipe h vs).unset v
/-- own slots stored, all else as before -/
theorem wipe_set (σ : L2.St) (x : Option V) (i : Nat) : ∀ vs : List Nat, i ∈ vs → L2.wipe (σ.set i x) vs = L2.wipe σ vs
  | [], h => by cases h
  | v :: vs, h => by
    unfold L2.wipe
    by_cases hv : i ∈ vs
    · rw [wipe_set σ x i vs hv]
    · have : i = v := by simpa [hv] using h
      subst this
      have go : ∀ us : List Nat, i ∉ us → L2.wipe (σ.set i x) us = (L2.wipe σ us).set i x := by
        intro us
        induction us with
        | nil => intro _; rfl
        | cons u us ih =>
          intro hu
          simp only [List.mem_cons, not_or] at hu
          show (L2.wipe (σ.set i x) us).set u none = ((L2.wipe σ us).set u none).set i x
          rw [ih hu.2, List.set_comm _ _ (Ne.symm hu.1)]
      rw [go vs hv, List.set_set]
theorem wipe_wipe (σ : L2.St) (vs : List Nat) : L2.wipe (L2.wipe σ vs) vs = L2.wipe σ vs := by
  have go : ∀ us : List Nat, (∀ u ∈ us, u ∈ vs) → L2.wipe (L2.wipe σ us) vs = L2.wipe σ vs := by
    intro us
    induction us with
    | nil => intro _; rfl
    | cons u us ih =>
      intro h
      show L2.wipe ((L2.wipe σ us).set u none) vs = _
      rw [wipe_set _ _ _ _ (h u (List.mem_cons_self ..)), ih fun z hz => h z (List.mem_cons_of_mem _ hz)]
  exact go vs fun _ h => h
/-- a target that stores own slots alone -/
def PureG (c : Kx) (g : TG) (gm : D → Rho → Option Rho) (vs : List Nat) : Prop :=
  ∀ (v : V) (σ : L2.St) (H : Hp) (Q : L2.St → Hp → Prop) (fa : List Addr) (S : Sto) (ρ ρ1 : Rho) (d : D), StOk c fa S H → EnvOk c fa H ρ σ → Rel c fa H d v → gm d ρ = some ρ1 → (∀ σ2, EnvOk c fa H ρ1 σ2 → L2.wipe σ2 vs = L2.wipe σ vs → Q σ2 H) → g v σ H Q
def gmName (i : Nat) : D → Rho → Option Rho := fun d ρ => some (ρ.set i (some d))
theorem pure_name {i : Nat} {vs : List Nat} (hi : i ∈ vs) : PureG c (gName i) (gmName i) vs := fun v σ H Q fa S ρ ρ1 d ok en r e h => by
  cases e
  exact h _ (en.set i r) (wipe_set σ _ i vs hi)
def gmNames : List Nat → List D → Rho → Option Rho
  | [], [], ρ => some ρ
  | i :: is, d :: ds, ρ => gmNames is ds (ρ.set i (some d))
  | _, _, _ => none
def gNames : List Nat → TGs
  | [] => gNil
  | i :: is => gCons (gName i) (gNames is)
theorem pure_names {vs : List Nat} : ∀ (is : List Nat), (∀ i ∈ is, i ∈ vs) → ∀ (ws : List V) (σ : L2.St) (H : Hp) (Q : L2.St → Hp → Prop) (fa : List Addr) (S : Sto) (ρ ρ1 : Rho) (ds : List D), StOk c fa S H → EnvOk c fa H ρ σ → Rels c fa H ds ws → gmNames is ds ρ = some ρ1 →
    (∀ σ2, EnvOk c fa H ρ1 σ2 → L2.wipe σ2 vs = L2.wipe σ vs → Q σ2 H) → gNames is ws σ H Q
  | [], _, ws, σ, H, Q, fa, S, ρ, ρ1, [], ok, en, r, e, h => by
    cases e
    exact ⟨Rels.nil_iff.mp r, h σ en rfl⟩
  | [], _, ws, σ, H, Q, fa, S, ρ, ρ1, _ :: _, ok, en, r, e, h => by cases e
  | i :: is, hi, ws, σ, H, Q, fa, S, ρ, ρ1, [], ok, en, r, e, h => by cases e
  | i :: is, hi, ws, σ, H, Q, fa, S, ρ, ρ1, d :: ds, ok, en, r, e, h => by
    obtain ⟨v, vr, rfl, r1, r2⟩ := Rels.cons_iff.mp r
    refine ⟨v, vr, rfl, pure_names is (fun j hj => hi j (List.mem_cons_of_mem _ hj)) vr (σ.set i (some v)) H Q fa S (ρ.set i (some d)) ρ1 ds ok (en.set i r1) r2 e fun σ2 en2 w2 => h σ2 en2 ?_⟩
    rw [w2]
    exact wipe_set σ _ i vs (hi i (List.mem_cons_self ..))
def gmTup (is : List Nat) : D → Rho → Option Rho := fun d ρ => match tupOf d with
  | some ds => gmNames is ds ρ
  | none => none
theorem gmNames_len : ∀ {is : List Nat} {ds : List D} {ρ ρ1 : Rho}, gmNames is ds ρ = some ρ1 → ds.length = is.length
  | [], [], _, _, _ => rfl
  | [], _ :: _, _, _, h => by cases h
  | _ :: _, [], _, _, h => by cases h
  | i :: is, d :: ds, ρ, ρ1, h => by simp [gmNames_len (is := is) (ds := ds) h]
theorem pure_tup {is vs : List Nat} (hi : ∀ i ∈ is, i ∈ vs) : PureG c (gTup c.K is.length (gNames is)) (gmTup is) vs := fun v σ H Q fa S ρ ρ1 d ok en r e h => by
  unfold gmTup at e
  split at e
  · rename_i ds e0
    obtain ⟨a, ws, rfl, hq, rr⟩ := r.sqt e0
    exact ⟨a, ws, rfl, hq, by rw [← rr.length]; exact gmNames_len e, pure_names is hi ws σ H Q fa S ρ ρ1 ds ok en rr e h⟩
  · cases e
/-! ### the walk -/
/-- one item more at place n -/
def pushAt (n : Nat) (y : D) (S : Sto) : Res Unit := match S[n]? with
  | some (.lst acc) => if Nat.blt acc.length sizeLine = true then .ok () (S.set n (.lst (acc ++ [y]))) else .bad
  | _ => .bad
/-- cut the store behind a turn (gc), or leave it -/
def cutAt (gc : Bool) (n : Nat) (y : D) (S : Sto) : Option (D × Sto) := if gc = true then
    (if (below n (frz S n y) && (gcS n S).all (below n)) = true then some (frz S n y, gcS n S) else none)
  else some (y, S)
noncomputable def compL (gc : Bool) (src : Src) (all : List D) (gm : D → Rho → Option Rho) (t : Rho → M Bool) (e : Rho → M D) (ρw : Rho) (n : Nat) : List D → M Unit
  | [] => fun S => if guard src all S then .ok () S else .bad
  | d :: ds => fun S => if guard src all S then (match gm d ρw with
    | some ρ1 => (match t ρ1 S with
      | .ok true S1 => (match e ρ1 S1 with
        | .ok y S2 => (match cutAt gc (n + 1) y S2 with
          | some (y', S3) => (match pushAt n y' S3 with
            | .ok _ S4 => compL gc src all gm t e ρw n ds S4
            | _ => .bad)
          | none => .bad)
        | _ => .bad)
      | .ok false S1 => (match cutAt gc (n + 1) .non S1 with
          | some (_, S3) => compL gc src all gm t e ρw n ds S3
          | none => .bad)
      | _ => .bad)
    | none => .bad) else .bad
theorem cut_ok {fa0 fa : List Addr} {H0 H : Hp} {S S' : Sto} {gc : Bool} {y y' : D} {v : V} (st : Step fa0 H0 fa H) (ok : StOk c fa S H) (r : Rel c fa H y v) (h : cutAt gc fa0.length y S = some (y', S')) :
    ∃ fa', Step fa0 H0 fa' H ∧ StOk c fa' S' H ∧ Rel c fa' H y' v ∧ ∀ a, a ∈ fa' → a ∈ fa := by
  unfold cutAt at h
  by_cases hg : gc = true
  · rw [if_pos hg] at h
    split at h
    · rename_i hb
      cases h
      rw [Bool.and_eq_true] at hb
      exact ⟨fa0, st.gc, ok.gc st.pre hb.2, r.frz ok st.pre hb.1, fun a ha => st.pre.subset ha⟩
    · cases h
  · rw [if_neg hg] at h
    cases h
    exact ⟨fa, st, ok, r, fun a ha => ha⟩
/-- the end of a comprehension: held by nobody -/
def endA (n : Nat) (S : Sto) : Res D := match S[n]? with
  | some (.lst ds) => if (belows n ds && (gcS n S).all (below n)) = true then .ok (.lst ds) (gcS n S) else .bad
  | _ => .bad
/-- .. in the store -/
def endB (n : Nat) (S : Sto) : Res D := .ok (.ref n) S
noncomputable def eComp (gc own : Bool) (mi : Rho → M (Src × List D)) (vs : List Nat) (gm : D → Rho → Option Rho) (t : Rho → M Bool) (e : Rho → M D) : Rho → M D := fun ρ => mi ρ >>= fun p => fun S =>
  match compL gc p.1 p.2 gm t e (wipeR ρ vs) S.length p.2 (S ++ [.lst []]) with
  | .ok _ S' => if own = true then endB S.length S' else endA S.length S'
  | _ => .bad
theorem comp_read {gc own : Bool} {mi : Rho → M (Src × List D)} {vs : List Nat} {g : TG} {gm : D → Rho → Option Rho} {t : Rho → M Bool} {el : Rho → M D} (pg : PureG c g gm vs) {σ : L2.St} {H : Hp} {Q : VK} (h : EvR c W (eComp gc own mi vs gm t el) σ H Q) :
    tLc (IvR c W mi) g (TvR c W0 t) (EvR c W0 el) vs σ H Q := by
  obtain ⟨fa, S, ρ, ok, en, h⟩ := h
  refine ⟨fa, S, ρ, ok, en, h.bind.imp (fun J H1 ⟨fa1, S1, p, ok1, st1, it, h1⟩ => ?_) fun _ _ _ z => z⟩
  obtain ⟨src, items⟩ := p
  intro Dd hD
  have hl1 : fa1.length = S1.length := ok1.len
  have stD : Step fa1 H1 (fa1 ++ [Dd]) (upd H1 Dd (.lst [])) := Step.alloc ok1 hD
  have okD : StOk c (fa1 ++ [Dd]) (S1 ++ [.lst []]) (upd H1 Dd (.lst [])) := ok1.alloc hD ⟨[], rfl, .nil⟩
  -- what is left to be done from a state
  let Rest : List D → List Addr → Sto → Hp → Prop := fun ds fa' S' H' => ∃ S2, compL gc src items gm t el (wipeR ρ vs) S1.length ds S' = .ok () S2 ∧
    Ends1 c (Rel c) (fun _ => if own = true then endB S1.length S2 else endA S1.length S2) fa1 S1 H1 Q (fun cls d H' => W cls d σ H')
  have h1' : Rest items (fa1 ++ [Dd]) (S1 ++ [.lst []]) (upd H1 Dd (.lst [])) := by
    unfold Ends1 at h1
    cases e1 : compL gc src items gm t el (wipeR ρ vs) S1.length items (S1 ++ [.lst []]) with
    | ok u S2 => simp only [e1] at h1; exact ⟨S2, e1, h1⟩
    | exc x S2 => simp only [e1] at h1
    | bad => simp only [e1] at h1
  have hz : ∀ {fa' : List Addr} {H' : Hp}, Step (fa1 ++ [Dd]) (upd H1 Dd (.lst [])) fa' H' → fa'[S1.length]? = some Dd := fun s => s.at (by rw [← hl1, List.getElem?_append_right (Nat.le_refl _)]; simp)
  refine ⟨fun i mm H' => mm = items.length - i ∧ i ≤ items.length ∧ ∃ fa' S', Step (fa1 ++ [Dd]) (upd H1 Dd (.lst [])) fa' H' ∧ StOk c fa' S' H' ∧ Rest (items.drop i) fa' S' H',
    ⟨items.length, by simp, Nat.zero_le _, _, _, .refl, okD, h1'⟩, ?_⟩
  rintro i mm H' ⟨rfl, hle, fa', S', st', ok', S2, hc, hend⟩
  by_cases hlt : i < items.length
  · have ed : items.drop i = items[i] :: items.drop (i + 1) := List.drop_eq_getElem_cons hlt
    rw [ed] at hc
    unfold compL at hc
    by_cases hg : guard src items S'
    · simp only [if_pos hg] at hc
      obtain ⟨hgo, hy⟩ := ((it.mono stD) fa' S' H' st' ok' hg).2 i items[i] (List.getElem?_eq_getElem hlt)
      refine .inr ⟨hgo, fun H2 => ∃ fa2 S3, Step (fa1 ++ [Dd]) (upd H1 Dd (.lst [])) fa2 H2 ∧ StOk c fa2 S3 H2 ∧ Rest (items.drop (i + 1)) fa2 S3 H2, fun H2 q => ⟨items.length - (i + 1), by omega, rfl, hlt, q⟩, fun x H'' yy => ?_⟩
      obtain ⟨st2, ok2, r2⟩ := hy x H'' yy
      cases e1 : gm items[i] (wipeR ρ vs) with
      | none => simp only [e1] at hc; cases hc
      | some ρ1 =>
        simp only [e1] at hc
        have enw : EnvOk c fa' H'' (wipeR ρ vs) (L2.wipe σ vs) := ((en.mono st1).wipe vs).mono (stD.trans (st'.trans st2))
        refine pg x (L2.wipe σ vs) H'' _ fa' S' (wipeR ρ vs) ρ1 items[i] ok2 enw r2 e1 fun σ2 en2 w2 => ⟨by rw [w2, wipe_wipe], ?_⟩
        refine ⟨fa', S', ρ1, ok2, en2, ?_⟩
        unfold Ends1
        cases e2 : t ρ1 S' with
        | bad => simp only [e2] at hc; cases hc
        | exc z S4 => simp only [e2] at hc; cases hc
        | ok k S4 =>
          simp only [e2] at hc
          intro fa3 b H3 st3 ok3 hbk
          subst hbk
          have stT : Step (fa1 ++ [Dd]) (upd H1 Dd (.lst [])) fa3 H3 := st'.trans (st2.trans st3)
          have hlen : (fa1 ++ [Dd]).length = S1.length + 1 := by simp [hl1]
          cases b with
          | false =>
            simp only [Bool.false_eq_true, if_false] at hc ⊢
            cases e3 : cutAt gc (S1.length + 1) .non S4 with
            | none => simp only [e3] at hc; cases hc
            | some pr =>
              obtain ⟨y', S5⟩ := pr
              simp only [e3] at hc
              rw [← hlen] at e3
              obtain ⟨fa4, st4, ok4, _, _⟩ := cut_ok stT ok3 (.mkN) e3
              exact ⟨fa4, S5, st4, ok4, S2, hc, hend⟩
          | true =>
            simp only [if_true] at hc ⊢
            refine ⟨fa3, S4, ρ1, ok3, en2.mono st3, ?_⟩
            unfold Ends1
            cases e3 : el ρ1 S4 with
            | bad => simp only [e3] at hc; cases hc
            | exc z S5 => simp only [e3] at hc; cases hc
            | ok y S5 =>
              simp only [e3] at hc
              intro fa4 yv H4 st4 ok4 r4
              have stU := stT.trans st4
              cases e4 : cutAt gc (S1.length + 1) y S5 with
              | none => simp only [e4] at hc; cases hc
              | some pr =>
                obtain ⟨y', S6⟩ := pr
                simp only [e4] at hc
                rw [← hlen] at e4
                obtain ⟨fa5, st5, ok5, r5, _⟩ := cut_ok stU ok4 r4 e4
                unfold pushAt at hc
                cases e5 : S6[S1.length]? with
                | none => simp only [e5] at hc; cases hc
                | some o =>
                  cases o with
                  | lst acc =>
                    simp only [e5] at hc
                    by_cases hb : Nat.blt acc.length sizeLine = true
                    · simp only [hb, if_true] at hc
                      obtain ⟨u, hu, ru⟩ := ok5.obj _ _ _ (hz st5) e5
                      obtain ⟨ws, rfl, ru⟩ := ru
                      refine ⟨ws, hu, ?_, fa5, S6.set S1.length (.lst (acc ++ [y'])), st5.trans (Step.write (S := S6) (hz st5)), ok5.write (hz st5) ⟨ws ++ [yv], rfl, ru.append (.cons r5 .nil)⟩, S2, hc, hend⟩
                      rw [← ru.length]; simpa using hb
                    · simp only [hb] at hc; cases hc
                  | _ => simp only [e5] at hc; cases hc
    · simp only [if_neg hg] at hc; cases hc
  · have ei : i = items.length := by omega
    subst ei
    rw [List.drop_length] at hc
    unfold compL at hc
    by_cases hg : guard src items S'
    · simp only [if_pos hg] at hc
      cases hc
      refine .inl ⟨((it.mono stD) fa' S' H' st' ok' hg).1 _ (Nat.le_refl _), ?_⟩
      unfold Ends1 at hend
      by_cases ho : own = true
      · simp only [ho, if_true, endB] at hend
        exact hend fa' _ H' (stD.trans st') ok' (.refn (hz st'))
      · simp only [ho] at hend
        unfold endA at hend
        cases e5 : S'[S1.length]? with
        | none => simp only [e5] at hend; exact hend.elim
        | some o =>
          cases o with
          | lst ds =>
            simp only [e5] at hend
            by_cases hb : (belows S1.length ds && (gcS S1.length S').all (below S1.length)) = true
            · simp only [hb, if_true] at hend
              rw [Bool.and_eq_true, ← hl1] at hb
              obtain ⟨u, hu, ru⟩ := ok'.obj _ _ _ (hz st') e5
              obtain ⟨ws, rfl, ru⟩ := ru
              have pre : fa1 <+: fa' := (List.prefix_append fa1 [Dd]).trans st'.pre
              have okf : StOk c fa1 (gcS fa1.length S') H' := ok'.gc pre hb.2
              rw [hl1] at okf
              refine hend fa1 _ H' (stD.trans st').gc okf ?_
              simp only [Rel]
              refine ⟨Dd, ws, rfl, ⟨ok1.notin hD, hu⟩, ?_⟩
              exact (ru.to2 (fx := fa1) (fun b hb => pre.subset hb) _ _).back (at_pre pre) _ _ hb.1
            · simp only [hb] at hend; exact hend.elim
          | _ => simp only [e5] at hend; exact hend.elim
    · simp only [if_neg hg] at hc; cases hc
theorem PTs.imp {ifs : List Expr} {t t' : TT} (h : PTs X ifs t) (i : ∀ σ H Q, t' σ H Q → t σ H Q) : PTs X ifs t' := ⟨fun pins s σ H Q I q => h.run pins s σ H Q I (i σ H Q q)⟩
def tYesM : Rho → M Bool := fun _ => pure true
theorem tvs_nil : PTs X [] (TvR c W tYesM) := PTs.imp pts_nil fun σ H Q ⟨fa, S, ρ, ok, en, h⟩ => h.pure0 ok rfl
theorem tvs_one {e : Expr} {t : Rho → M Bool} (h : PT X e (TvR c W t)) : PTs X [e] (TvR c W t) := pts_one h
theorem ev_lc {gc own : Bool} {elt tg iter : Expr} {ifs : List Expr} {scope : Scope} {ownN : List (Str × Nat)} {pos : Pos} {mi : Rho → M (Src × List D)} {g : TG} {gm : D → Rho → Option Rho} {t : Rho → M Bool} {el : Rho → M D} (hc : X.calm = true) (hN : X.N.Nodup) (ok : BlkOk X.N X.env.scope scope ownN)
    (hs : ∀ x, foldedSetIterable iter X.env x = pure x) (pg : PureG c g gm (ownN.map (·.2))) (hi : PI X tg iter (IvR c W mi))
    (hg : ∀ (s : Shared) (H : Hp) (C : Addr) (cl : List (Str × Addr)) (fp : List Addr), PG (X.blk s H scope (compEnvC scope cl C X.env) fp) tg g)
    (ht : ∀ (s : Shared) (H : Hp) (C : Addr) (cl : List (Str × Addr)) (fp : List Addr), PTs (X.blk s H scope (compEnvC scope cl C X.env) fp) ifs (TvR c W0 t))
    (he : ∀ (s : Shared) (H : Hp) (C : Addr) (cl : List (Str × Addr)) (fp : List Addr), PE (X.blk s H scope (compEnvC scope cl C X.env) fp) elt (EvR c W0 el)) :
    PE X (.ListComp elt [⟨tg, iter, ifs, 0⟩] scope pos) (EvR c W (eComp gc own mi (ownN.map (·.2)) gm t el)) :=
  (pe_lc hc hN hi ok hg ht he hs).imp fun σ H Q h => comp_read pg h
theorem sv_setLc {gc own : Bool} {i : Nat} {y : Str} {py : Pos} {elt tg iter : Expr} {ifs : List Expr} {scope : Scope} {ownN : List (Str × Nat)} {pos spos : Pos} {mi : Rho → M (Src × List D)} {g : TG} {gm : D → Rho → Option Rho} {t : Rho → M Bool} {el : Rho → M D} (hc : X.calm = true) (hN : X.N.Nodup)
    (hy : X.N[i]? = some y) (hyl : X.env.scope.names.lookup y = some .local) (hsw : swapsWith (.ListComp elt [⟨tg, iter, ifs, 0⟩] scope pos) (some (.Name y py)) spos.line X.env = pure true) (ok : BlkOk X.N X.env.scope scope ownN)
    (hs : ∀ x, foldedSetIterable iter X.env x = pure x) (pg : PureG c g gm (ownN.map (·.2))) (hi : PI X tg iter (IvR c W mi))
    (hg : ∀ (s : Shared) (H : Hp) (C : Addr) (cl : List (Str × Addr)) (fp : List Addr), PG (X.blk s H scope (compEnvC scope cl C X.env) fp) tg g)
    (ht : ∀ (s : Shared) (H : Hp) (C : Addr) (cl : List (Str × Addr)) (fp : List Addr), PTs (X.blk s H scope (compEnvC scope cl C X.env) fp) ifs (TvR c W0 t))
    (he : ∀ (s : Shared) (H : Hp) (C : Addr) (cl : List (Str × Addr)) (fp : List Addr), PE (X.blk s H scope (compEnvC scope cl C X.env) fp) elt (EvR c W0 el)) :
    PS X (.Assign [.Name y py] (.ListComp elt [⟨tg, iter, ifs, 0⟩] scope pos) spos) (SvR c W (sAsg (eComp gc own mi (ownN.map (·.2)) gm t el) (gNameM i))) :=
  (ps_setLc hc hN hy hyl hsw hi ok hg ht he hs).imp fun Dn σ H ⟨fa, S, ρ, okk, en, h⟩ =>
    comp_read pg ⟨fa, S, ρ, okk, en, (h.lift en).imp (fun x H1 ⟨fa1, S1, d, ok1, st1, r1, h1⟩ => h1.asg.pure0 ok1 ((en.mono st1).set i r1)) fun _ _ _ z => z⟩
end
end CR

/-! CrF: defs and their calls. -/
namespace CR
open PySem PySem.Spec PyProof.Rows L2
/-- as FnOk, where nothing is being shown -/
structure FnG (P : Program) (w : World) (K : PySem.W.Frag) (mg : Str → Option Value) (base : Heap) (k : Nat) (f : Addr) (fd : FuncData) (ps : List Str) (sp : Sp) : Prop where
  len : ∀ vs H Q E, sp vs H Q E → vs.length = ps.length
  run : ∀ (A : Around) (out : List Env) (s : Shared) (H : Hp) (args : Args) (us : List Value) (vs : List V) (Q : VK) (E : XK), A.guards = some [] → Room k A → Env0 P w K mg base A out s H → BindsTo s fd args (ps.zip us) → Vals vs us → sp vs H Q E →
    codeAny (model P w) A (.call (.ref f) args) (CR (L2.CX P w) out P w H s Q E) s
theorem FnG.up {P : Program} {w : World} {K : PySem.W.Frag} {mg : Str → Option Value} {base : Heap} {j k : Nat} {f : Addr} {fd : FuncData} {ps : List Str} {sp : Sp} (F : FnG P w K mg base j f fd ps sp) (h : j ≤ k) : FnG P w K mg base k f fd ps sp :=
  ⟨F.len, fun A out s H args us vs Q E hg hr => F.run A out s H args us vs Q E hg (hr.mono h)⟩
theorem FnG.none {P : Program} {w : World} {K : PySem.W.Frag} {mg : Str → Option Value} {base : Heap} {k : Nat} {f : Addr} {fd : FuncData} {ps : List Str} {sp : Sp} (h : ∀ vs H Q E, ¬ sp vs H Q E) : FnG P w K mg base k f fd ps sp :=
  ⟨fun vs H Q E z => (h _ _ _ _ z).elim, fun A out s H args us vs Q E _ _ _ _ _ z => (h _ _ _ _ z).elim⟩
/-- a def by its body -/
theorem fnG_of {P : Program} {w : World} {K : PySem.W.Frag} {mg : Str → Option Value} {base : Heap} {k : Nat} {f : Addr} {name qual : Str} {params : Arguments} {body : List Stmt} {scope : Scope} {dvs : List V} {kws : List (Str × V)} {fd : FuncData} {N ps : List Str} {sp : Sp}
    (FD : FunD K name qual params body scope dvs kws f fd) (Sc : FnScope N ps scope) (len : ∀ vs H Q E, sp vs H Q E → vs.length = ps.length)
    (hb : ∀ (cdv : Value) (A : Around) (out : List Env) (s : Shared) (H : Hp) (vs : List V) (Q : VK) (E : XK), A.guards = some [] → Room k (A.deeper (envOfC qual scope s.heap.objs.size f cdv)) → sp vs H Q E →
      ∃ t, PSs (cxOf (L2.CX P w) P w K mg base N qual scope f cdv A out s H E) body t ∧ t { nx := fun _ H' => Q .non H', rt := Q } (L2.start N vs) H) : FnG P w K mg base (k + 1) f fd ps sp := by
  obtain ⟨oc, od, dV, kV, doc, pm, an, cdv, ct, osl, rfl, lk, hcd, _, _⟩ := FD.ex
  refine ⟨len, fun A out s H args us vs Q E hgd hr env bd rel hs => ?_⟩
  have ln := len _ _ _ _ hs
  have inK : K.In s.heap := env.mod.kin.keeps fun b o e => (env.bs b o e).1
  have nol : s.heap.NoLimit := env.mod.nolimit.keeps fun b o e => (env.bs b o e).1
  refine codeAny_call_function hr.depth (inK _ _ lk) rfl Sc.co Sc.gen rfl (PySem.W.codeRec_of inK hcd) (bd _ _ _ _ ?_)
  refine wpAny_newFunctionEnv_cells Sc.kind (fun ⟨n, v⟩ hy => ?_) fun ev hev s1 x => ?_
  · have hm := (List.of_mem_zip hy).1
    rcases Sc.par n hm with q | q
    · exact Or.inl q
    · exact Or.inr ⟨q, PySem.W.cellsFrom_some _ _ _ (.inl q)⟩
  · subst hev
    refine ⟨nol.keeps x.toInCall.keep, codeAny_func ?_⟩
    obtain ⟨t, pt, qt⟩ := hb cdv A out s H vs Q E hgd (hr.deeper _) hs
    have inv : Inv (cxOf (L2.CX P w) P w K mg base N qual scope f cdv A out s H E) [] (L2.start N vs) H s1 := inv_start Sc hr.hd env ln rel x
    refine wpAny_mono (pt.run [] s1 (L2.start N vs) H _ inv qt) (fun fl s' q => ?_) fun e s' q => q
    match fl, q with
    | .ret u, ⟨v, σ', H', J, rv, q⟩ => exact ⟨v, H', J.os, J.bare, J.base, J.hok, rv, q⟩
    | .next, ⟨σ', H', J, q⟩ => exact ⟨.non, H', J.os, J.bare, J.base, J.hok, rfl, q⟩
    | .brk, ⟨_, _, _, q⟩ => exact q.elim
    | .cont, ⟨_, _, _, q⟩ => exact q.elim

/-! ### a def over data -/
def startR (N : List Str) (ds : List D) : Rho := ds.map some ++ List.replicate (N.length - ds.length) none
/-- what a def hands back, the store cut; own: a list, a dict, made anew -/
def finD (own : Bool) (n : Nat) (d : D) (S : Sto) : Res D := if own = true then (match d with
    | .ref k => (match S[k]? with
      | some o => if (Nat.ble n k && below n o && (S.take n).all (below n)) = true then .ok (.ref n) (S.take n ++ [o]) else .bad
      | none => .bad)
    | _ => .bad)
  else if (below n (frz S n d) && (gcS n S).all (below n)) = true then .ok (frz S n d) (gcS n S) else .bad
def finX (n : Nat) (x : D) (S : Sto) : Res D := match x with
  | .ins c fs ds => if (belows n (frzs S n ds) && (gcS n S).all (below n)) = true then .exc (.ins c fs (frzs S n ds)) (gcS n S) else .bad
  | _ => .bad
def runF (own : Bool) (N : List Str) (np : Nat) (ms : MS) (ds : List D) : M D := fun S => if ds.length = np then (match ms (startR N ds) S with
  | .ok (.ret d) S' => finD own S.length d S'
  | .ok (.nx _) S' => finD false S.length .non S'
  | .ok (.xc _ x) S' => finX S.length x S'
  | _ => .bad) else .bad
def spD (c : Kx) (F : List D → M D) : Sp := fun vs H Q E => ∃ fa S ds, StOk c fa S H ∧ Rels c fa H ds vs ∧ Ends1 c (Rel c) (F ds) fa S H Q E
section
variable {c : Kx}
theorem EnvOk.start {fa : List Addr} {H : Hp} {N : List Str} {ds : List D} {vs : List V} (r : Rels c fa H ds vs) : EnvOk c fa H (startR N ds) (L2.start N vs) := by
  unfold startR L2.start
  refine ⟨by simp [r.length], fun i d e => ?_⟩
  by_cases hi : i < ds.length
  · rw [List.getElem?_append_left (by simpa using hi), List.getElem?_map] at e
    obtain ⟨d', e1, e2⟩ := Option.map_eq_some_iff.mp e
    cases e2
    obtain ⟨v, ev, rv⟩ := r.get e1
    refine ⟨v, ?_, rv⟩
    rw [List.getElem?_append_left (by simpa [r.length] using hi), List.getElem?_map, ev]; rfl
  · rw [List.getElem?_append_right (by simpa using hi), List.getElem?_replicate] at e
    split at e <;> cases e
theorem fin_ok {own : Bool} {fa fa' : List Addr} {H H' : Hp} {d : D} {v : V} {S' : Sto} {Q : VK} {E : XK} (st : Step fa H fa' H') (ok : StOk c fa' S' H') (r : Rel c fa' H' d v) {S0 : Sto} (h : Ends1 c (Rel c) (fun _ => finD own fa.length d S') fa S0 H Q E) : Q v H' := by
  unfold Ends1 finD at h
  by_cases ho : own = true
  · simp only [ho, if_true] at h
    cases d with
    | ref k =>
      simp only at h
      cases e1 : S'[k]? with
      | none => simp only [e1] at h
      | some o =>
        simp only [e1] at h
        by_cases hb : (Nat.ble fa.length k && below fa.length o && (S'.take fa.length).all (below fa.length)) = true
        · simp only [hb, if_true] at h
          rw [Bool.and_eq_true, Bool.and_eq_true] at hb
          simp only [Rel] at r
          obtain ⟨a, ha, rfl⟩ := r
          have hk : fa.length ≤ k := by simpa using hb.1.1
          have hle : fa.length ≤ S'.length := by rw [← ok.len]; exact st.pre.length_le
          have na : a ∉ fa := fun z => by
            obtain ⟨j, hj, ej⟩ := List.getElem_of_mem z
            have e2 : fa'[j]? = some a := st.at (by rw [List.getElem?_eq_getElem hj, ej])
            have := nodup_get ok.nd ha e2
            omega
          have sub : ∀ b ∈ fa ++ [a], b ∈ fa' := fun b hb => by
            rcases List.mem_append.mp hb with z | z
            · exact st.pre.subset z
            · simp at z; subst z; exact List.mem_of_getElem? ha
          have same : ∀ (m : Nat) (b : Addr), m < fa.length → fa'[m]? = some b → (fa ++ [a])[m]? = some b := fun m b hm e => by
            rw [List.getElem?_append_left hm]; exact at_pre st.pre m b hm e
          have up : ∀ {d : D} {u : HO}, RelO c fa' H' d u → below fa.length d = true → RelO c (fa ++ [a]) H' d u := fun {d u} rr bb => by
            cases d with
            | lst ds => obtain ⟨vs, e, r⟩ := rr; simp only [below] at bb; exact ⟨vs, e, (r.to2 sub _ _).back same _ _ bb⟩
            | dK ks ds => obtain ⟨vs, e, l, r⟩ := rr; simp only [below] at bb; exact ⟨vs, e, l, (r.to2 sub _ _).back same _ _ bb⟩
            | dT ks ds => obtain ⟨vs, e, l, r⟩ := rr; simp only [below] at bb; exact ⟨vs, e, l, (r.to2 sub _ _).back same _ _ bb⟩
            | ins m fs ds => obtain ⟨C, dx, vs, e, k, l, r⟩ := rr; simp only [below] at bb; exact ⟨C, dx, vs, e, k, l, (r.to2 sub _ _).back same _ _ bb⟩
            | _ => exact rr.elim
          refine h (fa ++ [a]) _ H' ⟨List.prefix_append _ _, fun b hbm nb => ?_, st.ext⟩ ⟨?_, ?_, fun n b e h1 h2 => ?_⟩ (.refn (by rw [List.getElem?_append_right (Nat.le_refl _)]; simp))
          · rcases List.mem_append.mp hbm with z | z
            · exact absurd z nb
            · simp at z; subst z
              exact st.new b (List.mem_of_getElem? ha) na
          · rw [List.nodup_append]
            refine ⟨by obtain ⟨t, ht⟩ := st.pre; have := ok.nd; rw [← ht] at this; exact (List.nodup_append.mp this).1, by simp, fun x hx y hy => ?_⟩
            simp at hy; subst hy
            rintro rfl
            exact na hx
          · simp; omega
          · by_cases hn : n < fa.length
            · rw [List.getElem?_append_left hn] at h1
              rw [List.getElem?_append_left (by simp; omega)] at h2
              have hbe : below fa.length e = true := List.all_eq_true.mp hb.2 e (List.mem_of_getElem? h2)
              rw [List.getElem?_take_of_lt hn] at h2
              obtain ⟨u, hu, ru⟩ := ok.obj n b e (st.at h1) h2
              exact ⟨u, hu, up ru hbe⟩
            · have hl : n < (fa ++ [a]).length := (List.getElem?_eq_some_iff.mp h1).1
              have en : n = fa.length := by simp at hl; omega
              subst en
              rw [List.getElem?_append_right (Nat.le_refl _)] at h1
              rw [List.getElem?_append_right (by simp; omega)] at h2
              simp only [Nat.sub_self, List.getElem?_cons_zero, List.length_take, Nat.min_eq_left hle] at h1 h2
              cases h1; cases h2
              obtain ⟨u, hu, ru⟩ := ok.obj k _ _ ha e1
              exact ⟨u, hu, up ru hb.1.2⟩
        · simp only [hb] at h; exact h.elim
    | _ => exact h.elim
  · simp only [ho] at h
    by_cases hb : (below fa.length (frz S' fa.length d) && (gcS fa.length S').all (below fa.length)) = true
    · simp only [hb, if_true] at h
      rw [Bool.and_eq_true] at hb
      exact h fa v H' st.gc (ok.gc st.pre hb.2) (r.frz ok st.pre hb.1)
    · simp only [hb] at h; exact h.elim
theorem finX_ok {fa fa' : List Addr} {H H' : Hp} {x : D} {cls : Value} {dd : Option Addr} {S' : Sto} {Q : VK} {E : XK} (st : Step fa H fa' H') (ok : StOk c fa' S' H') (r : XR c fa' H' x cls dd) {S0 : Sto} (h : Ends1 c (Rel c) (fun _ => finX fa.length x S') fa S0 H Q E) : E cls dd H' := by
  obtain ⟨n, fs, ds, C, dx, vs, rfl, rfl, hcl, rfl, hdx, hl, rr⟩ := r
  unfold Ends1 finX at h
  by_cases hb : (belows fa.length (frzs S' fa.length ds) && (gcS fa.length S').all (below fa.length)) = true
  · simp only [hb, if_true] at h
    rw [Bool.and_eq_true] at hb
    exact h fa _ _ H' st.gc (ok.gc st.pre hb.2) ⟨n, fs, _, C, dx, vs, rfl, rfl, hcl, rfl, ⟨fun z => hdx.1 (st.pre.subset z), hdx.2⟩, hl, rr.frz ok st.pre hb.1⟩
  · simp only [hb] at h; exact h.elim
theorem spD_body {own : Bool} {N : List Str} {np : Nat} {ms : MS} {vs : List V} {H : Hp} {Q : VK} {E : XK} (h : spD c (runF own N np ms) vs H Q E) : SvR c (fun cls d _ H' => E cls d H') ms { nx := fun _ H' => Q .non H', rt := Q } (L2.start N vs) H := by
  obtain ⟨fa, S, ds, ok, r, h⟩ := h
  refine ⟨fa, S, startR N ds, ok, EnvOk.start r, ?_⟩
  unfold Ends1 runF at h
  have hl := ok.len
  by_cases hn : ds.length = np
  · simp only [hn, if_true] at h
    unfold EndsS
    cases e1 : ms (startR N ds) S with
    | bad => simp only [e1] at h
    | exc x S1 => simp only [e1] at h
    | ok f S1 =>
      cases f with
      | nx ρ1 =>
        simp only [e1] at h
        intro fa' σ' H' st ok' en'
        rw [← hl] at h
        exact fin_ok (S0 := S) (E := E) (own := false) st ok' .mkN h
      | bk ρ1 => simp only [e1] at h
      | ct ρ1 => simp only [e1] at h
      | ret d =>
        simp only [e1] at h
        intro fa' v H' st ok' r'
        rw [← hl] at h
        exact fin_ok (S0 := S) (Q := Q) (E := E) (own := own) st ok' r' h
      | xc ρ1 x =>
        simp only [e1] at h
        intro fa' σ' cls d H' st ok' en' xr
        rw [← hl] at h
        exact finX_ok (S0 := S) (Q := Q) (E := E) st ok' xr h
  · simp only [hn, if_false] at h
theorem spD_len {own : Bool} {N : List Str} {np : Nat} {ms : MS} {vs : List V} {H : Hp} {Q : VK} {E : XK} (h : spD c (runF own N np ms) vs H Q E) : vs.length = np := by
  obtain ⟨fa, S, ds, ok, r, h⟩ := h
  unfold Ends1 runF at h
  by_cases hn : ds.length = np
  · rw [← r.length]; exact hn
  · simp only [hn, if_false] at h
/-! ### how arguments come to parameters -/
/-- where a parameter's value comes from: a written place, a keyword, a default -/
inductive Sr where
  | p (i : Nat) | k (i : Nat) | d (i : Nat)
def pick {α : Type} (us ws its : List α) : List Sr → Option (List α)
  | [] => some []
  | .p i :: r => match us[i]?, pick us ws its r with
    | some a, some l => some (a :: l)
    | _, _ => none
  | .k i :: r => match ws[i]?, pick us ws its r with
    | some a, some l => some (a :: l)
    | _, _ => none
  | .d i :: r => match its[i]?, pick us ws its r with
    | some a, some l => some (a :: l)
    | _, _ => none
theorem pick_rel {fa : List Addr} {H : Hp} {ds es dl : List D} {us ws its : List V} (r1 : Rels c fa H ds us) (r2 : Rels c fa H es ws) (r3 : Rels c fa H dl its) : ∀ {src : List Sr} {ls : List D}, pick ds es dl src = some ls → ∃ vs, pick us ws its src = some vs ∧ Rels c fa H ls vs
  | [], ls, h => by cases h; exact ⟨[], rfl, .nil⟩
  | .p i :: r, ls, h => by
    unfold pick at h
    cases e1 : ds[i]? with
    | none => simp only [e1] at h; cases h
    | some a =>
      cases e2 : pick ds es dl r with
      | none => simp only [e1, e2] at h; cases h
      | some l =>
        simp only [e1, e2] at h; cases h
        obtain ⟨v, ev, rv⟩ := r1.get e1
        obtain ⟨vs, es', rs⟩ := pick_rel r1 r2 r3 e2
        exact ⟨v :: vs, by unfold pick; rw [ev, es'], .cons rv rs⟩
  | .k i :: r, ls, h => by
    unfold pick at h
    cases e1 : es[i]? with
    | none => simp only [e1] at h; cases h
    | some a =>
      cases e2 : pick ds es dl r with
      | none => simp only [e1, e2] at h; cases h
      | some l =>
        simp only [e1, e2] at h; cases h
        obtain ⟨v, ev, rv⟩ := r2.get e1
        obtain ⟨vs, es', rs⟩ := pick_rel r1 r2 r3 e2
        exact ⟨v :: vs, by unfold pick; rw [ev, es'], .cons rv rs⟩
  | .d i :: r, ls, h => by
    unfold pick at h
    cases e1 : dl[i]? with
    | none => simp only [e1] at h; cases h
    | some a =>
      cases e2 : pick ds es dl r with
      | none => simp only [e1, e2] at h; cases h
      | some l =>
        simp only [e1, e2] at h; cases h
        obtain ⟨v, ev, rv⟩ := r3.get e1
        obtain ⟨vs, es', rs⟩ := pick_rel r1 r2 r3 e2
        exact ⟨v :: vs, by unfold pick; rw [ev, es'], .cons rv rs⟩
theorem pick_vals {us ws its : List V} {us' ws' its' : List Value} (r1 : Vals us us') (r2 : Vals ws ws') (r3 : Vals its its') : ∀ {src : List Sr} {ls : List V}, pick us ws its src = some ls → ∃ vs, pick us' ws' its' src = some vs ∧ Vals ls vs
  | [], ls, h => by cases h; exact ⟨[], rfl, .nil⟩
  | .p i :: r, ls, h => by
    unfold pick at h
    cases e1 : us[i]? with
    | none => simp only [e1] at h; cases h
    | some a =>
      cases e2 : pick us ws its r with
      | none => simp only [e1, e2] at h; cases h
      | some l =>
        simp only [e1, e2] at h; cases h
        obtain ⟨v, ev, rv⟩ := r1.get e1
        obtain ⟨vs, es', rs⟩ := pick_vals r1 r2 r3 e2
        exact ⟨v :: vs, by unfold pick; rw [ev, es'], .cons rv rs⟩
  | .k i :: r, ls, h => by
    unfold pick at h
    cases e1 : ws[i]? with
    | none => simp only [e1] at h; cases h
    | some a =>
      cases e2 : pick us ws its r with
      | none => simp only [e1, e2] at h; cases h
      | some l =>
        simp only [e1, e2] at h; cases h
        obtain ⟨v, ev, rv⟩ := r2.get e1
        obtain ⟨vs, es', rs⟩ := pick_vals r1 r2 r3 e2
        exact ⟨v :: vs, by unfold pick; rw [ev, es'], .cons rv rs⟩
  | .d i :: r, ls, h => by
    unfold pick at h
    cases e1 : its[i]? with
    | none => simp only [e1] at h; cases h
    | some a =>
      cases e2 : pick us ws its r with
      | none => simp only [e1, e2] at h; cases h
      | some l =>
        simp only [e1, e2] at h; cases h
        obtain ⟨v, ev, rv⟩ := r3.get e1
        obtain ⟨vs, es', rs⟩ := pick_vals r1 r2 r3 e2
        exact ⟨v :: vs, by unfold pick; rw [ev, es'], .cons rv rs⟩
/-- n written values, keywords ks: by src; dl the defaults -/
def BindP (K : PySem.W.Frag) (fd : FuncData) (ps : List Str) (n : Nat) (ks : List Str) (src : List Sr) (dv : List V) : Prop :=
  ∃ dl : List Value, Vals dv dl ∧ ∀ (s : Shared) (us ws ls : List Value), K.In s.heap → us.length = n → ws.length = ks.length → pick us ws dl src = some ls → BindsTo s fd ⟨us, ks.zip ws⟩ (ps.zip ls)
end
/-! ### calls -/
section
variable {X : Cx} {c : Kx} {W : WX} {k n : Nat} {f : Addr} {fd : FuncData} {ps ks : List Str} {F : List D → M D} {src : List Sr} {dd : List D} {dv : List V} {x : Str} {p pos : Pos} {e : Expr} {es : List Expr} {kws : List Keyword} {mr mk : Rho → M (List D)}
/-- the callee runs, what it raises is taken -/
theorem run_fnG {pins : List (Addr × Obj)} {σ : L2.St} {H : Hp} {s : Shared} {Q : VK} {us ws : List Value} {vs zs : List V} {fa : List Addr} {S : Sto} {ds zd ls : List D} (G : FnG X.prog X.w X.K X.mg X.base k f fd ps (spD c F)) (hgd : X.A.guards = some []) (hr : Room k X.A) (hb : BindP X.K fd ps n ks src dv) (tk : Takes X W)
    (I : Inv X pins σ H s) (r : Vals vs us) (rz : Vals zs ws) (ok : StOk c fa S H) (rd : Rels c fa H ds vs) (rzd : Rels c fa H zd zs) (rdv : Rels c fa H dd dv) (hn : ds.length = n) (hk : zd.length = ks.length) (hp : pick ds zd dd src = some ls)
    (h : Ends1 c (Rel c) (F ls) fa S H Q (fun cls d H' => W cls d σ H')) : wpAny (model X.prog X.w) X.A (call (.ref f) us (ks.zip ws)) (EP X pins σ Q) X.xe s := by
  obtain ⟨dl, rdl, bd⟩ := hb
  obtain ⟨lv, e1, r1⟩ := pick_rel rd rzd rdv hp
  obtain ⟨lu, e2, r2⟩ := pick_vals r rz rdl e1
  have hs : spD c F lv H Q (fun cls d H' => W cls d σ H') := ⟨fa, S, ls, ok, r1, h⟩
  refine wpAny_call (codeAny_mono (G.run X.A X.stack s H ⟨us, ks.zip ws⟩ lu lv Q _ hgd hr I.env0 (bd s us ws lu I.kIn (by rw [← r.length, ← rd.length]; exact hn) (by rw [← rz.length, ← rzd.length]; exact hk) e2) r2 hs) fun rr s' hq => ?_)
  match rr, hq with
  | .error u, hq => exact tk u s' (XE.of_call I (fun _ _ _ z => z) hq)
  | .ok (.ret u), hq => exact I.after hq
  | .ok .next, hq => exact False.elim hq
  | .ok .brk, hq => exact False.elim hq
  | .ok .cont, hq => exact False.elim hq
/-- the D-side of a call -/
def eCallF (F : List D → M D) (n : Nat) (nk : Nat) (src : List Sr) (dd : List D) (mr mk : Rho → M (List D)) : Rho → M D := fun ρ => mr ρ >>= fun ds => mk ρ >>= fun zs => if ds.length = n ∧ zs.length = nk then (match pick ds zs dd src with
  | some ls => F ls
  | none => M.bad) else M.bad
def KvR (c : Kx) (W : WX) (m : Rho → M (List D)) : TA := AvR c W m
theorem PK.imp {kws : List Keyword} {t t' : TA} (h : PK X kws t) (i : ∀ σ H Q, t' σ H Q → t σ H Q) : PK X kws t' := ⟨fun p pins s σ H Q I q => h.run p pins s σ H Q I (i σ H Q q)⟩
theorem kv_nil : PK X [] (AvR c W aNil) := PK.imp pk_nil fun σ H Q ⟨fa, S, ρ, ok, en, h⟩ => h.pure0 ok .nil
theorem kv_cons {nm : Option Str} {kp : Pos} {ma : Rho → M D} (ha : PE X e (EvR c W ma)) (hr : PK X kws (AvR c W mr)) : PK X (⟨nm, e, kp⟩ :: kws) (AvR c W (aCons ma mr)) :=
  PK.imp (pk_cons ha hr) fun σ H Q ⟨fa, S, ρ, ok, en, h⟩ => by
    refine ⟨fa, S, ρ, ok, en, h.bind.imp (fun x H1 ⟨fa1, S1, d, ok1, st1, r1, h1⟩ => ?_) fun _ _ _ z => z⟩
    refine ⟨fa1, S1, ρ, ok1, en.mono st1, h1.bind.imp (fun y H2 ⟨fa2, S2, d2, ok2, st2, r2, h2⟩ => ?_) fun _ _ _ z => z⟩
    exact h2.pure0 ok2 (.cons (r1.mono st2) r2)
/-- f(..) without keywords -/
theorem ev_call (G : FnG X.prog X.w X.K X.mg X.base k f fd ps (spD c F)) (hgd : X.A.guards = some []) (hr : Room k X.A) (tk : Takes X W) (hb : BindP X.K fd ps n [] src dv) (hdv : ∀ fa H, Rels c fa H dd dv) (hg : Gl X x) (hm : X.mg x = some (.ref f)) (hk : PySem.W.keepIn X.K (.ref f) = true)
    (hdb : (x == ("__debug__" : Str)) = false) (he : starEach (e :: es) X.env = (false, eval e X.env) :: starEach es X.env) (hpl : (backTo pos (starEach es X.env)).any (·.1) = false) (ha : PA X (e :: es) (AvR c W mr)) : PE X (.Call (.Name x p) (e :: es) [] pos) (EvR c W (eCallF F n 0 src dd mr aNil)) := by
  refine ⟨fun pins s σ H Q I ⟨fa, S, ρ, ok, en, h⟩ => ?_⟩
  refine wpAny_Call_Name_kw (ld_glob I hg hm ?_ hdb)
  refine PySem.W.callWith_K (h₀ := X.base) I.ok.mod.kin hk (thn (ha.run pos pins s σ H _ I ⟨fa, S, ρ, ok, en, h.bind⟩) fun us s1 ⟨vs, H1, I1, r, fa1, S1, ds, ok1, st1, r1, h1⟩ => ⟨I1.kIn, ?_⟩) he hpl
  have h1 : Ends1 c (Rel c) (if ds.length = n ∧ ([] : List D).length = 0 then (match pick ds [] dd src with
    | some ls => F ls
    | none => M.bad) else M.bad) fa1 S1 H1 Q (fun cls d H' => W cls d σ H') := h1
  by_cases hn : ds.length = n ∧ ([] : List D).length = 0
  · rw [if_pos hn] at h1
    cases e1 : pick ds [] dd src with
    | none => rw [e1] at h1; exact h1.bad.elim
    | some ls =>
      rw [e1] at h1
      exact run_fnG (ks := []) (ws := []) G hgd hr hb tk I1 r .nil ok1 r1 .nil (hdv _ _) hn.1 rfl e1 h1
  · rw [if_neg hn] at h1; exact h1.bad.elim
theorem ev_call0 (G : FnG X.prog X.w X.K X.mg X.base k f fd ps (spD c F)) (hgd : X.A.guards = some []) (hr : Room k X.A) (tk : Takes X W) (hb : BindP X.K fd ps 0 [] src dv) (hdv : ∀ fa H, Rels c fa H dd dv) (hg : Gl X x) (hm : X.mg x = some (.ref f)) (hk : PySem.W.keepIn X.K (.ref f) = true)
    (hdb : (x == ("__debug__" : Str)) = false) : PE X (.Call (.Name x p) [] [] pos) (EvR c W (eCallF F 0 0 src dd aNil aNil)) := by
  refine ⟨fun pins s σ H Q I ⟨fa, S, ρ, ok, en, h⟩ => ?_⟩
  refine wpAny_Call_Name_kw (ld_glob I hg hm ?_ hdb)
  have h1 : Ends1 c (Rel c) (match pick [] [] dd src with
    | some ls => F ls
    | none => M.bad) fa S H Q (fun cls d H' => W cls d σ H') := h
  cases e1 : pick [] [] dd src with
  | none => rw [e1] at h1; exact h1.bad.elim
  | some ls =>
    rw [e1] at h1
    exact PySem.W.callWith_K0 I.kIn hk (run_fnG (ks := []) (us := []) (ws := []) G hgd hr hb tk I .nil .nil ok .nil .nil (hdv _ _) rfl rfl e1 h1)
theorem ev_callK (G : FnG X.prog X.w X.K X.mg X.base k f fd ps (spD c F)) (hgd : X.A.guards = some []) (hr : Room k X.A) (tk : Takes X W) (hb : BindP X.K fd ps n ks src dv) (hdv : ∀ fa H, Rels c fa H dd dv) (hg : Gl X x) (hm : X.mg x = some (.ref f)) (hk : PySem.W.keepIn X.K (.ref f) = true)
    (hdb : (x == ("__debug__" : Str)) = false) (he : starEach (e :: es) X.env = (false, eval e X.env) :: starEach es X.env) (hall : (backToKw pos (keywordEach kws X.env)).all (·.1.isSome) = true) (hks : (backToKw pos (keywordEach kws X.env)).filterMap (·.1) = ks)
    (hpl : ((backTo pos (starEach (e :: es) X.env)).any (·.1) || (backToKw pos (keywordEach kws X.env)).any (·.1.isNone)) = false) (ha : PA X (e :: es) (AvR c W mr)) (hkw : PK X kws (AvR c W mk)) : PE X (.Call (.Name x p) (e :: es) kws pos) (EvR c W (eCallF F n ks.length src dd mr mk)) := by
  refine ⟨fun pins s σ H Q I ⟨fa, S, ρ, ok, en, h⟩ => ?_⟩
  refine wpAny_Call_Name_kw (ld_glob I hg hm ?_ hdb)
  refine PySem.W.callWith_KW (h₀ := X.base) I.ok.mod.kin hk hall (thn (ha.run pos pins s σ H _ I ⟨fa, S, ρ, ok, en, h.bind⟩) fun us s1 ⟨vs, H1, I1, r, fa1, S1, ds, ok1, st1, r1, h1⟩ => ?_) hpl he
  refine thn (hkw.run pos pins s1 σ H1 _ I1 ⟨fa1, S1, ρ, ok1, en.mono st1, h1.bind⟩) fun ws s2 ⟨zs, H2, I2, rz, fa2, S2, zd, ok2, st2, r2, h2⟩ => ⟨I2.kIn, ?_⟩
  rw [hks]
  by_cases hn : ds.length = n ∧ zd.length = ks.length
  · rw [if_pos hn] at h2
    cases e1 : pick ds zd dd src with
    | none => rw [e1] at h2; exact h2.bad.elim
    | some ls =>
      rw [e1] at h2
      exact run_fnG G hgd hr hb tk I2 r rz ok2 (r1.mono st2) r2 (hdv _ _) hn.1 hn.2 e1 h2
  · rw [if_neg hn] at h2; exact h2.bad.elim
theorem ev_callK0 (G : FnG X.prog X.w X.K X.mg X.base k f fd ps (spD c F)) (hgd : X.A.guards = some []) (hr : Room k X.A) (tk : Takes X W) (hb : BindP X.K fd ps 0 ks src dv) (hdv : ∀ fa H, Rels c fa H dd dv) (hg : Gl X x) (hm : X.mg x = some (.ref f)) (hk : PySem.W.keepIn X.K (.ref f) = true)
    (hdb : (x == ("__debug__" : Str)) = false) (hall : (backToKw pos (keywordEach kws X.env)).all (·.1.isSome) = true) (hks : (backToKw pos (keywordEach kws X.env)).filterMap (·.1) = ks)
    (hpl : ((backTo pos (starEach [] X.env)).any (·.1) || (backToKw pos (keywordEach kws X.env)).any (·.1.isNone)) = false) (hkw : PK X kws (AvR c W mk)) : PE X (.Call (.Name x p) [] kws pos) (EvR c W (eCallF F 0 ks.length src dd aNil mk)) := by
  refine ⟨fun pins s σ H Q I ⟨fa, S, ρ, ok, en, h⟩ => ?_⟩
  refine wpAny_Call_Name_kw (ld_glob I hg hm ?_ hdb)
  have h0 : Ends1 c (Rel c) (mk ρ >>= fun zs => if ([] : List D).length = 0 ∧ zs.length = ks.length then (match pick [] zs dd src with
    | some ls => F ls
    | none => M.bad) else M.bad) fa S H Q (fun cls d H' => W cls d σ H') := h
  refine PySem.W.callWith_KW0 (h₀ := X.base) I.ok.mod.kin hk hall (thn (hkw.run pos pins s σ H _ I ⟨fa, S, ρ, ok, en, h0.bind⟩) fun ws s2 ⟨zs, H2, I2, rz, fa2, S2, zd, ok2, st2, r2, h2⟩ => ⟨I2.kIn, ?_⟩) hpl
  rw [hks]
  by_cases hn : ([] : List D).length = 0 ∧ zd.length = ks.length
  · rw [if_pos hn] at h2
    cases e1 : pick [] zd dd src with
    | none => rw [e1] at h2; exact h2.bad.elim
    | some ls =>
      rw [e1] at h2
      exact run_fnG (us := []) G hgd hr hb tk I2 .nil rz ok2 .nil r2 (hdv _ _) rfl hn.2 e1 h2
  · rw [if_neg hn] at h2; exact h2.bad.elim
end
end CR

/-! CrC3: methods of built-in types, stores by place, sorted, repr, isinstance. -/
namespace CR
open PySem PySem.Spec PyProof.Rows L2
section
variable {X : Cx} {c : Kx} {W : WX}
def rm (c : Kx) (m : D → List D → M D) : V → List V → Hp → VK → Prop := fun x xs H Q => ∃ fa S d ds, StOk c fa S H ∧ Rel c fa H d x ∧ Rels c fa H ds xs ∧ Ends1 c (Rel c) (m d ds) fa S H Q X0
theorem MtR.imp {id : String} {r r' : V → List V → Hp → VK → Prop} (h : MtR X id r) (i : ∀ x xs H Q, r' x xs H Q → r x xs H Q) : MtR X id r' := fun pins s σ H x xs v us Q I rx rs q => h pins s σ H x xs v us Q I rx rs (i x xs H Q q)
/-- a look at the receiver's type -/
def gate (g : D → Sto → Bool) (d : D) : M Unit := fun S => if g d S = true then .ok () S else .bad
theorem gate_ok {g : D → Sto → Bool} {d : D} {fa : List Addr} {S : Sto} {H : Hp} {Q : VK} {E : XK} {f : Unit → M D} (h : Ends1 c (Rel c) (gate g d >>= f) fa S H Q E) : g d S = true ∧ Ends1 c (Rel c) (f ()) fa S H Q E := by
  by_cases hg : g d S = true
  · refine ⟨hg, ?_⟩
    have e : gate g d S = .ok () S := by unfold gate; rw [if_pos hg]
    unfold Ends1 at h ⊢
    rw [M.bind_of e] at h
    exact h
  · have e : gate g d S = .bad := by unfold gate; rw [if_neg hg]
    unfold Ends1 at h
    rw [M.bind_bad e] at h
    exact h.elim
def eMeth (g : D → Sto → Bool) (mo : D → List D → M D) (m : Rho → M D) (mr : Rho → M (List D)) : Rho → M D := fun ρ => m ρ >>= fun d => gate g d >>= fun _ => mr ρ >>= fun ds => mo d ds
variable {o e : Expr} {es : List Expr} {name : Str} {apos cpos : Pos} {T id : String} {ty : V → Hp → Prop} {g : D → Sto → Bool} {mo : D → List D → M D} {m : Rho → M D} {mr : Rho → M (List D)}
theorem ev_meth (ht : TyOk X T ty) (pa : PlainAttrs T) (slot : Slot T name id) (hty : typeOf (.builtin id) = pure (.type "method_descriptor")) (hm : MtR X id (rm c mo)) (nx : ∀ d ds, NoX (mo d ds)) (hg : ∀ fa S H d x, StOk c fa S H → Rel c fa H d x → g d S = true → ty x H)
    (hbase : attributeBase o name X.env (eval o X.env) = eval o X.env) (hfew : ((backTo cpos (starEach (e :: es) X.env)).all (fun x => !x.1) && (backToKw cpos (keywordEach [] X.env)).all (fun x => x.1.isSome) && decide ((e :: es).length + ([] : List Keyword).length + (if ([] : List Keyword).isEmpty then 0 else 1) < 30)) = true)
    (hline : (apos.endLine == cpos.line) = true) (hs : starEach (e :: es) X.env = (false, eval e X.env) :: starEach es X.env) (hpl : (backTo cpos (starEach es X.env)).any (·.1) = false) (ho : PE X o (EvR c W m)) (ha : PA X (e :: es) (AvR c W mr)) :
    PE X (.Call (.Attribute o name apos) (e :: es) [] cpos) (EvR c W (eMeth g mo m mr)) :=
  (pe_mG ht pa slot hty hm ho ha hbase hfew hline hs hpl).imp fun σ H Q ⟨fa, S, ρ, ok, en, h⟩ => by
    refine ⟨fa, S, ρ, ok, en, h.bind.imp (fun x H1 ⟨fa1, S1, d, ok1, st1, r1, h1⟩ => ?_) fun _ _ _ z => z⟩
    obtain ⟨hgt, h1⟩ := gate_ok h1
    refine ⟨hg fa1 S1 H1 d x ok1 r1 hgt, fa1, S1, ρ, ok1, en.mono st1, h1.bind.imp (fun y H2 ⟨fa2, S2, d2, ok2, st2, r2, h2⟩ => ?_) fun _ _ _ z => z⟩
    exact ⟨fa2, S2, d, d2, ok2, r1.mono st2, r2, h2.val fun x S' => nx _ _ _ x S'⟩
theorem ev_meth0 (ht : TyOk X T ty) (pa : PlainAttrs T) (slot : Slot T name id) (hty : typeOf (.builtin id) = pure (.type "method_descriptor")) (hm : MtR X id (rm c mo)) (nx : ∀ d ds, NoX (mo d ds)) (hg : ∀ fa S H d x, StOk c fa S H → Rel c fa H d x → g d S = true → ty x H)
    (hbase : attributeBase o name X.env (eval o X.env) = eval o X.env) (hline : (apos.endLine == cpos.line) = true) (ho : PE X o (EvR c W m)) :
    PE X (.Call (.Attribute o name apos) [] [] cpos) (EvR c W (eMeth g mo m aNil)) :=
  (pe_mG0 ht pa slot hty hm ho hbase hline).imp fun σ H Q ⟨fa, S, ρ, ok, en, h⟩ => by
    refine ⟨fa, S, ρ, ok, en, h.bind.imp (fun x H1 ⟨fa1, S1, d, ok1, st1, r1, h1⟩ => ?_) fun _ _ _ z => z⟩
    obtain ⟨hgt, h1⟩ := gate_ok h1
    have h2 : Ends1 c (Rel c) (mo d []) fa1 S1 H1 Q (fun cls d H' => W cls d σ H') := h1
    exact ⟨hg fa1 S1 H1 d x ok1 r1 hgt, fa1, S1, d, [], ok1, r1, .nil, h2.val fun x S' => nx _ _ _ x S'⟩
/-! ### the types -/
def tyL (K : PySem.W.Frag) (x : V) (H : Hp) : Prop := ∃ a vs, x = .ref a ∧ SqL K H a vs
def tyT (x : V) (H : Hp) : Prop := ∃ a o vs, x = .ref a ∧ o.dict = none ∧ H a = some (.frz o (.tup vs))
def tyS (x : V) (_ : Hp) : Prop := ∃ z, x = .str z
def tyDk (x : V) (H : Hp) : Prop := ∃ a, x = .ref a ∧ IsD H a
theorem ty_list : TyOk X "list" (tyL X.K) := fun pins σ H s x v I r ⟨a, vs, e, q⟩ => by
  subst e
  exact tyV_is (T := "list") I r (.inl ⟨rfl, vs, q⟩)
theorem ty_str : TyOk X "str" tyS := fun pins σ H s x v I r ⟨z, e⟩ => by
  subst e
  exact tyV_is (T := "str") I r rfl
theorem ty_tup : TyOk X "tuple" tyT := fun pins σ H s x v I r ⟨a, o, vs, e, hd, q⟩ => by
  subst e
  cases r
  obtain ⟨e1, _, its, _, o', e2, e3, _⟩ := I.hok a _ q
  rw [e1] at e2; cases e2
  exact ⟨⟨o, e1, e3⟩, fun b e => by cases e; exact ⟨o, e1, hd⟩⟩
theorem ty_dict : TyOk X "dict" tyDk := fun pins σ H s x v I r ⟨a, e, q⟩ => by
  subst e
  cases r
  obtain ⟨h1, h2, _⟩ := isD_at I q
  exact ⟨h1, h2⟩
def isL (d : D) (S : Sto) : Bool := (listOf S d).isSome
def isT (d : D) (_ : Sto) : Bool := match d with | .tup (_ :: _) => true | _ => false
def isS (d : D) (_ : Sto) : Bool := match d with | .str _ => true | _ => false
theorem isL_ok (hK : c.K = X.K) : ∀ fa S H d x, StOk c fa S H → Rel c fa H d x → isL d S = true → tyL X.K x H := fun fa S H d x ok r h => by
  obtain ⟨ds, e⟩ := Option.isSome_iff_exists.mp h
  obtain ⟨a, vs, rfl, q, _⟩ := r.sql ok e
  exact ⟨a, vs, rfl, hK ▸ q⟩
theorem isS_ok : ∀ fa S H d x, StOk c fa S H → Rel c fa H d x → isS d S = true → tyS x H := fun fa S H d x ok r h => by
  cases d with
  | str z => exact ⟨z, r.str⟩
  | _ => cases h
theorem isT_ok : ∀ fa S H d x, StOk c fa S H → Rel c fa H d x → isT d S = true → tyT x H := fun fa S H d x ok r h => by
  cases d with
  | tup ds =>
    cases ds with
    | nil => cases h
    | cons y ys =>
      simp only [Rel] at r
      obtain ⟨a, vs, rfl, ⟨_, o, ho, hH⟩ | ⟨e, _⟩, _⟩ := r
      · exact ⟨a, o, vs, rfl, ho, hH⟩
      · cases e
  | _ => cases h
/-! ### lists that change -/
def lrefOf (S : Sto) : D → Option (Nat × List D)
  | .ref n => match S[n]? with
    | some (.lst ds) => some (n, ds)
    | _ => none
  | _ => none
theorem Rel.lref {fa : List Addr} {S : Sto} {H : Hp} (ok : StOk c fa S H) {d : D} {n : Nat} {ds : List D} {v : V} (h : Rel c fa H d v) (e : lrefOf S d = some (n, ds)) : ∃ a vs, v = .ref a ∧ fa[n]? = some a ∧ H a = some (.lst vs) ∧ Rels c fa H ds vs := by
  cases d with
  | ref k =>
    unfold lrefOf at e
    simp only [Rel] at h
    obtain ⟨a, ha, rfl⟩ := h
    cases q : S[k]? with
    | none => simp only [q] at e; cases e
    | some o =>
      cases o with
      | lst es =>
        simp only [q] at e; cases e
        obtain ⟨u, hu, r⟩ := ok.obj _ a _ ha q
        obtain ⟨vs, rfl, r⟩ := r
        exact ⟨a, vs, rfl, ha, hu, r⟩
      | _ => simp only [q] at e; cases e
  | _ => cases e
def mAppend (d : D) (ds : List D) : M D := fun S => match lrefOf S d, ds with
  | some (n, xs), [y] => if Nat.blt xs.length sizeLine = true then .ok .non (S.set n (.lst (xs ++ [y]))) else .bad
  | _, _ => .bad
theorem NoX.append (d : D) (ds : List D) : NoX (mAppend d ds) := fun S x S' h => by
  unfold mAppend at h
  split at h
  · split at h <;> cases h
  · cases h
theorem mt_mAppend : MtR X "list.append" (rm c mAppend) := by
  refine MtR.imp (r := rAppend) mt_append ?_
  rintro x xs H Q ⟨fa, S, d, ds, ok, r, rs, h⟩
  unfold Ends1 mAppend at h
  cases e1 : lrefOf S d with
  | none => simp only [e1] at h
  | some p =>
    obtain ⟨n, ys⟩ := p
    match ds, rs, h with
    | [y], rs, h =>
      simp only [e1] at h
      obtain ⟨w, rfl, rw'⟩ := rs.one
      by_cases hb : Nat.blt ys.length sizeLine = true
      · simp only [hb, if_true] at h
        obtain ⟨a, vs, rfl, ha, hH, rv⟩ := r.lref ok e1
        exact ⟨a, vs, w, rfl, rfl, hH, by rw [← rv.length]; simpa using hb, h fa _ _ (Step.write (S := S) ha) (ok.write ha ⟨_, rfl, rv.append (.cons rw' .nil)⟩) .mkN⟩
      · simp only [hb] at h; exact h.elim
    | [], rs, h => simp only [e1] at h
    | _ :: _ :: _, rs, h => simp only [e1] at h
def mExtend (d : D) (ds : List D) : M D := fun S => match lrefOf S d, ds with
  | some (n, xs), [y] => (match lstOf S y with
    | some ys => if fits (xs.length + ys.length) = true then .ok .non (S.set n (.lst (xs ++ ys))) else .bad
    | none => .bad)
  | _, _ => .bad
theorem NoX.extend (d : D) (ds : List D) : NoX (mExtend d ds) := fun S x S' h => by
  unfold mExtend at h
  split at h
  · split at h
    · split at h <;> cases h
    · cases h
  · cases h
theorem mt_mExtend : MtR X "list.extend" (rm c mExtend) := by
  refine MtR.imp (r := rExtend) mt_extend ?_
  rintro x xs H Q ⟨fa, S, d, ds, ok, r, rs, h⟩
  unfold Ends1 mExtend at h
  cases e1 : lrefOf S d with
  | none => simp only [e1] at h
  | some p =>
    obtain ⟨n, ys⟩ := p
    match ds, rs, h with
    | [y], rs, h =>
      simp only [e1] at h
      obtain ⟨w, rfl, rw'⟩ := rs.one
      cases e2 : lstOf S y with
      | none => simp only [e2] at h
      | some zs =>
        simp only [e2] at h
        by_cases hb : fits (ys.length + zs.length) = true
        · simp only [hb, if_true] at h
          obtain ⟨a, vs, rfl, ha, hH, rv⟩ := r.lref ok e1
          obtain ⟨b, ws, rfl, hB, rz⟩ := rw'.lown ok e2
          refine ⟨a, b, vs, ws, rfl, rfl, hH, hB, ?_, h fa _ _ (Step.write (S := S) ha) (ok.write ha ⟨_, rfl, rv.append rz⟩) .mkN⟩
          rw [← rv.length, ← rz.length]; exact fits_iff.mp hb
        · simp only [hb] at h; exact h.elim
    | [], rs, h => simp only [e1] at h
    | _ :: _ :: _, rs, h => simp only [e1] at h
def mPop (d : D) (ds : List D) : M D := fun S => match lrefOf S d, ds with
  | some (n, xs), [.int i] => if smallI i = true then (match seqIndex? i xs.length with
    | some k => (match xs[k]? with
      | some y => .ok y (S.set n (.lst (xs.eraseIdx k)))
      | none => .bad)
    | none => .bad) else .bad
  | some (n, xs), [] => (match xs[xs.length - 1]? with
    | some y => .ok y (S.set n (.lst xs.dropLast))
    | none => .bad)
  | _, _ => .bad
theorem NoX.pop (d : D) (ds : List D) : NoX (mPop d ds) := fun S x S' h => by
  unfold mPop at h
  split at h
  · split at h
    · split at h
      · split at h <;> cases h
      · cases h
    · cases h
  · split at h <;> cases h
  · cases h
theorem Rels.dropLast {fa : List Addr} {H : Hp} {ds : List D} {vs : List V} (h : Rels c fa H ds vs) : Rels c fa H ds.dropLast vs.dropLast := by
  rw [List.dropLast_eq_take, List.dropLast_eq_take, h.length]
  exact h.take _
theorem mt_mPop : MtR X "list.pop" (rm c mPop) := by
  refine MtR.imp (MtR.or (r := rPopAt) (r' := rPop) mt_popAt mt_pop) ?_
  rintro x xs H Q ⟨fa, S, d, ds, ok, r, rs, h⟩
  unfold Ends1 mPop at h
  cases e1 : lrefOf S d with
  | none => simp only [e1] at h
  | some p =>
    obtain ⟨n, ys⟩ := p
    obtain ⟨a, vs, rfl, ha, hH, rv⟩ := r.lref ok e1
    match ds, rs, h with
    | [.int i], rs, h =>
      simp only [e1] at h
      obtain ⟨w, rfl, rw'⟩ := rs.one
      by_cases hb : smallI i = true
      · simp only [hb, if_true] at h
        cases e2 : seqIndex? i ys.length with
        | none => simp only [e2] at h
        | some k =>
          simp only [e2] at h
          cases e3 : ys[k]? with
          | none => simp only [e3] at h
          | some y =>
            simp only [e3] at h
            obtain ⟨yv, hy, ry⟩ := rv.get e3
            have hs := smallI_iff.mp hb
            rw [rw'.int]
            exact .inl ⟨a, vs, i, k, yv, rfl, rfl, hH, by omega, by omega, by rw [← rv.length]; exact e2, hy, h fa _ _ (Step.write (S := S) ha) (ok.write ha ⟨_, rfl, rv.eraseIdx k⟩) (ry.mono (Step.write (S := S) ha))⟩
      · simp only [hb] at h; exact h.elim
    | [], rs, h =>
      simp only [e1] at h
      rw [Rels.nil_iff.mp rs]
      cases e3 : ys[ys.length - 1]? with
      | none => simp only [e3] at h
      | some y =>
        simp only [e3] at h
        obtain ⟨yv, hy, ry⟩ := rv.get e3
        exact .inr ⟨a, vs, yv, rfl, rfl, hH, by rw [← rv.length]; exact hy, h fa _ _ (Step.write (S := S) ha) (ok.write ha ⟨_, rfl, rv.dropLast⟩) (ry.mono (Step.write (S := S) ha))⟩
    | .non :: _, rs, h => simp only [e1] at h
    | .bl _ :: _, rs, h => simp only [e1] at h
    | .str _ :: _, rs, h => simp only [e1] at h
    | .tup _ :: _, rs, h => simp only [e1] at h
    | .tp _ :: _, rs, h => simp only [e1] at h
    | .lst _ :: _, rs, h => simp only [e1] at h
    | .dK _ _ :: _, rs, h => simp only [e1] at h
    | .dT _ _ :: _, rs, h => simp only [e1] at h
    | .ins _ _ _ :: _, rs, h => simp only [e1] at h
    | .fz _ :: _, rs, h => simp only [e1] at h
    | .kt _ :: _, rs, h => simp only [e1] at h
    | .ref _ :: _, rs, h => simp only [e1] at h
    | .int _ :: _ :: _, rs, h => simp only [e1] at h
/-! ### join, index -/
def joinD (_ : Sto) (d e : D) (S : Sto) : Option D := match d with
  | .str a => (match (seqOf S e).bind strsOf with
    | some ys => if Nat.ble ((ys.map (·.length)).sum + ys.length * a.length) 16777216 = true then some (.str (Txt.join a ys)) else none
    | none => none)
  | _ => none
def mJoin (d : D) (ds : List D) : M D := opt fun S => match ds with
  | [e] => joinD S d e S
  | _ => none
theorem mt_mJoin (hK : c.K = X.K) : MtR X "str.join" (rm c mJoin) := by
  refine MtR.imp mt_join ?_
  rintro x xs H Q ⟨fa, S, d, ds, ok, r, rs, h⟩
  obtain ⟨z, hz, q⟩ := h.opt
  match ds, rs, hz with
  | [e], rs, hz =>
    obtain ⟨w, rfl, rw'⟩ := rs.one
    cases d with
    | str a =>
      unfold joinD at hz
      dsimp only at hz
      cases e1 : (seqOf S e).bind strsOf with
      | none => simp only [e1] at hz; cases hz
      | some ys =>
        simp only [e1] at hz
        by_cases hb : Nat.ble ((ys.map (·.length)).sum + ys.length * a.length) 16777216 = true
        · simp only [hb, if_true] at hz
          cases hz
          obtain ⟨es, e2, e3⟩ := bind_some e1
          obtain ⟨p, vs, rfl, hq, rv⟩ := rw'.sq ok e2
          rw [rv.strs e3, hK] at hq
          exact ⟨a, p, ys, r.str, rfl, hq, by simpa using hb, q fa _ H .refl ok (.mkS _)⟩
        · simp only [hb] at hz; cases hz
    | _ => cases hz
/-- the first place of a text among texts -/
def findS (z : Str) : List Str → Option Nat
  | [] => none
  | y :: ys => if y = z then some 0 else (findS z ys).map (· + 1)
theorem findS_some {z : Str} : ∀ {ys : List Str} {j : Nat}, findS z ys = some j → ys[j]? = some z ∧ ∀ m, m < j → ys[m]? ≠ some z
  | [], j, h => by cases h
  | y :: ys, j, h => by
    unfold findS at h
    by_cases hy : y = z
    · rw [if_pos hy] at h; cases h
      exact ⟨by simp [hy], fun m hm => absurd hm (Nat.not_lt_zero m)⟩
    · rw [if_neg hy] at h
      obtain ⟨i, e, rfl⟩ := Option.map_eq_some_iff.mp h
      obtain ⟨h1, h2⟩ := findS_some e
      refine ⟨by simpa using h1, fun m hm => ?_⟩
      cases m with
      | zero => simpa using hy
      | succ m => simpa using h2 m (by omega)
def mIndexT (d : D) (ds : List D) : M D := opt fun _ => match d, ds with
  | .tup es, [.str z] => ((strsOf es).bind (findS z)).map fun (j : Nat) => D.int (j : Int)
  | _, _ => none
theorem mt_mIndexT (hK : c.K = X.K) : MtR X "tuple.index" (rm c mIndexT) := by
  refine MtR.imp mt_tup_index ?_
  rintro x xs H Q ⟨fa, S, d, ds, ok, r, rs, h⟩
  obtain ⟨w, hz, q⟩ := h.opt
  split at hz
  · rename_i es z
    obtain ⟨v, rfl, rv⟩ := rs.one
    obtain ⟨j, e1, rfl⟩ := Option.map_eq_some_iff.mp hz
    obtain ⟨ys, e2, e3⟩ := bind_some (o := strsOf es) (f := findS z) e1
    obtain ⟨p, vs, rfl, hq, rr⟩ := r.sqt rfl
    rw [rr.strs e2, hK] at hq
    obtain ⟨g1, g2⟩ := findS_some e3
    rw [rv.str]
    exact ⟨p, ys, z, j, rfl, rfl, hq, g1, g2, q fa _ H .refl ok (.mkI _)⟩
  · cases hz
/-! ### o[i] = v of a list -/
def mSetL (o i v : D) : M Unit := fun S => match lrefOf S o, i with
  | some (n, xs), .int k => (match ixN xs.length k with
    | some j => .ok () (S.set n (.lst (xs.set j v)))
    | none => .bad)
  | _, _ => .bad
theorem NoX.setL (o i v : D) : NoX (mSetL o i v) := fun S x S' h => by
  unfold mSetL at h
  split at h
  · split at h <;> cases h
  · cases h
theorem set_mSetL : PSet X (pset c mSetL) := by
  rintro pins s σ H o i v ov iv u Q I ro ri rv ⟨fa, S, d, e, z, ok, h1, h2, h3, h⟩
  refine set_list pins s σ H o i v ov iv u Q I ro ri rv ?_
  unfold Ends1 mSetL at h
  cases e1 : lrefOf S d with
  | none => simp only [e1] at h
  | some p =>
    obtain ⟨n, ys⟩ := p
    cases e with
    | int k =>
      simp only [e1] at h
      cases e2 : ixN ys.length k with
      | none => simp only [e2] at h
      | some j =>
        simp only [e2] at h
        obtain ⟨a, vs, rfl, ha, hH, rr⟩ := h1.lref ok e1
        exact ⟨a, vs, k, j, rfl, h2.int, hH, by rw [← rr.length]; exact e2, h fa () _ (Step.write (S := S) ha) (ok.write ha ⟨_, rfl, rr.set j h3⟩) True.intro⟩
    | _ => simp only [e1] at h
/-! ### repr -/
def reprD (S : Sto) (d : D) : Option D := match d with
  | .int i => if decide (i.natAbs.log2 < 1920) = true then some (.str (toString i)) else none
  | d => match pyOf S d with
    | some (.list ps) => if (PyData.showable (.list ps) && fits (PyData.shown (.list ps)).length) = true then some (.str (PyData.shown (.list ps))) else none
    | some (.tuple ps) => if (PyData.showable (.tuple ps) && fits (PyData.shown (.tuple ps)).length) = true then some (.str (PyData.shown (.tuple ps))) else none
    | _ => none
mutual
theorem noDict_py : ∀ (d : D) (p : PyData), toPy d = some p → p.hasDict = false
  | .non, p, e => by simp only [toPy] at e; cases e; simp [PyData.hasDict]
  | .bl b, p, e => by simp only [toPy] at e; cases e; simp [PyData.hasDict]
  | .int i, p, e => by simp only [toPy] at e; cases e; simp [PyData.hasDict]
  | .str x, p, e => by simp only [toPy] at e; cases e; simp [PyData.hasDict]
  | .tup ds, p, e => by simp only [toPy] at e; obtain ⟨ps, e1, rfl⟩ := Option.map_eq_some_iff.mp e; simp only [PyData.hasDict]; exact noDict_pys ds ps e1
  | .tp ds, p, e => by simp only [toPy] at e; obtain ⟨ps, e1, rfl⟩ := Option.map_eq_some_iff.mp e; simp only [PyData.hasDict]; exact noDict_pys ds ps e1
  | .kt ds, p, e => by simp only [toPy] at e; obtain ⟨ps, e1, rfl⟩ := Option.map_eq_some_iff.mp e; simp only [PyData.hasDict]; exact noDict_pys ds ps e1
  | .lst ds, p, e => by simp only [toPy] at e; obtain ⟨ps, e1, rfl⟩ := Option.map_eq_some_iff.mp e; simp only [PyData.hasDict]; exact noDict_pys ds ps e1
  | .fz ds, p, e => by simp only [toPy] at e; obtain ⟨ps, e1, rfl⟩ := Option.map_eq_some_iff.mp e; simp only [PyData.hasDict]; exact noDict_pys ds ps e1
  | .dK _ _, p, e => by simp only [toPy] at e; cases e
  | .dT _ _, p, e => by simp only [toPy] at e; cases e
  | .ins _ _ _, p, e => by simp only [toPy] at e; cases e
  | .ref _, p, e => by simp only [toPy] at e; cases e
theorem noDict_pys : ∀ (ds : List D) (ps : List PyData), toPys ds = some ps → PyData.hasDictAll ps = false
  | [], ps, e => by simp only [toPys] at e; cases e; simp [PyData.hasDictAll]
  | d :: ds, ps, e => by
    simp only [toPys] at e
    cases e1 : toPy d with
    | none => rw [e1] at e; cases e
    | some p =>
      cases e2 : toPys ds with
      | none => rw [e1, e2] at e; cases e
      | some qs =>
        rw [e1, e2] at e; cases e
        simp [PyData.hasDictAll, noDict_py d p e1, noDict_pys ds qs e2]
end
theorem pyOf_some {S : Sto} {d : D} {p : PyData} (h : pyOf S d = some p) : toPy (top S d) = some p ∧ SeqAt.shaped p = true := by
  unfold pyOf at h
  cases e : toPy (top S d) with
  | none => rw [e] at h; cases h
  | some q =>
    rw [e] at h
    by_cases hs : SeqAt.shaped q = true
    · simp only [hs, if_true] at h; cases h; exact ⟨rfl, hs⟩
    · simp only [hs] at h; cases h
def mRepr : List D → M D := opt1 reprD
theorem repr_go (hgd : X.A.guards = some []) (hu : X.A.units + 80 < cLine) {pins : List (Addr × Obj)} {s : Shared} {σ : L2.St} {H : Hp} {v : V} {u : Value} {p : PyData} {Q : VK} (I : Inv X pins σ H s) (rv : RelV v u) (hr : ∃ a, u = .ref a) (dp : Dp X.K H v p) (nd : p.hasDict = false) (hs : p.showable = true) (hsz : p.shown.length ≤ sizeLine) (hd : p.depth ≤ 64) (q : Q (.str p.shown) H) :
    wpAny (model X.prog X.w) X.A (call (.builtin "repr") [u]) (EP X pins σ Q) X.xe s := by
  obtain ⟨a, rfl⟩ := hr
  obtain ⟨as, rd⟩ := dp.reads I _ _ _ rv
  refine repr_of_reads' rd hs (PyData.noDict_hsm nd) hgd (by omega) (fun _ _ e => e) (fun h' t tk hk => ?_) hsz
  exact ⟨.str p.shown, H, I.kept (t' := tk) hk, ⟨_, rfl⟩, q⟩
theorem cr_mRepr (hK : c.K = X.K) (hgd : X.A.guards = some []) (hu : X.A.units + 80 < cLine) : CallR X (.builtin "repr") (rn c mRepr) := by
  intro pins s σ H xs us Q I rv h
  obtain ⟨fa, S, d, v, z, ok, rfl, h1, hz, q⟩ := rn_opt1 h
  unfold reprD at hz
  split at hz
  · split at hz
    · rename_i i hf
      cases hz
      rw [h1.int] at rv
      exact SkE.call_repr_int pins s σ H _ us Q I rv ⟨i, rfl, of_decide_eq_true hf, q fa _ H .refl ok (.mkS _)⟩
    · cases hz
  · obtain ⟨u, rfl, ru⟩ := vals1 rv
    have fin : ∀ p, pyOf S d = some p → (∃ ps, p = .list ps ∨ p = .tuple ps) → (p.showable && fits p.shown.length) = true → z = .str p.shown → wpAny (model X.prog X.w) X.A (call (.builtin "repr") [u]) (EP X pins σ Q) X.xe s := fun p ep hp hb hz => by
      obtain ⟨g1, g2⟩ := h1.pdp ok ep
      rw [hK] at g1
      rw [Bool.and_eq_true] at hb
      have ref : ∃ a, u = .ref a := by
        obtain ⟨ps, rfl | rfl⟩ := hp <;> (cases g1; exact ⟨_, ru⟩)
      subst hz
      exact repr_go hgd hu I ru ref g1 (noDict_py _ _ (pyOf_some ep).1) hb.1 (fits_iff.mp hb.2) (SeqAt.depth_of_shaped g2) (q fa _ H .refl ok (.mkS _))
    split at hz
    · rename_i ps ep
      split at hz
      · rename_i hb
        exact fin _ ep ⟨ps, .inl rfl⟩ hb (Option.some.inj hz).symm
      · cases hz
    · rename_i ps ep
      split at hz
      · rename_i hb
        exact fin _ ep ⟨ps, .inr rfl⟩ hb (Option.some.inj hz).symm
      · cases hz
    · cases hz
end
end CR

/-! CrS: set(..) of texts, its number. Printed by crset.py. -/
namespace CR
open PySem PySem.Spec PyProof.Rows L2
/-- how many different ones stand ahead of place i -/
def dcN (xs : List Str) : Nat → Nat
  | 0 => 0
  | i + 1 => if (xs.take i).any (· == xs.getD i Str.empty) = true then dcN xs i else dcN xs i + 1
theorem dcN_le (xs : List Str) : ∀ i, dcN xs i ≤ i
  | 0 => Nat.le_refl _
  | i + 1 => by
    have h := dcN_le xs i
    simp only [dcN]
    split <;> omega
theorem dcN_nodup {xs : List Str} (nd : xs.Nodup) : ∀ i, i ≤ xs.length → dcN xs i = i
  | 0, _ => rfl
  | i + 1, h => by
    have hi : i < xs.length := h
    simp only [dcN]
    have no : (xs.take i).any (· == xs.getD i Str.empty) = false := by
      rw [List.any_eq_false]
      intro x hx e
      have e' : x = xs[i] := by
        have := eq_of_beq e
        rw [this]; simp [List.getD, List.getElem?_eq_getElem hi]
      obtain ⟨j, hj, ej⟩ := List.getElem_of_mem hx
      have hj2 : j < i := by simp at hj; omega
      rw [List.getElem_take] at ej
      have := (List.getElem_inj nd).mp (ej.trans e')
      omega
    rw [no]
    simp [dcN_nodup nd i (Nat.le_of_lt hi)]
/-- the empty set as it is laid -/
abbrev emptyS (led : Bool) : Obj := { cls := .type "set", dict := none, data := .set #[] 0 (.fresh 0 0 led) }
section
variable {prog : Program} {w : World} {A : Around} {R : Result → Shared → Prop} {I : Addr} {fp wr : List Addr} {G : Array GenState → Array GenState → Prop} {n : Nat} {P : Nat → Value → Prop} {St : Nat → Shared → Prop}
theorem setLoop (Wk : WalksS prog w A.in1 I fp wr G n P St) (a : Addr) (na : a ∉ fp) (xs : List Str) (hl : xs.length = n) (hb : n + 1 < scanBound) (hv : ∀ i v, P i v → ∃ t, v = .str (xs.getD i Str.empty) t) :
    ∀ (k i : Nat) (s : Shared), n - i = k → i ≤ n → St i s → s.heap.SetOf (PySem.strKind prog w) a (fun z => (xs.take i).any (· == z)) (dcN xs i) →
      (∀ s1, Moved (a :: wr) G s s1 → s1.heap.SetOf (PySem.strKind prog w) a (fun z => (xs.take n).any (· == z)) (dcN xs n) → R (.ok (.ret .none)) s1) →
      codeAny (model prog w) A (.builtin "set.update.loop" ⟨[.ref a, .ref I], []⟩) R s := by
  have nw : a ∉ wr := fun h => na (Wk.sub _ h)
  have sub : ∀ b ∈ wr, b ∈ a :: wr := fun b z => List.mem_cons_of_mem _ z
  intro k
  induction k with
  | zero =>
    intro i s hk hi st hS go
    have ei : i = n := by omega
    subst ei
    refine codeAny_builtin PyProof.Rows.F.entry_set_update_loop ?_; rw [Around.under_plainId PyProof.Rows.F.plain_set_update_loop _]
    show wpAny _ A.in1 (pyNext (.ref I) >>= _) _ _ s
    refine wpAny_bind (Wk.done s _ _ st fun s1 mv => ?_)
    show wpAny _ A.in1 (ret Value.none) _ _ s1
    refine wpAny_pure (go s1 (mv.mono sub) ?_)
    obtain ⟨o, es, ep, t, ho, more⟩ := hS
    exact ⟨o, es, ep, t, mv.heap a _ nw ho, more⟩
  | succ k ih =>
    intro i s hk hi st hS go
    have lt : i < n := by omega
    refine codeAny_builtin PyProof.Rows.F.entry_set_update_loop ?_; rw [Around.under_plainId PyProof.Rows.F.plain_set_update_loop _]
    show wpAny _ A.in1 (pyNext (.ref I) >>= _) _ _ s
    refine wpAny_bind (Wk.item i s _ _ lt st fun v s1 hP st1 mv => ?_)
    obtain ⟨t, rfl⟩ := hv i v hP
    have hS1 : s1.heap.SetOf (PySem.strKind prog w) a (fun z => (xs.take i).any (· == z)) (dcN xs i) := by
      obtain ⟨o, es, ep, tb, ho, more⟩ := hS
      exact ⟨o, es, ep, tb, mv.heap a _ nw ho, more⟩
    show wpAny _ A.in1 (holding [Value.str (xs.getD i Str.empty) t] (setAdd a (.str (xs.getD i Str.empty) t)) >>= _) _ _ s1
    refine wpAny_bind (wpAny_holding ?_)
    unfold setAdd
    refine wpAny_holding (wpAny_bind ((PySem.strKind prog w).pyHash (k := xs.getD i Str.empty) (strKind_is _ _ _ _) ?_))
    have room : dcN xs i + 1 < scanBound := by have := dcN_le xs i; omega
    refine wpAny_setAddHashed_of (knd := PySem.strKind prog w) (s := { s1 with toks := s1.toks + 1 }) (strKind_is _ _ _ _) rfl hS1 room fun h' sb hS2 => ?_
    have hS3 : h'.SetOf (PySem.strKind prog w) a (fun z => (xs.take (i + 1)).any (· == z)) (dcN xs (i + 1)) := by
      refine SetOf_congr hS2 (fun z => ?_) (by simp only [dcN])
      have lx : i < xs.length := by omega
      have ex : xs.getD i Str.empty = xs[i] := by simp [List.getD, List.getElem?_eq_getElem lx]
      rw [ex, List.take_succ_eq_append_getElem lx, List.any_append]
      congr 1
      by_cases e : z = xs[i]
      · subst e; simp
      · have hb : (xs[i] == z) = false := by simpa [beq_iff_eq] using (fun q : xs[i] = z => e q.symm)
        simp [hb, e]
    refine wpAny_pure ⟨plainId_quiet PyProof.Rows.F.plain_set_update_loop _, ih (i + 1) _ (by omega) lt (Wk.frame _ s1 _ _ st1 (Nat.le_succ _) fun b bf o e => ?_) hS3 fun s2 mv2 hS4 => ?_⟩
    · rw [sb.2 b (fun q : b = a => na (by rw [← q]; exact bf))]; exact e
    · refine go s2 (Moved.trans Wk.gtrans ((mv.mono sub).then_heap (Nat.le_succ _) fun b o nb e => ?_) mv2) hS4
      rw [sb.2 b (fun q : b = a => nb (by rw [q]; exact List.mem_cons_self))]; exact e
end
section
variable {prog : Program} {w : World} {A : Around} {E : Value → Shared → Prop} {s : Shared}

theorem set_tuple {l : Addr} {its : Array Value} {xs : List Str} {Q : Value → Shared → Prop} (hh : A.handled = none) (hl : s.heap.IsTuple l its) (hi : PyProof.Rows.StrsAre its.toList xs) (hb : xs.length + 1 < scanBound)
    (go : ∀ (h' : Heap) (tk : Nat), h'.SetOf (PySem.strKind prog w) s.heap.objs.size (fun z => (xs.take its.size).any (· == z)) (dcN xs its.size) → (∀ b o, b < s.heap.objs.size → s.heap.get? b = some o → h'.get? b = some o) → Q (.ref s.heap.objs.size) { s with heap := h', toks := tk }) :
    wpAny (model prog w) A (call (.type "set") [.ref l]) Q E s := by
  obtain ⟨mc, mt, mro⟩ := PySem.F.called_set.mro
  have made := PySem.F.called_set.made
  have sub := PySem.F.called_set.sub
  refine wpAny_call (codeAny_of_tree ?_)
  show wpAny _ _ (callAny (.type "set") _) _ _ _
  refine wpAny_pure ⟨Code.quiet_builtin _ (by decide +kernel), codeAny_builtin PySem.F.entry_type_call ?_⟩
  rw [Around.under_plain (weight_type_call_type "set" [.ref l] []) rfl]
  have f1 := PySem.F.called_set.notType
  have f2 := PySem.F.called_set.canCreate
  have f3 := PySem.F.typeCall_set_1 (.ref l)
  repeat (any_goals first | assumption | wp_step)
  refine codeAny_mono (code_set_new_1 (.ref l) (E := E) (Q₁ := fun obj s1 => ∃ led : Bool, obj = .ref s.heap.objs.size ∧ s1 = { s with heap := s.heap.push (emptyS led) }) fun led => ⟨led, rfl, rfl⟩) fun r s1 hr => ?_
  cases r with
  | error e => exact hr
  | ok fl =>
    cases fl with
    | ret obj =>
      obtain ⟨led, rfl, rfl⟩ := hr
      have hS : (s.heap.push (emptyS led)).get? s.heap.objs.size = some (emptyS led) := Heap.get?_push_size _ rfl
      have hT : Shared.TypeIs { s with heap := s.heap.push (emptyS led) } (.ref s.heap.objs.size) "set" := ⟨_, hS, rfl⟩
      have g1 := PySem.F.called_set.init.lookup
      have g2 := PySem.F.called_set.init.bind (.ref s.heap.objs.size)
      repeat (any_goals first | assumption | wp_step)
      refine codeAny_mono (codeAny_call_builtin (R := wants (fun r s2 => r = .none ∧ ∃ h' tk, s2 = { s with heap := h', toks := tk } ∧ h'.SetOf (PySem.strKind prog w) s.heap.objs.size (fun z => (xs.take its.size).any (· == z)) (dcN xs its.size) ∧
          ∀ b o, b < s.heap.objs.size → s.heap.get? b = some o → h'.get? b = some o) E) PySem.F.called_set.init.plain PySem.F.entry_set_init (check_set_init_1 hT ?_)) fun r2 s2 hr2 => ?_
      · obtain ⟨ol, hol, hcl, nl, hdl⟩ := hl
        obtain ⟨oc, od, odt, osl⟩ := ol
        simp only at hcl hdl
        subst hcl; subst hdl
        have hol2 : (s.heap.push (emptyS led)).get? l = some { cls := .type "tuple", dict := od, data := .seq its nl, slots := osl } := Heap.get?_push_of_some _ hol
        have k1 := PySem.F.sub_tuple_set
        have k2 := PySem.F.sub_tuple_frozenset
        have k3 : (Value.type "tuple" == Value.type "dict") = false := by decide
        have hl1 : (s.heap.push (emptyS led)).IsTuple l its := ⟨_, hol2, rfl, nl, rfl⟩
        unfold Builtin.«set.__init__» noKeywords Builtin.Frozenset.updateFrom
        generalize hPI : pyIter = PI
        wp_walk
        subst hPI
        refine wpAny_pyIter_tuple hl1 (wpAny_bind (wpAny_runValue ?_))
        have ls : l < s.heap.objs.size := Heap.lt_size hol
        have hh3 : A.in1.in1.in1.handled = none := by simp [hh]
        have n1 : l ≠ (s.heap.push (emptyS led)).objs.size := by rw [Heap.size_push]; exact Nat.ne_of_lt (Nat.lt_succ_of_lt ls)
        have n2 : s.heap.objs.size ∉ [(s.heap.push (emptyS led)).objs.size, l] := by
          rw [Heap.size_push]
          simp only [List.mem_cons, List.not_mem_nil, or_false, not_or]
          exact ⟨Nat.ne_of_lt (Nat.lt_succ_self _), Nat.ne_of_gt ls⟩
        have hsz : xs.length = its.size := by rw [← StrsAre.len_eq hi, Array.length_toList]
        have hval : ∀ (i : Nat) (v : Value), its[i]? = some v → ∃ t, v = .str (xs.getD i Str.empty) t := fun i v q => SS.strs_at hi i v (by rw [Array.getElem?_toList]; exact q)
        refine setLoop ((Walks.tuple hh3 _ l n1 its).toS) s.heap.objs.size n2 xs hsz (by omega) hval (its.size - 0) 0 _ (by omega) (Nat.zero_le _) ⟨⟨_, Heap.get?_push_size _ rfl, rfl, rfl⟩, (hl1.push _)⟩ ?a0 ?a1
        case a0 =>
          have hg : ((s.heap.push (emptyS led)).push { cls := .type "tuple_iterator", data := .fields #[.ref l, .int 0 0] }).get? s.heap.objs.size = some (emptyS led) := Heap.get?_push_of_some _ hS
          exact PyProof.Rows.SetOf_congr ((PyProof.Rows.setObjOf_fresh (knd := PySem.strKind prog w) led).setOf hg (by unfold scanBound; omega)) (fun _ => rfl) rfl
        case a1 =>
          intro s1 mv hS1
          obtain ⟨hp, gg, dr, tk, os⟩ := s1
          cases (show gg = s.gens from mv.gens)
          cases (show dr = s.drawn from mv.drawn)
          cases (show os = s.os from mv.os)
          show wpAny _ _ _ _ _ _
          refine wpAny_pure ?_
          show wpAny _ _ (ret Value.none) _ _ _
          refine wpAny_pure ⟨rfl, hp, tk, rfl, hS1, fun b o lt e => mv.heap b o ?_ (Heap.get?_push_of_some _ (Heap.get?_push_of_some _ e))⟩
          simp only [List.mem_cons, List.not_mem_nil, or_false, not_or, Heap.size_push]
          exact ⟨Nat.ne_of_lt lt, Nat.ne_of_lt (Nat.lt_succ_of_lt lt)⟩
      · cases r2 with
        | error e => exact hr2
        | ok fl2 =>
          cases fl2 with
          | ret r =>
            obtain ⟨rfl, hp, tk, rfl, hS1, kp⟩ := hr2
            repeat (any_goals first | assumption | wp_step)
            exact go _ _ hS1 kp
          | _ => exact hr2.elim
    | _ => exact hr.elim

end
section
variable {X : Cx} {c : Kx} {W : WX} {a : Expr} {ma : Rho → M D}
/-- len(set(xs)), xs of texts -/
def lenSetD (_ : Sto) (d : D) : Option D := ((tupOf d).bind strsOf).bind fun xs => if Nat.blt (xs.length + 1) 4096 = true then some (.int (dcN xs xs.length)) else none
def eLenSet (m : Rho → M D) : Rho → M D := fun ρ => m ρ >>= fun d => opt fun S => lenSetD S d
theorem ev_lenSet {p p2 q pos : Pos} (hK : c.K = X.K) (hc : X.calm = true) (hg : Gl X "len") (hm : X.mg "len" = none) (hg2 : Gl X "set") (hm2 : X.mg "set" = none) (na : starEach [a] X.env = (false, eval a X.env) :: starEach [] X.env) (ha : PE X a (EvR c W ma)) :
    PE X (.Call (.Name "len" p) [.Call (.Name "set" p2) [a] [] q] [] pos) (EvR c W (eLenSet ma)) := by
  refine ⟨fun pins s σ H Q I ⟨fa, S, ρ, ok, en, h⟩ => ?_⟩
  refine Call_ (ld_blt I hg hm PySem.boot_len (PyProof.Rows.callWith_builtin1 (PyProof.Rows.args_cons ?_ rfl) rfl rfl))
  refine Call_ (ld_blt I hg2 hm2 PyProof.Rows.boot_set ?_)
  refine PyProof.Rows.callWith_type1 (PyProof.Rows.args_cons (thn (ha.run pins s σ H _ I ⟨fa, S, ρ, ok, en, h.bind⟩) fun v s1 ⟨x, H1, I1, r1, fa1, S1, d, ok1, st1, rr, h1⟩ => PyProof.Rows.args_nil ?_) na) na rfl
  obtain ⟨z, hz, q1⟩ := h1.opt
  unfold lenSetD at hz
  obtain ⟨xs, e1, e2⟩ := bind_some hz
  obtain ⟨ds, e3, e4⟩ := bind_some e1
  split at e2
  · rename_i hb
    cases e2
    have hb : xs.length + 1 < 4096 := by simpa using hb
    obtain ⟨l, vs, rfl, g, rs⟩ := rr.sqt e3
    rw [rs.strs e4] at g
    rw [hK] at g
    cases r1
    have fin : ∀ (its : List Value), Vals (xs.map V.str) its → ∀ (h' : Heap) (tk : Nat), h'.SetOf (PySem.strKind X.prog X.w) s1.heap.objs.size (fun z => (xs.take its.toArray.size).any (· == z)) (dcN xs its.toArray.size) →
        (∀ b o, b < s1.heap.objs.size → s1.heap.get? b = some o → h'.get? b = some o) →
        wpAny (model X.prog X.w) X.A (spliced (backTo pos (starEach [] X.env))) (fun vs s2 => wpAny (model X.prog X.w) X.A (call (.builtin "len") (Value.ref s1.heap.objs.size :: vs)) (EP X pins σ Q) X.xe s2) X.xe { s1 with heap := h', toks := tk } := fun its r h' tk hS hk => by
      refine PyProof.Rows.args_nil ?_
      have hl : its.toArray.size = xs.length := by rw [List.size_toArray, ← r.length, List.length_map]
      rw [hl] at hS
      obtain ⟨o, es, ep, t, ho, hex, hd, _, _, _, hf, hn⟩ := hS
      have I2 : Inv X pins σ H1 { s1 with heap := h', toks := tk } := I1.kept fun b o e => hk b o (Heap.lt_size e) e
      have := dcN_le xs xs.length
      exact call_len_set ho hex hd hf (by rw [hn]; omega) ⟨.int (dcN xs xs.length), H1, I2.tok _, ⟨_, by rw [hn]⟩, q1 fa1 _ H1 .refl ok1 (.mkI _)⟩
    obtain ⟨its, r, pl, hz⟩ := I1.tuple g
    exact set_tuple (I1.ok.hd hc) pl (by simpa using L2.strsAre_of r) (by unfold scanBound; omega) fun h' tk hS hk => fin its r h' tk hS hk
  · cases e2
end
end CR

/-! CrC4: isinstance, sorted, list and tuple of a text, x op= y, a, b = x, y, names of the module. -/
namespace CR
open PySem PySem.Spec PyProof.Rows L2
section
variable {X : Cx} {c : Kx} {W : WX} {a b e : Expr} {pos : Pos} {ma mb : Rho → M D}
/-! ### isinstance, built-in types -/
def tyN (S : Sto) : D → Option String
  | .non => some "NoneType"
  | .bl _ => some "bool"
  | .int _ => some "int"
  | .str _ => some "str"
  | .tup _ => some "tuple"
  | .tp _ => some "tuple"
  | .kt _ => some "tuple"
  | .lst _ => some "list"
  | .fz _ => some "list"
  | .ref n => match S[n]? with
    | some (.lst _) => some "list"
    | some (.dK _ _) => some "dict"
    | some (.dT _ _) => some "dict"
    | _ => none
  | _ => none
theorem Rel.tyx {fa : List Addr} {S : Sto} {H : Hp} (ok : StOk c fa S H) {d : D} {v : V} {T : String} (h : Rel c fa H d v) (e : tyN S d = some T) : TyX c.K H v (.type T) := by
  cases d with
  | non => cases e; rw [h.non]; exact .base .non
  | bl _ => cases e; rw [h.bl]; exact .base (.bl _)
  | int _ => cases e; rw [h.int]; exact .base (.int _)
  | str _ => cases e; rw [h.str]; exact .base (.str _)
  | tup ds =>
    cases e
    simp only [Rel] at h
    obtain ⟨a, vs, rfl, ⟨_, o, _, hH⟩ | ⟨_, o, _, _, h1, h2, _⟩, _⟩ := h
    · exact .fTuple hH
    · exact .kTuple h1 h2
  | tp ds =>
    cases e
    simp only [Rel] at h
    obtain ⟨a, vs, rfl, h, _⟩ := h
    exact .base (.tup h.2)
  | kt ds =>
    cases e
    simp only [Rel] at h
    obtain ⟨a, vs, rfl, ⟨o, _, _, h1, h2, _⟩, _⟩ := h
    exact .kTuple h1 h2
  | lst ds =>
    cases e
    simp only [Rel] at h
    obtain ⟨a, vs, rfl, h, _⟩ := h
    exact .base (.lst h.2)
  | fz ds =>
    cases e
    simp only [Rel] at h
    obtain ⟨a, vs, rfl, ⟨_, h | ⟨o, h⟩⟩ | ⟨o, _, _, h1, h2, _⟩, _⟩ := h
    · exact .base (.lst h)
    · exact .base (.frz h)
    · exact .kList h1 h2
  | ref n =>
    simp only [Rel] at h
    obtain ⟨a, ha, rfl⟩ := h
    unfold tyN at e
    cases q : S[n]? with
    | none => simp only [q] at e; cases e
    | some o =>
      obtain ⟨u, hu, r⟩ := ok.obj n a o ha q
      cases o with
      | lst es => simp only [q] at e; cases e; obtain ⟨vs, rfl, _⟩ := r; exact .base (.lst hu)
      | dK ks es => simp only [q] at e; cases e; obtain ⟨vs, rfl, _⟩ := r; exact .base (.dK hu)
      | dT ks es => simp only [q] at e; cases e; obtain ⟨vs, rfl, _⟩ := r; exact .base (.dT hu)
      | _ => simp only [q] at e; cases e
  | _ => cases e
/-- what isinstance says of two built-in types -/
def isiB (T U : String) : Option Bool :=
  if T = U then some true else if U = "int" ∧ T = "bool" then some true else if U = "str" ∨ U = "tuple" ∨ U = "list" ∨ U = "dict" ∨ U = "int" ∨ U = "bool" then (if T = "NoneType" ∨ T = "bool" ∨ T = "int" ∨ T = "str" ∨ T = "tuple" ∨ T = "list" ∨ T = "dict" then some false else none) else none
theorem isiB_ok {K : PySem.W.Frag} {T U : String} {r : Bool} (h : isiB T U = some r) : PySem.W.kitOne K (.type T) (.type U) = some r := by
  refine kit_ty ?_
  unfold isiB at h
  split at h
  · rename_i e; subst e; cases h; unfold kitB; simp
  · split at h
    · rename_i e; obtain ⟨rfl, rfl⟩ := e; cases h; decide +kernel
    · rename_i h0 h1
      split at h
      · rename_i h2
        split at h
        · rename_i h3
          cases h
          rcases h2 with rfl | rfl | rfl | rfl | rfl | rfl <;> rcases h3 with rfl | rfl | rfl | rfl | rfl | rfl | rfl <;> first | exact absurd rfl h0 | exact absurd ⟨rfl, rfl⟩ h1 | decide +kernel
        · cases h
      · cases h
def isiD (U : String) (d : D) : M D := opt fun S => (tyN S d).bind fun T => (isiB T U).map .bl
theorem ev_isi {U : String} {p q : Pos} {x : Str} (hK : c.K = X.K) (hg : Gl X "isinstance") (hm : X.mg "isinstance" = none) (hgU : Gl X x) (hmU : X.mg x = none) (hU : bootBuiltins x = some (.type U)) (hn : x ≠ "__name__") (hdb : (x == ("__debug__" : Str)) = false)
    (na : starEach [a, .Name x q] X.env = (false, eval a X.env) :: starEach [.Name x q] X.env) (ha : PE X a (EvR c W ma)) :
    PE X (.Call (.Name "isinstance" p) [a, .Name x q] [] pos) (EvR c W (eUn (isiD U) ma)) :=
  (pe_callB call_isi hg hm boot_isinstance (pa_cons ha (pa_cons (pe_bltn (v := .ty U) hgU hmU hU rfl hn hdb) pa_nil rfl) na) (by decide) (by decide) na rfl).imp fun σ H Q ⟨fa, S, ρ, ok, en, h⟩ => by
    refine ⟨fa, S, ρ, ok, en, h.bind.imp (fun x H1 ⟨fa1, S1, d, ok1, st1, r1, h1⟩ => ?_) fun _ _ _ z => z⟩
    obtain ⟨z, hz, q1⟩ := h1.opt
    obtain ⟨T, e1, e2⟩ := bind_some hz
    obtain ⟨r, e3, rfl⟩ := Option.map_eq_some_iff.mp e2
    have ty := r1.tyx ok1 e1
    rw [hK] at ty
    exact ⟨x, .ty U, _, _, r, rfl, .ty U, ty, isiB_ok e3, q1 fa1 _ H1 .refl ok1 (.mkB _)⟩
/-! ### sorted, texts -/
def sortS (xs : List Str) : List Str := xs.mergeSort fun x y => !strLt y x
theorem strLt_iff {x y : Str} : strLt x y = true ↔ x.cps.toList < y.cps.toList := by unfold strLt; exact decide_eq_true_iff
theorem sle_trans (x y z : Str) (h1 : (!strLt y x) = true) (h2 : (!strLt z y) = true) : (!strLt z x) = true := by
  simp only [Bool.not_eq_true', ← Bool.not_eq_true, strLt_iff] at *
  exact Std.not_lt.mpr (Std.le_trans (Std.not_lt.mp h1) (Std.not_lt.mp h2))
theorem sle_total (x y : Str) : ((!strLt y x) || (!strLt x y)) = true := by
  simp only [Bool.or_eq_true, Bool.not_eq_true', ← Bool.not_eq_true, strLt_iff]
  rcases Std.le_total (a := x.cps.toList) (b := y.cps.toList) with h | h
  · exact .inl (Std.not_lt.mpr h)
  · exact .inr (Std.not_lt.mpr h)
theorem str_ext {x y : Str} (h : x.cps.toList = y.cps.toList) : x = y := by
  cases x; cases y; simp at h; simp [h]
theorem sle_anti (x y : Str) (h1 : (!strLt y x) = true) (h2 : (!strLt x y) = true) : x = y := by
  simp only [Bool.not_eq_true', ← Bool.not_eq_true, strLt_iff] at *
  exact str_ext (Std.le_antisymm (Std.not_lt.mp h1) (Std.not_lt.mp h2))
theorem rising_pw : ∀ (xs : List Str) (p : Str), risingS p xs = true → (p :: xs).Pairwise fun x y => (!strLt y x) = true
  | [], p, _ => by simp
  | x :: r, p, h => by
    simp only [risingS, Bool.and_eq_true] at h
    have ih := rising_pw r x h.2
    have hp : (!strLt x p) = true := by
      have := h.1
      simp only [ltCps_eq] at this
      simpa [strLt] using this
    refine List.Pairwise.cons (fun y hy => ?_) ih
    rcases List.mem_cons.mp hy with rfl | hy
    · exact hp
    · exact sle_trans _ _ _ hp ((List.pairwise_cons.mp ih).1 y hy)
theorem sorted_is {xs ys : List Str} (p : ys.Perm xs) (h : sortedS ys = true) : ys = sortS xs := by
  have pw : ys.Pairwise fun x y => (!strLt y x) = true := by
    cases ys with
    | nil => simp
    | cons y r => exact rising_pw r y h
  refine List.Perm.eq_of_pairwise (fun a b _ _ => sle_anti a b) pw (List.pairwise_mergeSort sle_trans sle_total xs) (p.trans (List.mergeSort_perm xs _).symm)
def sortI (xs : List Int) : List Int := xs.mergeSort fun x y => decide (x ≤ y)
theorem sortedI_is {xs ys : List Int} (p : ys.Perm xs) (h : ys.Pairwise (· ≤ ·)) : ys = sortI xs := by
  refine List.Perm.eq_of_pairwise (le := fun x y => decide (x ≤ y) = true) (fun a b _ _ h1 h2 => by simp at h1 h2; omega) (h.imp fun h => by simpa using h) (List.pairwise_mergeSort (by simp; omega) (by simp; omega) xs) (p.trans (List.mergeSort_perm xs _).symm)
def sortD (S : Sto) (d : D) : Option D := (listOf S d).bind fun ds => match intsOf ds with
  | some ns => some (.lst ((sortI ns).map .int))
  | none => (strsOf ds).bind fun xs => if Nat.blt xs.length 64 = true then some (.lst ((sortS xs).map .str)) else none
theorem cr_sortD (hK : c.K = X.K) : CallR X (.builtin "sorted") (rn c (opt1 sortD)) := by
  refine CallR.imp (CallR.or cr_sortedI cr_sortedS) fun xs H Q h => ?_
  obtain ⟨fa, S, d, v, z, ok, rfl, h1, hz, q⟩ := rn_opt1 h
  obtain ⟨ds, e1, e2⟩ := bind_some hz
  obtain ⟨a, vs, rfl, g, r⟩ := h1.sql ok e1
  rw [hK] at g
  split at e2
  · rename_i ns e3
    cases e2
    rw [r.ints e3] at g
    exact .inl ⟨a, ns, rfl, g, fun ns' p hp hs hn => by
      rw [sortedI_is hp hs]
      exact q fa _ _ (.fresh ok hn) (ok.fresh hn) (Rel.newL ok hn (.mkInts _))⟩
  · obtain ⟨ss, e3, e4⟩ := bind_some e2
    split at e4
    · rename_i hb
      cases e4
      rw [r.strs e3] at g
      exact .inr ⟨a, ss, rfl, g, by simpa using hb, fun ns' p hp hs hn => by
        rw [sorted_is hp hs]
        exact q fa _ _ (.fresh ok hn) (ok.fresh hn) (Rel.newL ok hn (.mkStrs _))⟩
    · cases e4
/-! ### list(text), tuple(text) -/
def signsD (x : Str) : List D := x.cps.toList.map fun k => .str ⟨#[k]⟩
theorem signs_vals {x : Str} {acc : Array Value} (h : PySem.ItemsOf (PySem.SignAt x) acc x.cps.size) : Vals (x.cps.toList.map fun k => V.str ⟨#[k]⟩) acc.toList := by
  have go : ∀ (ks : List Nat) (us : List Value), us.length = ks.length → (∀ (j : Nat) (v : Value), us[j]? = some v → ∃ k t, ks[j]? = some k ∧ v = Value.str ⟨#[k]⟩ t) → Vals (ks.map fun k => V.str ⟨#[k]⟩) us := by
    intro ks
    induction ks with
    | nil => intro us hl _; cases us with | nil => exact .nil | cons u us => simp at hl
    | cons k ks ih =>
      intro us hl hv
      cases us with
      | nil => simp at hl
      | cons u us =>
        obtain ⟨k', t, e1, e2⟩ := hv 0 u rfl
        simp at e1; subst e1
        exact .cons ⟨t, e2⟩ (ih us (by simpa using hl) fun j v e => hv (j + 1) v (by simpa using e))
  refine go _ _ (by simp [h.1]) fun j v e => ?_
  obtain ⟨k, u, e1, e2⟩ := h.2 j v (by simpa using e)
  exact ⟨k, u, by simpa using e1, e2⟩
theorem Rels.signs {fa : List Addr} {H : Hp} (x : Str) : Rels c fa H (signsD x) (x.cps.toList.map fun k => V.str ⟨#[k]⟩) := by
  unfold signsD
  have := Rels.mkStrs (c := c) (fa := fa) (H := H) (x.cps.toList.map fun k => (⟨#[k]⟩ : Str))
  rw [List.map_map, List.map_map] at this
  exact this
theorem call_listS (hc : X.calm = true) : CallR X (.type "list") (fun xs H Q => ∃ x : Str, xs = [.str x] ∧ x.length ≤ sizeLine ∧ ∀ p, H p = none → Q (.ref p) (upd H p (.lst (x.cps.toList.map fun k => V.str ⟨#[k]⟩)))) := by
  rintro pins s σ H xs us Q I r ⟨x, rfl, hz, q⟩
  obtain ⟨u, rfl, t, rfl⟩ := vals1 r
  refine PySem.call_list_str (I.ok.hd hc) x t (fun h' tk acc k hk hS ha => ?_) hz
  exact ⟨.ref _, upd H s.heap.objs.size (.lst (x.cps.toList.map fun k => V.str ⟨#[k]⟩)), I.laid (t' := tk) hk (Nat.le_refl _) ⟨by simp only [List.length_map, Array.length_toList]; exact hz, acc.toList, k, signs_vals ha, by simpa using hS⟩, rfl, q _ (I.hok.fresh (Nat.le_refl _))⟩
theorem call_tupleS (hc : X.calm = true) : CallR X (.type "tuple") (fun xs H Q => ∃ x : Str, xs = [.str x] ∧ x.length ≤ sizeLine ∧ ∀ p o, H p = none → o.dict = none → Q (.ref p) (upd H p (.frz o (.tup (x.cps.toList.map fun k => V.str ⟨#[k]⟩))))) := by
  rintro pins s σ H xs us Q I r ⟨x, rfl, hz, q⟩
  obtain ⟨u, rfl, t, rfl⟩ := vals1 r
  refine PySem.call_tuple_str (I.ok.hd hc) x t (fun h' tk acc hk ha => ?_) hz
  have I1 : Inv X pins σ H { s with heap := h', toks := tk } := I.kept (t' := tk) hk
  refine ⟨.ref h'.objs.size, upd H h'.objs.size (.frz { cls := .type "tuple", data := .seq acc } (.tup (x.cps.toList.map fun k => V.str ⟨#[k]⟩))), I1.laid (t' := tk) (fun b o e => Heap.get?_push_of_some _ e) (Nat.le_refl _) ?_, rfl, q h'.objs.size { cls := .type "tuple", data := .seq acc } (I1.hok.fresh (Nat.le_refl _)) rfl⟩
  exact ⟨Heap.get?_push_size _ rfl, by simp only [List.length_map, Array.length_toList]; exact hz, acc.toList, signs_vals ha, by simpa using IsTup.new h' acc⟩
/-- list(x), changed later -/
def listF (S : Sto) (d : D) : Option (List D) := match d with
  | .str x => if fits x.length = true then some (signsD x) else none
  | d => seqOf S d
theorem cr_listF (hK : c.K = X.K) (hc : X.calm = true) : CallR X (.type "list") (rn c (allocL listF)) := by
  refine CallR.imp (CallR.or (call_listS hc) call_list_of) fun xs H Q ⟨fa, S, ds, ok, r, en⟩ => ?_
  unfold Ends1 allocL at en
  match ds, en, r with
  | [d], en, r =>
    obtain ⟨v, rfl, h1⟩ := r.one
    cases e1 : listF S d with
    | none => simp only [e1] at en
    | some es =>
      simp only [e1] at en
      unfold listF at e1
      split at e1
      · split at e1
        · rename_i x hf
          cases e1
          rw [h1.str]
          exact .inl ⟨x, rfl, fits_iff.mp hf, fun p hp => en (fa ++ [p]) _ _ (Step.alloc ok hp) (ok.alloc hp ⟨_, rfl, .signs x⟩) (.refn (by rw [← ok.len, List.getElem?_append_right (Nat.le_refl _)]; simp))⟩
        · cases e1
      · obtain ⟨a, vs, rfl, g, r⟩ := h1.sq ok e1
        rw [hK] at g
        exact .inr ⟨a, vs, rfl, g, fun p hp => en (fa ++ [p]) _ _ (Step.alloc ok hp) (ok.alloc hp ⟨vs, rfl, r⟩) (.refn (by rw [← ok.len, List.getElem?_append_right (Nat.le_refl _)]; simp))⟩
/-- list(x), not changed -/
def listG (S : Sto) (d : D) : Option D := (listF S d).map .lst
theorem cr_listG (hK : c.K = X.K) (hc : X.calm = true) : CallR X (.type "list") (rn c (opt1 listG)) := by
  refine CallR.imp (CallR.or (call_listS hc) call_list_of) fun xs H Q h => ?_
  obtain ⟨fa, S, d, v, z, ok, rfl, h1, hz, q⟩ := rn_opt1 h
  obtain ⟨es, e1, rfl⟩ := Option.map_eq_some_iff.mp hz
  unfold listF at e1
  split at e1
  · split at e1
    · rename_i x hf
      cases e1
      rw [h1.str]
      exact .inl ⟨x, rfl, fits_iff.mp hf, fun p hp => q fa _ _ (.fresh ok hp) (ok.fresh hp) (Rel.newL ok hp (.signs x))⟩
    · cases e1
  · obtain ⟨a, vs, rfl, g, r⟩ := h1.sq ok e1
    rw [hK] at g
    exact .inr ⟨a, vs, rfl, g, fun p hp => q fa _ _ (.fresh ok hp) (ok.fresh hp) (Rel.newL ok hp r)⟩
def tupleF (S : Sto) (d : D) : Option D := match d with
  | .str x => if fits x.length = true then some (.tup (signsD x)) else none
  | d => tupleD S d
theorem cr_tupleF (hK : c.K = X.K) (hc : X.calm = true) : CallR X (.type "tuple") (rn c (opt1 tupleF)) := by
  intro pins s σ H xs us Q I rv h
  obtain ⟨fa, S, d, v, z, ok, rfl, h1, hz, q⟩ := rn_opt1 h
  unfold tupleF at hz
  split at hz
  · split at hz
    · rename_i x hf
      cases hz
      refine call_tupleS hc pins s σ H _ us Q I rv ⟨x, by rw [h1.str], fits_iff.mp hf, fun p o hp ho => q fa _ _ (.fresh ok hp) (ok.fresh hp) (Rel.newT ok ho hp (.signs x))⟩
    · cases hz
  · refine cr_tupleD hK pins s σ H _ us Q I rv ⟨fa, S, [d], ok, .cons h1 .nil, ?_⟩
    unfold Ends1 opt1 opt
    simp only [hz]
    exact q
/-! ### x op= y -/
def sAug (i : Nat) (mo : D → D → M D) (m : Rho → M D) : MS := fun ρ => match ρ[i]? with
  | some (some x) => lift ρ (m ρ) fun y S => (match mo x y S with
    | .ok z S' => .ok (.nx (ρ.set i (some z))) S'
    | _ => .bad)
  | _ => M.bad
theorem sv_aug {i : Nat} {x : Str} {op : Operator} {mo : D → D → M D} {p : Pos} (ho : OpR X (inplaceOp op) (r2 c mo)) (hN : X.N.Nodup) (hi : X.N[i]? = some x) (hx : Loc X.env.scope x) (hf : X.fn x = true ∨ X.env.scope.names.lookup x = some .local) (ha : PE X a (EvR c W ma)) :
    PS X (.AugAssign (.Name x p) op a pos) (SvR c W (sAug i mo ma)) :=
  (ps_aug hN hi hx ha (show PIp X op (r2 c mo) from ho) hf).imp fun Dn σ H ⟨fa, S, ρ, ok, en, h⟩ => by
    unfold sAug at h
    cases q : ρ[i]? with
    | none => rw [q] at h; exact h.elim
    | some o =>
      cases o with
      | none => rw [q] at h; exact h.elim
      | some d =>
        rw [q] at h
        obtain ⟨v, e, r⟩ := en.2 i d q
        refine ⟨v, e, fa, S, ρ, ok, en, (h.lift en).imp (fun y H1 ⟨fa1, S1, dy, ok1, st1, ry, h1⟩ => ?_) fun _ _ _ z => z⟩
        refine ⟨fa1, S1, d, dy, ok1, r.mono st1, ry, ?_⟩
        unfold EndsS at h1
        unfold Ends1
        cases e1 : mo d dy S1 with
        | bad => simp only [e1] at h1
        | exc z S2 => simp only [e1] at h1
        | ok z S2 =>
          simp only [e1] at h1
          exact fun fa2 b H2 st2 ok2 rz => h1 fa2 _ H2 st2 ok2 (((en.mono st1).mono st2).set i rz)
/-- += -/
def iaddP (d e : D) : Option D := match d, e with
  | .int i, .int j => some (.int (i + j))
  | .str x, .str y => if fits (x.length + y.length) = true then some (.str (x ++ y)) else none
  | _, _ => none
def iaddM (d e : D) : M D := fun S => match iaddP d e with
  | some z => .ok z S
  | none => (match lrefOf S d, lstOf S e with
    | some (n, xs), some ys => if fits (xs.length + ys.length) = true then .ok d (S.set n (.lst (xs ++ ys))) else .bad
    | _, _ => .bad)
theorem OpR.or {f : Value → Value → Sem Value} {r r' : R2} (h : OpR X f r) (h' : OpR X f r') : OpR X f (fun x y H Q => r x y H Q ∨ r' x y H Q) := fun pins s σ H x y v u Q I a b q => by
  rcases q with q | q
  · exact h pins s σ H x y v u Q I a b q
  · exact h' pins s σ H x y v u Q I a b q
theorem op_iaddM : OpR X (inplaceOp .Add) (r2 c iaddM) := by
  refine OpR.imp (OpR.or iop_add (OpR.or iop_add_str iop_ext)) ?_
  rintro x y H Q ⟨fa, S, d, e, ok, h1, h2, en⟩
  unfold Ends1 iaddM at en
  cases e0 : iaddP d e with
  | some z =>
    simp only [e0] at en
    unfold iaddP at e0
    split at e0
    · cases e0; rw [h1.int, h2.int]; exact .inl ⟨_, _, rfl, rfl, en fa _ H .refl ok (.mkI _)⟩
    · split at e0
      · rename_i hf
        cases e0; rw [h1.str, h2.str]; exact .inr (.inl ⟨_, _, rfl, rfl, fits_iff.mp hf, en fa _ H .refl ok (.mkS _)⟩)
      · cases e0
    · cases e0
  | none =>
    simp only [e0] at en
    cases e1 : lrefOf S d with
    | none => simp only [e1] at en
    | some p =>
      obtain ⟨n, xs⟩ := p
      cases e2 : lstOf S e with
      | none => simp only [e1, e2] at en
      | some ys =>
        simp only [e1, e2] at en
        by_cases hb : fits (xs.length + ys.length) = true
        · simp only [hb, if_true] at en
          obtain ⟨a, vs, rfl, ha, hH, rv⟩ := h1.lref ok e1
          obtain ⟨b, ws, rfl, hB, rw'⟩ := h2.lown ok e2
          refine .inr (.inr ⟨a, b, vs, ws, rfl, rfl, hH, hB, by rw [← rv.length, ← rw'.length]; exact fits_iff.mp hb, en fa _ _ (Step.write (S := S) ha) (ok.write ha ⟨_, rfl, rv.append rw'⟩) ?_⟩)
          exact h1.mono (Step.write (S := S) ha)
        · simp only [hb] at en; exact en.elim
/-! ### a, b = x, y -/
def sPar (i j : Nat) (m : Rho → M (List D)) : MS := fun ρ => lift ρ (m ρ) fun ds => match ds with
  | [d, e] => pure (.nx ((ρ.set i (some d)).set j (some e)))
  | _ => M.bad
theorem sv_par {i j : Nat} {x y : Str} {mr : Rho → M (List D)} {px py pt : Pos} {kt k2 pt2} (hc : X.calm = true) (hN : X.N.Nodup) (hi : X.N[i]? = some x) (hj : X.N[j]? = some y) (hij : i ≠ j)
    (hx : X.env.scope.names.lookup x = some .local) (hy : X.env.scope.names.lookup y = some .local) (hw : swappedStores [.Tuple [.Name x px, .Name y py] kt pt] (.Tuple [a, b] k2 pt2) X.env = pure (some [x, y]))
    (hs : swapsWithSole [.Tuple [.Name x px, .Name y py] kt pt] (.Tuple [a, b] k2 pt2) pos.line X.env = pure false) (ha : PA X [a, b] (AvR c W mr)) :
    PS X (.Assign [.Tuple [.Name x px, .Name y py] kt pt] (.Tuple [a, b] k2 pt2) pos) (SvR c W (sPar i j mr)) :=
  (ps_par hc hN hi hj hij hx hy ha hw hs).imp fun Dn σ H ⟨fa, S, ρ, ok, en, h⟩ => by
    refine ⟨fa, S, ρ, ok, en, (h.lift en).imp (fun vs H1 ⟨fa1, S1, ds, ok1, st1, r1, h1⟩ => ?_) fun _ _ _ z => z⟩
    match ds, r1, h1 with
    | [d, e], r1, h1 =>
      obtain ⟨v, w, rfl, r2, r3⟩ := r1.two
      exact ⟨v, w, rfl, h1 fa1 _ H1 .refl ok1 (((en.mono st1).set i r2).set j r3)⟩
    | [], _, h1 => exact h1.elim
    | [_], _, h1 => exact h1.elim
    | _ :: _ :: _ :: _, _, h1 => exact h1.elim
def sPar3 (i j l : Nat) (m : Rho → M (List D)) : MS := fun ρ => lift ρ (m ρ) fun ds => match ds with
  | [d, e, f] => pure (.nx (((ρ.set i (some d)).set j (some e)).set l (some f)))
  | _ => M.bad
theorem Rels.three {fa : List Addr} {H : Hp} {d e f : D} {vs : List V} (h : Rels c fa H [d, e, f] vs) : ∃ v w u, vs = [v, w, u] ∧ Rel c fa H d v ∧ Rel c fa H e w ∧ Rel c fa H f u := by
  obtain ⟨v, r, rfl, h1, h2⟩ := Rels.cons_iff.mp h
  obtain ⟨w, u, rfl, h3, h4⟩ := h2.two
  exact ⟨v, w, u, rfl, h1, h3, h4⟩
/-! ### names of the module -/
theorem ev_glob {x : Str} {d : D} {v : V} {u : Value} (hg : Gl X x) (hm : X.mg x = some u) (r : RelV v u) (hd : (x == ("__debug__" : Str)) = false) (rd : ∀ fa H, Rel c fa H d v) : PE X (.Name x pos) (EvR c W (eCst d)) := ev_cst (pe_glob hg hm r hd) rd
end
end CR

/-! CrEnd: a law's end, over FnG. -/
namespace CR
open PySem PySem.Spec PyProof.Rows L2
/-- the law's def is called with the script -/
theorem law_callG {P : Program} {w : World} {K : PySem.W.Frag} {mg mb : Str → Option Value} {k : Nat} {fa a : Addr} {fd : FuncData} {x : Str} {sp : Sp} {s1 : Shared} {us : List Value} {ns : List Int} (KI : K.In s1.heap) (hns : s1.heap.Ns mainGlobals mg) (hb : s1.heap.Ns builtinsNs mb) (hbb : ∀ x : Str, x ≠ "__name__" → mb x = bootBuiltins x)
    (nl : s1.heap.NoLimit) (hg : s1.gens = #[]) (ha : s1.heap.get? a = some { cls := .type "list", data := .seq us.toArray }) (hi : IntsAre us ns) (hl : ns.length ≤ sizeLine) (hr : Room k callerA) (hgd : callerA.guards = some [])
    (F : ∀ base : Heap, K.In base → base.Ns mainGlobals mg → FnG P w K mg base k fa fd [x] sp) (bd : ∀ (s : Shared) (u : Value), BindsTo s fd ⟨[u], []⟩ [(x, u)])
    (hsp : ∀ H : Hp, Only H → SqL K H a (ns.map V.int) → sp [.ref a] H (fun v _ => v = .bl true) fun _ _ _ => False) :
    codeAny (model P w) callerA (.call (.ref fa) ⟨[.ref a], []⟩) (fun r s' => r = .ok (.ret (.bool true)) ∧ OldK s1.heap s'.heap ∧ s'.os = s1.os ∧ AllBare s'.gens) s1 := by
  have rv := vals_ints hi
  have ln := hi.length
  have core : ∀ H : Hp, Only H → SqL K H a (ns.map V.int) → HOk P w H s1.heap → (∀ b, H b ≠ none → b = a) → (H a ≠ none → K.lookup a = none) →
      codeAny (model P w) callerA (.call (.ref fa) ⟨[.ref a], []⟩) (fun r s' => r = .ok (.ret (.bool true)) ∧ OldK s1.heap s'.heap ∧ s'.os = s1.os ∧ AllBare s'.gens) s1 := fun H hO hS hok only hK => by
    have up : ∀ {b : Addr} {o : Obj}, s1.heap.get? b = some o → H b = none → (hidT s1.heap H).get? b = some o := fun e z => hidT_get e z
    have dn : ∀ {b : Addr} {o : Obj} {es : Array DictEntry} {ep : Nat}, s1.heap.get? b = some o → o.data = .dict es ep → H b = none := fun {b o es ep} e d => by
      cases q : H b with
      | none => rfl
      | some u =>
        obtain rfl : b = a := only b (by rw [q]; simp)
        rw [ha] at e; cases e
        exact nomatch (show Data.seq us.toArray _ = Data.dict es ep from d)
    have ns1 : ∀ {b : Addr} {m : Str → Option Value}, s1.heap.Ns b m → (hidT s1.heap H).Ns b m := fun {b m} ⟨o, es, ep, e, d, r⟩ => ⟨o, es, ep, up e (dn e d), d, r⟩
    have KB : K.In (hidT s1.heap H) := fun b o e => up (KI b o e) (by
      cases q : H b with
      | none => rfl
      | some u =>
        obtain rfl : b = a := only b (by rw [q]; simp)
        rw [hK (by rw [q]; simp)] at e; cases e)
    obtain ⟨mc, l1, l2⟩ := nl
    have md : Mod K mg (hidT s1.heap H) := ⟨KB, ns1 hns, ⟨mb, ns1 hb, hbb⟩, ⟨mc, ns1 l1, l2⟩⟩
    have env : Env0 P w K mg (hidT s1.heap H) callerA [] s1 H := ⟨rfl, md, fun b o e => of_hidT e, Nat.le_of_eq (hidT_size _ _), trivial, fun b hb => absurd (show b ∈ ([] : List Addr) from hb) (by simp), hok, .of_eq hg⟩
    refine codeAny_mono ((F _ KB (ns1 hns)).run callerA [] s1 H ⟨[.ref a], []⟩ [.ref a] [.ref a] _ _ hgd hr env (bd s1 (.ref a)) (.cons rfl .nil) (hsp H hO hS)) fun r s' h => ?_
    match r, h with
    | .error e, h =>
      obtain ⟨_, _, _, _, _, _, _, _, _, _, _, _, z⟩ := h
      exact False.elim z
    | .ok .next, h => exact False.elim h
    | .ok .brk, h => exact False.elim h
    | .ok .cont, h => exact False.elim h
    | .ok (.ret u), h =>
      obtain ⟨v, H1, os, bare, un, hok1, r1, q⟩ := h
      obtain rfl : v = .bl true := q
      obtain rfl : u = Value.bool true := r1
      refine ⟨rfl, OldK.of_keep fun b o e => ?_, os, bare⟩
      rcases hO b with z | ⟨ob, xs, z⟩
      · exact un.keep b o e z (by intro z; exact absurd (show b ∈ ([] : List Addr) from z) (by simp)) (by simp)
      · have z2 := un.frzs b ob _ z
        obtain ⟨e1, _⟩ := hok b _ z
        obtain ⟨e2, _⟩ := hok1 b _ z2
        rw [e] at e1; cases e1
        exact e2
  cases hk : K.lookup a with
  | some o =>
    have e := KI a o hk
    rw [ha] at e; cases e
    exact core (fun _ => none) (fun _ => .inl rfl) (.inr ⟨_, us.toArray, _, hk, rfl, rfl, rfl, by rw [List.size_toArray, ln]; exact hl, by simpa using rv⟩) (fun b u z => nomatch (show (none : Option HO) = some u from z)) (fun b z => absurd rfl z) fun z => absurd rfl z
  | none =>
    let Ho : Hp := fun b => if b = a then some (.frz { cls := .type "list", data := .seq us.toArray } (.lst (ns.map V.int))) else none
    have yes : Ho a = some (.frz { cls := .type "list", data := .seq us.toArray } (.lst (ns.map V.int))) := if_pos rfl
    have no : ∀ b, b ≠ a → Ho b = none := fun b h => if_neg h
    refine core Ho (fun b => ?_) (.inl (.inr ⟨_, yes⟩)) (fun b u z => ?_) (fun b z => ?_) fun _ => hk
    · by_cases h : b = a
      · subst h; exact .inr ⟨_, _, yes⟩
      · exact .inl (no b h)
    · by_cases h : b = a
      · subst h
        rw [yes] at z; cases z
        exact ⟨ha, by rw [List.length_map]; exact hl, us, _, rv, ha⟩
      · rw [no b h] at z; cases z
    · by_cases h : b = a
      · exact h
      · exact absurd (no b h) z
theorem guards_caller : callerA.guards = some [] := rfl
theorem walk_ofG {l : PySem.W.OpenLaw} {n k : Nat} {q : Program} {loose : List Str} {XP : (Str → Option Value) → Heap → Prop} {YP : World → Heap → Prop} {d : DefRec} {x : Str} (hn : l.most = some n) (hn2 : n ≤ sizeLine) (hdf : d.params.defaults = []) (hr : Room k callerA)
    (F : ∀ (w : World) (mg : Str → Option Value) (fa : Addr) (h : Heap), YP w h → h.Ns mainGlobals mg → mg d.name = some (.ref fa) → ∃ (K : PySem.W.Frag) (fd : FuncData) (sp : Sp), K.In h ∧ (∀ (s : Shared) (u : Value), BindsTo s fd ⟨[u], []⟩ [(x, u)]) ∧
        (∀ (H : Hp) (a : Addr) (ns : List Int), ns.length ≤ n → SqL K H a (ns.map V.int) → sp [.ref a] H (fun v _ => v = .bl true) fun _ _ _ => False) ∧ ∀ base : Heap, K.In base → base.Ns mainGlobals mg → FnG l.prog w K mg base k fa fd [x] sp) :
    PySem.W.WalkO q loose XP YP l.row.toRowW d [] (fun f vs => PySem.call f vs) := by
  refine Att.attach_call hn hdf fun w s0 s1 mg mb fa o pm cd doc a us ns G Y ho hd hcd hmg hobj hints hlen hg => ?_
  obtain ⟨K, fd, sp, KI, bd, hsp, hF⟩ := F w mg fa _ Y G.T.g hmg
  exact law_callG KI G.T.g G.T.b G.T.builtins G.T.nolimit hg hobj hints (Nat.le_trans hlen hn2) hr guards_caller hF bd fun H _ hS => hsp H a ns hlen hS
/-- the law's promise from plain data -/
theorem sp_law {c : Kx} {F : List D → M D} {n : Nat} (h : ∀ ns : List Int, ns.length ≤ n → ∃ S, F [.fz (ns.map D.int)] [] = .ok (.bl true) S) (H : Hp) (a : Addr) (ns : List Int) (hl : ns.length ≤ n) (hS : SqL c.K H a (ns.map V.int)) : spD c F [.ref a] H (fun v _ => v = .bl true) fun _ _ _ => False := by
  obtain ⟨S, e⟩ := h ns hl
  have ok : StOk c [] [] H := ⟨List.nodup_nil, rfl, fun n a d h1 => by simp at h1⟩
  refine ⟨[], [], [.fz (ns.map D.int)], ok, .cons ?_ .nil, ?_⟩
  · simp only [Rel]
    refine ⟨a, ns.map V.int, rfl, ?_, .mkInts ns⟩
    rcases hS with h | h
    · exact .inl ⟨by simp, h⟩
    · exact .inr h
  · unfold Ends1
    rw [e]
    exact fun fa' b H' _ _ r => r.bl
end CR

/-! CrW: the rules, over what is known of the context alone. -/
namespace CR
open PySem PySem.Spec PyProof.Rows L2
/-- where an expression stands -/
structure GX (c : Kx) (P : Program) (w : World) (mg : Str → Option Value) (base : Heap) (k : Nat) (N : List Str) (sc : Scope) (top : Bool) (X : Cx) (W : WX) : Prop where
  eP : X.prog = P
  ew : X.w = w
  eK : X.K = c.K
  em : X.mg = mg
  eb : X.base = base
  eN : X.N = N
  es : X.env.scope = sc
  kd : sc.kind = .function
  nd : N.Nodup
  calm : X.calm = true
  gd : X.A.guards = some []
  room : Room k X.A
  tk : Takes X W
  own : PassesOwn (model X.prog X.w) X.A X.env X.xe
  fnT : top = true → ∀ x, X.fn x = true
def relS (scope sc : Scope) : Scope := { scope with names := scope.names.map fun (n, k) => if (k == .free && sc.kind == .function && sc.names.lookup n == some .cell) then (n, .cell) else (n, k) }
theorem relS_eq (scope : Scope) (env : Env) : relabel scope env = relS scope env.scope := rfl
section
variable {c : Kx} {P : Program} {w : World} {mg : Str → Option Value} {base : Heap} {k : Nat} {N : List Str} {sc : Scope} {top : Bool} {X : Cx} {W : WX}
theorem GX.hK (g : GX c P w mg base k N sc top X W) : c.K = X.K := g.eK.symm
theorem GX.nd' (g : GX c P w mg base k N sc top X W) : X.N.Nodup := g.eN ▸ g.nd
theorem GX.units (g : GX c P w mg base k N sc top X W) : X.A.units + 64 < cLine := by have := g.room.un; omega
theorem GX.units8 (g : GX c P w mg base k N sc top X W) : X.A.units + 80 < cLine := by have := g.room.un; omega
theorem GX.blk (g : GX c P w mg base k N sc top X W) {scope : Scope} (hk : scope.kind = .function) (s : Shared) (H : Hp) (C : Addr) (cl : List (Str × Addr)) (fp : List Addr) : GX c P w mg base k N (relS scope sc) false (X.blk s H scope (compEnvC scope cl C X.env) fp) W0 where
  eP := g.eP
  ew := g.ew
  eK := g.eK
  em := g.em
  eb := g.eb
  eN := g.eN
  es := by show relabel scope X.env = _; rw [relS_eq, g.es]
  kd := hk
  nd := g.nd
  calm := g.calm
  gd := g.gd
  room := g.room
  tk := L2.takes0
  own := PassesOwn.never
  fnT := fun h => by cases h
theorem GX.ofDef {f : Addr} {qual : Str} {scope : Scope} {cdv : Value} {A : Around} {out : List Env} {s : Shared} {H : Hp} {E : XK} (nd : N.Nodup) (kd : scope.kind = .function) (hg : A.guards = some []) (hr : Room k (A.deeper (envOfC qual scope s.heap.objs.size f cdv))) :
    GX c P w mg base k N scope true (cxOf (L2.CX P w) P w c.K mg base N qual scope f cdv A out s H E) (fun cls d _ H' => E cls d H') where
  eP := rfl
  ew := rfl
  eK := rfl
  em := rfl
  eb := rfl
  eN := rfl
  es := rfl
  kd := kd
  nd := nd
  calm := rfl
  gd := hg
  room := hr
  tk := takes_of rfl rfl rfl rfl
  own := passes_of rfl
  fnT := fun _ _ => rfl
/-! ### checks -/
def okN (x : Str) : Bool := !(x == ("__debug__" : Str)) && !(x == ("__classdict__" : Str)) && !(x == ("__name__" : Str))
def visB (sc : Scope) (x : Str) : Bool := match sc.names.lookup x with
  | some .local => true
  | some .cell => true
  | some .free => true
  | _ => false
def locB (sc : Scope) (x : Str) : Bool := match sc.names.lookup x with
  | some .local => true
  | some .cell => true
  | _ => false
theorem visB_ok {x : Str} (h : visB sc x = true) : Vis sc x := by
  unfold visB at h
  split at h
  · exact .inl ‹_›
  · exact .inr (.inl ‹_›)
  · exact .inr (.inr ‹_›)
  · cases h
theorem locB_ok {x : Str} (h : locB sc x = true) : Loc sc x := by
  unfold locB at h
  split at h
  · exact .inl ‹_›
  · exact .inr ‹_›
  · cases h
theorem okN_ok {x : Str} (h : okN x = true) : (x == ("__debug__" : Str)) = false ∧ (x == ("__classdict__" : Str)) = false ∧ x ≠ "__name__" := by
  simp only [okN, Bool.and_eq_true, Bool.not_eq_true'] at h
  exact ⟨h.1.1, h.1.2, fun e => by subst e; exact absurd h.2 (by decide)⟩
/-- a name of the slots -/
def ckV (N : List Str) (sc : Scope) (i : Nat) (x : Str) : Bool := (N[i]? == some x) && visB sc x && okN x
/-- a name of the module, of the built-in ones -/
def ckG (sc : Scope) (x : Str) : Bool := (sc.names.lookup x == some .globalImplicit) && okN x
/-- a name that is stored -/
def ckT (N : List Str) (sc : Scope) (top : Bool) (i : Nat) (x : Str) : Bool := (N[i]? == some x) && locB sc x && (top || sc.names.lookup x == some .local)
theorem ckV_ok {i : Nat} {x : Str} (g : GX c P w mg base k N sc top X W) (h : ckV N sc i x = true) : X.N[i]? = some x ∧ Vis X.env.scope x ∧ (x == ("__debug__" : Str)) = false ∧ (x == ("__classdict__" : Str)) = false := by
  simp only [ckV, Bool.and_eq_true] at h
  obtain ⟨⟨h1, h2⟩, h3⟩ := h
  have := okN_ok h3
  exact ⟨by rw [g.eN]; exact eq_of_beq h1, by rw [g.es]; exact visB_ok h2, this.1, this.2.1⟩
theorem ckG_ok {x : Str} (g : GX c P w mg base k N sc top X W) (h : ckG sc x = true) : Gl X x ∧ (x == ("__debug__" : Str)) = false ∧ x ≠ "__name__" := by
  simp only [ckG, Bool.and_eq_true] at h
  have := okN_ok h.2
  refine ⟨?_, this.1, this.2.2⟩
  show X.env.scope.names.lookup x = _
  rw [g.es]; exact eq_of_beq h.1
theorem ckT_ok {i : Nat} {x : Str} (g : GX c P w mg base k N sc top X W) (h : ckT N sc top i x = true) : X.N[i]? = some x ∧ Loc X.env.scope x ∧ (X.fn x = true ∨ X.env.scope.names.lookup x = some .local) := by
  simp only [ckT, Bool.and_eq_true, Bool.or_eq_true] at h
  obtain ⟨⟨h1, h2⟩, h3⟩ := h
  refine ⟨by rw [g.eN]; exact eq_of_beq h1, by rw [g.es]; exact locB_ok h2, ?_⟩
  rcases h3 with h3 | h3
  · exact .inl (g.fnT h3 x)
  · exact .inr (by rw [g.es]; exact eq_of_beq h3)
/-- not *e -/
def noStar : Expr → Bool
  | .Starred _ _ => false
  | _ => true
theorem star_cons {e : Expr} (es : List Expr) (env : Env) (h : noStar e = true) : starEach (e :: es) env = (false, eval e env) :: starEach es env := by
  cases e <;> first | rfl | cases h
theorem star_all : ∀ (es : List Expr) (env : Env), es.all noStar = true → (starEach es env).all (fun x => !x.1) = true
  | [], _, _ => rfl
  | e :: es, env, h => by
    simp only [List.all_cons, Bool.and_eq_true] at h
    rw [star_cons es env h.1]
    simp only [List.all_cons, Bool.and_eq_true]
    exact ⟨rfl, star_all es env h.2⟩
theorem star_any {pos : Pos} (es : List Expr) (env : Env) (h : es.all noStar = true) : (backTo pos (starEach es env)).any (·.1) = false := by
  have := star_all es env h
  unfold backTo
  rw [List.any_map]
  rw [List.any_eq_false]
  intro x hx e
  have := List.all_eq_true.mp this x hx
  have e' : x.1 = true := e
  rw [e'] at this; cases this
theorem star_back {pos : Pos} (es : List Expr) (env : Env) (h : es.all noStar = true) : (backTo pos (starEach es env)).all (fun x => !x.1) = true := by
  have := star_all es env h
  unfold backTo
  rw [List.all_map]
  exact this
theorem mark_no {op : CmpOp} {b : Expr} (h : (match b with | .Set _ _ _ => false | _ => true) = true) : behindInMarks op b = false := by
  cases b <;> first | rfl | cases h
theorem fold_no {it : Expr} {env : Env} (h : (match it with | .Set _ _ _ => false | _ => true) = true) : ∀ x, foldedSetIterable it env x = pure x := fun x => by
  cases it <;> first | rfl | cases h
/-- truth by a look -/
def plainT : Expr → Bool
  | .UnaryOp .Not _ _ => false
  | .BoolOp _ _ _ => false
  | .IfExp _ _ _ _ => false
  | .Compare _ _ _ _ => false
  | _ => true
theorem true_plain {a : Expr} {env : Env} (h : plainT a = true) : ∀ whole, isTrue a env whole = (do let v ← whole; standAt a.pos; holding [v] (truthy v)) := fun whole => by
  cases a with
  | UnaryOp op x p => cases op <;> first | rfl | cases h
  | _ => first | rfl | cases h
/-- .. = e, e no comprehension -/
def noComp : Expr → Bool
  | .ListComp _ _ _ _ => false
  | .SetComp _ _ _ _ => false
  | .DictComp _ _ _ _ _ => false
  | _ => true
theorem sw_no {e : Expr} {t : Option Expr} {l : Nat} {env : Env} (h : noComp e = true) : swapsWith e t l env = pure false := by
  cases e <;> first | rfl | cases h
theorem swS_no {e t : Expr} {l : Nat} {env : Env} (h : noComp e = true) : swapsWithSole [t] e l env = pure false := sw_no h
/-- a comprehension set to a name: the two ways -/
def swLc (sc : Scope) (t : Str) (tp : Pos) (scope : Scope) (p : Pos) : Bool := sc.names.lookup t == some .local && tp.line == p.line && !(scope.names.any fun (n, k) => n == t && (k == .local || k == .cell))
theorem bk_fun (g : GX c P w mg base k N sc top X W) : X.env.blockKind = .function := by
  unfold Env.blockKind
  rw [g.es, g.kd]; rfl
theorem sw_lc (g : GX c P w mg base k N sc top X W) {elt : Expr} {gs : List Comprehension} {scope : Scope} {p tp : Pos} {t : Str} {l : Nat} {b : Bool} (h : swLc sc t tp scope p = b) : swapsWith (.ListComp elt gs scope p) (some (.Name t tp)) l X.env = pure b := by
  subst h
  show pure (X.env.blockKind == .function && X.env.kindOf t == some .local && tp.line == p.line && !(scope.names.any fun (n, k) => n == t && (k == .local || k == .cell))) = _
  rw [bk_fun g]
  have e : X.env.kindOf t = sc.names.lookup t := by show X.env.scope.names.lookup t = _; rw [g.es]
  rw [e]
  rfl
/-- a place with this table of names, nothing else -/
def envS (sc : Scope) : Env := envOfC Str.empty sc 0 0 .none
theorem sw_same (g : GX c P w mg base k N sc top X W) {ts : List Expr} {v : Expr} {r : Option (List Str)} (h : swappedStores ts v (envS sc) = pure r) : swappedStores ts v X.env = pure r := by
  rw [← h]
  have e1 : X.env.blockKind = (envS sc).blockKind := by unfold Env.blockKind; rw [g.es]; rfl
  have e2 : ∀ x, X.env.kindOf x = (envS sc).kindOf x := fun x => by unfold Env.kindOf; rw [g.es]; rfl
  unfold swappedStores
  rw [e1]
  simp only [e2]
end
end CR

namespace CR
open PySem PySem.Spec PyProof.Rows L2
section
variable {c : Kx} {P : Program} {w : World} {mg : Str → Option Value} {base : Heap} {k : Nat} {N : List Str} {sc : Scope} {top : Bool} {X : Cx} {W : WX} {a b e cx o : Expr} {es : List Expr} {pos p q apos cpos : Pos} {ma mb mc m : Rho → M D} {mr mk : Rho → M (List D)} {x y : Str} {i j n : Nat}
/-! ### names -/
theorem xVar (g : GX c P w mg base k N sc top X W) (h : ckV N sc i x = true) : PE X (.Name x pos) (EvR c W (eVar i)) :=
  let ⟨h1, h2, h3, h4⟩ := ckV_ok g h
  ev_var h1 h2 h3 h4
/-- a name of the module: its value is plain -/
structure GlD (c : Kx) (mg : Str → Option Value) (x : Str) (d : D) : Prop where
  ex : ∃ v u, mg x = some u ∧ RelV v u ∧ ∀ fa H, Rel c fa H d v
theorem xGlob {d : D} (g : GX c P w mg base k N sc top X W) (h : ckG sc x = true) (gd : GlD c mg x d) : PE X (.Name x pos) (EvR c W (eCst d)) := by
  obtain ⟨v, u, h1, h2, h3⟩ := gd.ex
  obtain ⟨h4, h5, _⟩ := ckG_ok g h
  exact ev_glob h4 (by rw [g.em]; exact h1) h2 h5 h3
/-! ### arguments -/
theorem xCons (hs : noStar e = true) (ha : PE X e (EvR c W ma)) (hr : PA X es (AvR c W mr)) : PA X (e :: es) (AvR c W (aCons ma mr)) := av_cons (star_cons es _ hs) ha hr
theorem no_cons {e : Expr} {es : List Expr} (h : (e :: es).all noStar = true) : noStar e = true ∧ es.all noStar = true := by simpa using h
theorem xCallB {id : String} {mo : List D → M D} (g : GX c P w mg base k N sc top X W) (hc : CallR X (.builtin id) (rn c mo)) (nx : ∀ x, NoX (mo x)) (hg : ckG sc x = true) (hm : mg x = none) (hv : bootBuiltins x = some (.builtin id)) (hs : (e :: es).all noStar = true) (ha : PA X (e :: es) (AvR c W mr)) :
    PE X (.Call (.Name x p) (e :: es) [] pos) (EvR c W (eCallB mo mr)) :=
  let ⟨h1, h2, h3⟩ := ckG_ok g hg
  ev_callB hc nx h1 (by rw [g.em]; exact hm) hv h3 h2 (star_cons es _ (no_cons hs).1) (star_any es _ (no_cons hs).2) ha
theorem xCallTy {T : String} {mo : List D → M D} (g : GX c P w mg base k N sc top X W) (hc : CallR X (.type T) (rn c mo)) (nx : ∀ x, NoX (mo x)) (hg : ckG sc x = true) (hm : mg x = none) (hv : bootBuiltins x = some (.type T)) (hs : (e :: es).all noStar = true) (ha : PA X (e :: es) (AvR c W mr)) :
    PE X (.Call (.Name x p) (e :: es) [] pos) (EvR c W (eCallB mo mr)) :=
  let ⟨h1, h2, h3⟩ := ckG_ok g hg
  ev_callTy hc nx h1 (by rw [g.em]; exact hm) hv h3 h2 (star_cons es _ (no_cons hs).1) (star_any es _ (no_cons hs).2) ha
theorem NoX.allocL {f : Sto → D → Option (List D)} (ds : List D) : NoX (allocL f ds) := fun S x S' h => by
  unfold CR.allocL at h
  split at h
  · split at h <;> cases h
  · cases h
theorem nox1 {f : Sto → D → Option D} (ds : List D) : NoX (opt1 f ds) := NoX.opt
theorem nox2 {f : Sto → D → D → Option D} (ds : List D) : NoX (opt2 f ds) := NoX.opt
theorem xLen (g : GX c P w mg base k N sc top X W) (hm : mg "len" = none) (hg : ckG sc "len" = true) (hs : [e].all noStar = true) (ha : PA X [e] (AvR c W mr)) : PE X (.Call (.Name "len" p) [e] [] pos) (EvR c W (eCallB mLen mr)) := xCallB g (cr_mLen g.hK) nox1 hg hm PySem.boot_len hs ha
theorem boot_abs : bootBuiltins "abs" = some (.builtin "abs") := by kernel_rfl
theorem boot_all : bootBuiltins "all" = some (.builtin "all") := by kernel_rfl
theorem boot_any : bootBuiltins "any" = some (.builtin "any") := by kernel_rfl
theorem boot_sum : bootBuiltins "sum" = some (.builtin "sum") := by kernel_rfl
theorem boot_min : bootBuiltins "min" = some (.builtin "min") := by kernel_rfl
theorem boot_max : bootBuiltins "max" = some (.builtin "max") := by kernel_rfl
theorem boot_divmod : bootBuiltins "divmod" = some (.builtin "divmod") := by kernel_rfl
theorem boot_sorted : bootBuiltins "sorted" = some (.builtin "sorted") := by kernel_rfl
theorem boot_repr : bootBuiltins "repr" = some (.builtin "repr") := by kernel_rfl
theorem boot_int : bootBuiltins "int" = some (.type "int") := by kernel_rfl
theorem boot_str : bootBuiltins "str" = some (.type "str") := by kernel_rfl
theorem boot_list : bootBuiltins "list" = some (.type "list") := by kernel_rfl
theorem boot_tuple : bootBuiltins "tuple" = some (.type "tuple") := by kernel_rfl
theorem boot_dict : bootBuiltins "dict" = some (.type "dict") := by kernel_rfl
theorem boot_bool : bootBuiltins "bool" = some (.type "bool") := by kernel_rfl
theorem xAbs (g : GX c P w mg base k N sc top X W) (hm : mg "abs" = none) (hg : ckG sc "abs" = true) (hs : [e].all noStar = true) (ha : PA X [e] (AvR c W mr)) : PE X (.Call (.Name "abs" p) [e] [] pos) (EvR c W (eCallB mAbs mr)) := xCallB g cr_mAbs nox1 hg hm boot_abs hs ha
theorem xAll (g : GX c P w mg base k N sc top X W) (hm : mg "all" = none) (hg : ckG sc "all" = true) (hs : [e].all noStar = true) (ha : PA X [e] (AvR c W mr)) : PE X (.Call (.Name "all" p) [e] [] pos) (EvR c W (eCallB mAll mr)) := xCallB g (cr_mAll g.hK g.calm) nox1 hg hm boot_all hs ha
theorem xAny (g : GX c P w mg base k N sc top X W) (hm : mg "any" = none) (hg : ckG sc "any" = true) (hs : [e].all noStar = true) (ha : PA X [e] (AvR c W mr)) : PE X (.Call (.Name "any" p) [e] [] pos) (EvR c W (eCallB mAny mr)) := xCallB g (cr_mAny g.hK g.calm) nox1 hg hm boot_any hs ha
theorem xSum (g : GX c P w mg base k N sc top X W) (hm : mg "sum" = none) (hg : ckG sc "sum" = true) (hs : [e].all noStar = true) (ha : PA X [e] (AvR c W mr)) : PE X (.Call (.Name "sum" p) [e] [] pos) (EvR c W (eCallB mSum mr)) := xCallB g (cr_mSum g.hK g.calm) nox1 hg hm boot_sum hs ha
theorem xMin2 (g : GX c P w mg base k N sc top X W) (hm : mg "min" = none) (hg : ckG sc "min" = true) (hs : [a, b].all noStar = true) (ha : PA X [a, b] (AvR c W mr)) : PE X (.Call (.Name "min" p) [a, b] [] pos) (EvR c W (eCallB (opt2 min2D) mr)) := xCallB g (cr_min2D g.calm) nox2 hg hm boot_min hs ha
theorem xMax2 (g : GX c P w mg base k N sc top X W) (hm : mg "max" = none) (hg : ckG sc "max" = true) (hs : [a, b].all noStar = true) (ha : PA X [a, b] (AvR c W mr)) : PE X (.Call (.Name "max" p) [a, b] [] pos) (EvR c W (eCallB (opt2 max2D) mr)) := xCallB g (cr_max2D g.calm) nox2 hg hm boot_max hs ha
theorem xDivmod (g : GX c P w mg base k N sc top X W) (hm : mg "divmod" = none) (hg : ckG sc "divmod" = true) (hs : [a, b].all noStar = true) (ha : PA X [a, b] (AvR c W mr)) : PE X (.Call (.Name "divmod" p) [a, b] [] pos) (EvR c W (eCallB (opt2 divmodD) mr)) := xCallB g cr_divmodD nox2 hg hm boot_divmod hs ha
theorem xSorted (g : GX c P w mg base k N sc top X W) (hm : mg "sorted" = none) (hg : ckG sc "sorted" = true) (hs : [e].all noStar = true) (ha : PA X [e] (AvR c W mr)) : PE X (.Call (.Name "sorted" p) [e] [] pos) (EvR c W (eCallB (opt1 sortD) mr)) := xCallB g (cr_sortD g.hK) nox1 hg hm boot_sorted hs ha
theorem xRepr (g : GX c P w mg base k N sc top X W) (hm : mg "repr" = none) (hg : ckG sc "repr" = true) (hs : [e].all noStar = true) (ha : PA X [e] (AvR c W mr)) : PE X (.Call (.Name "repr" p) [e] [] pos) (EvR c W (eCallB mRepr mr)) := xCallB g (cr_mRepr g.hK g.gd g.units8) nox1 hg hm boot_repr hs ha
theorem xInt (g : GX c P w mg base k N sc top X W) (hm : mg "int" = none) (hg : ckG sc "int" = true) (hs : [e].all noStar = true) (ha : PA X [e] (AvR c W mr)) : PE X (.Call (.Name "int" p) [e] [] pos) (EvR c W (eCallB (opt1 intD) mr)) := xCallTy g cr_intD nox1 hg hm boot_int hs ha
theorem xStr (g : GX c P w mg base k N sc top X W) (hm : mg "str" = none) (hg : ckG sc "str" = true) (hs : [e].all noStar = true) (ha : PA X [e] (AvR c W mr)) : PE X (.Call (.Name "str" p) [e] [] pos) (EvR c W (eCallB (opt1 strD) mr)) := xCallTy g cr_strD nox1 hg hm boot_str hs ha
theorem xListM (g : GX c P w mg base k N sc top X W) (hm : mg "list" = none) (hg : ckG sc "list" = true) (hs : [e].all noStar = true) (ha : PA X [e] (AvR c W mr)) : PE X (.Call (.Name "list" p) [e] [] pos) (EvR c W (eCallB (allocL listF) mr)) := xCallTy g (cr_listF g.hK g.calm) NoX.allocL hg hm boot_list hs ha
theorem xList (g : GX c P w mg base k N sc top X W) (hm : mg "list" = none) (hg : ckG sc "list" = true) (hs : [e].all noStar = true) (ha : PA X [e] (AvR c W mr)) : PE X (.Call (.Name "list" p) [e] [] pos) (EvR c W (eCallB (opt1 listG) mr)) := xCallTy g (cr_listG g.hK g.calm) nox1 hg hm boot_list hs ha
theorem xTuple (g : GX c P w mg base k N sc top X W) (hm : mg "tuple" = none) (hg : ckG sc "tuple" = true) (hs : [e].all noStar = true) (ha : PA X [e] (AvR c W mr)) : PE X (.Call (.Name "tuple" p) [e] [] pos) (EvR c W (eCallB (opt1 tupleF) mr)) := xCallTy g (cr_tupleF g.hK g.calm) nox1 hg hm boot_tuple hs ha
theorem xLenSet {p2 q : Pos} (g : GX c P w mg base k N sc top X W) (hm : mg "len" = none) (hg : ckG sc "len" = true) (hm2 : mg "set" = none) (hg2 : ckG sc "set" = true) (hs : noStar a = true) (ha : PE X a (EvR c W ma)) : PE X (.Call (.Name "len" p) [.Call (.Name "set" p2) [a] [] q] [] pos) (EvR c W (eLenSet ma)) :=
  ev_lenSet g.hK g.calm (ckG_ok g hg).1 (by rw [g.em]; exact hm) (ckG_ok g hg2).1 (by rw [g.em]; exact hm2) (star_cons [] _ hs) ha
theorem xIsi {U : String} (g : GX c P w mg base k N sc top X W) (hm : mg "isinstance" = none) (hg : ckG sc "isinstance" = true) (hm2 : mg x = none) (hg2 : ckG sc x = true) (hU : bootBuiltins x = some (.type U)) (hs : noStar a = true) (ha : PE X a (EvR c W ma)) : PE X (.Call (.Name "isinstance" p) [a, .Name x q] [] pos) (EvR c W (eUn (isiD U) ma)) :=
  let ⟨h1, h2, h3⟩ := ckG_ok g hg2
  ev_isi g.hK (ckG_ok g hg).1 (by rw [g.em]; exact hm) h1 (by rw [g.em]; exact hm2) hU h3 h2 (star_cons _ _ hs) ha
/-! ### operators -/
theorem xAdd (g : GX c P w mg base k N sc top X W) (ha : PE X a (EvR c W ma)) (hb : PE X b (EvR c W mb)) : PE X (.BinOp a .Add b pos) (EvR c W (eOp mAdd ma mb)) := ev_op (op_mAdd g.hK) (fun _ _ => NoX.opt) ha hb
theorem xSub (ha : PE X a (EvR c W ma)) (hb : PE X b (EvR c W mb)) : PE X (.BinOp a .Sub b pos) (EvR c W (eOp mSub ma mb)) := ev_op op_mSub (fun _ _ => NoX.opt) ha hb
theorem xMul (g : GX c P w mg base k N sc top X W) (ha : PE X a (EvR c W ma)) (hb : PE X b (EvR c W mb)) : PE X (.BinOp a .Mult b pos) (EvR c W (eOp mMul ma mb)) := ev_op (op_mMul g.hK) (fun _ _ => NoX.opt) ha hb
theorem xMod (ha : PE X a (EvR c W ma)) (hb : PE X b (EvR c W mb)) : PE X (.BinOp a .Mod b pos) (EvR c W (eOp mMod ma mb)) := ev_op op_mMod (fun _ _ => NoX.opt) ha hb
theorem xFdiv (ha : PE X a (EvR c W ma)) (hb : PE X b (EvR c W mb)) : PE X (.BinOp a .FloorDiv b pos) (EvR c W (eOp mFdiv ma mb)) := ev_op op_mFdiv (fun _ _ => NoX.opt) ha hb
theorem xPow (ha : PE X a (EvR c W ma)) (hb : PE X b (EvR c W mb)) : PE X (.BinOp a .Pow b pos) (EvR c W (eOp mPow ma mb)) := ev_op op_mPow (fun _ _ => NoX.opt) ha hb
theorem xShl (ha : PE X a (EvR c W ma)) (hb : PE X b (EvR c W mb)) : PE X (.BinOp a .LShift b pos) (EvR c W (eOp mShl ma mb)) := ev_op op_mShl (fun _ _ => NoX.opt) ha hb
theorem xShr (ha : PE X a (EvR c W ma)) (hb : PE X b (EvR c W mb)) : PE X (.BinOp a .RShift b pos) (EvR c W (eOp mShr ma mb)) := ev_op op_mShr (fun _ _ => NoX.opt) ha hb
theorem xAndI (ha : PE X a (EvR c W ma)) (hb : PE X b (EvR c W mb)) : PE X (.BinOp a .BitAnd b pos) (EvR c W (eOp mAndI ma mb)) := ev_op op_mAndI (fun _ _ => NoX.opt) ha hb
theorem xOrI (ha : PE X a (EvR c W ma)) (hb : PE X b (EvR c W mb)) : PE X (.BinOp a .BitOr b pos) (EvR c W (eOp mOrI ma mb)) := ev_op op_mOrI (fun _ _ => NoX.opt) ha hb
theorem xNeg (ha : PE X a (EvR c W ma)) : PE X (.UnaryOp .USub a pos) (EvR c W (eUn mNeg ma)) := ev_un un_mNeg (fun _ => NoX.opt) ha
theorem xInv (ha : PE X a (EvR c W ma)) : PE X (.UnaryOp .Invert a pos) (EvR c W (eUn mInv ma)) := ev_un un_mInv (fun _ => NoX.opt) ha
/-- how a comparison is looked at: its rule -/
structure CmpR (c : Kx) (X : Cx) (op : CmpOp) (mo : D → D → M D) : Prop where
  op : OpR X (compareOp op) (r2 c mo)
  nx : ∀ x y, NoX (mo x y)
theorem cLt : CmpR c X .Lt mLt := ⟨op_mLt, fun _ _ => NoX.opt⟩
theorem cLe : CmpR c X .LtE mLe := ⟨op_mLe, fun _ _ => NoX.opt⟩
theorem cGt : CmpR c X .Gt mGt := ⟨op_mGt, fun _ _ => NoX.opt⟩
theorem cGe : CmpR c X .GtE mGe := ⟨op_mGe, fun _ _ => NoX.opt⟩
theorem cIs : CmpR c X .Is mIs := ⟨op_mIs, fun _ _ => NoX.opt⟩
theorem cIsNot : CmpR c X .IsNot mIsNot := ⟨op_mIsNot, fun _ _ => NoX.opt⟩
theorem cEq (g : GX c P w mg base k N sc top X W) : CmpR c X .Eq mEq := ⟨op_mEq g.hK g.units, fun _ _ => NoX.opt⟩
theorem cNe (g : GX c P w mg base k N sc top X W) : CmpR c X .NotEq mNe := ⟨op_mNe g.hK g.units, fun _ _ => NoX.opt⟩
theorem cIn (g : GX c P w mg base k N sc top X W) : CmpR c X .In mIn := ⟨op_mIn g.hK, fun _ _ => NoX.opt⟩
theorem cNotIn (g : GX c P w mg base k N sc top X W) : CmpR c X .NotIn mNotIn := ⟨op_mNotIn g.hK, fun _ _ => NoX.opt⟩
variable {op op' : CmpOp} {mo mo' : D → D → M D}
def noSet : Expr → Bool
  | .Set _ _ _ => false
  | _ => true
theorem mark_no' {op : CmpOp} {b : Expr} (h : noSet b = true) : behindInMarks op b = false := by cases b <;> first | rfl | cases h
theorem fold_no' {it : Expr} {env : Env} (h : noSet it = true) : ∀ x, foldedSetIterable it env x = pure x := fun x => by cases it <;> first | rfl | cases h
theorem xCmp (hr : CmpR c X op mo) (h : noSet b = true) (ha : PE X a (EvR c W ma)) (hb : PE X b (EvR c W mb)) : PE X (.Compare a [op] [b] pos) (EvR c W (eOp mo ma mb)) := ev_cmp hr.op hr.nx (mark_no' h) ha hb
theorem tCmp (hr : CmpR c X op mo) (h : noSet b = true) (ha : PE X a (EvR c W ma)) (hb : PE X b (EvR c W mb)) : PT X (.Compare a [op] [b] pos) (TvR c W (tOf (eOp mo ma mb))) := tv_cmp hr.op hr.nx (mark_no' h) ha hb
theorem xChain (hr : CmpR c X op mo) (hr' : CmpR c X op' mo') (h : noSet b = true) (h' : noSet cx = true) (ha : PE X a (EvR c W ma)) (hb : PE X b (EvR c W mb)) (hc : PE X cx (EvR c W mc)) : PE X (.Compare a [op, op'] [b, cx] pos) (EvR c W (eChain mo mo' ma mb mc)) := ev_chain hr.op hr.nx hr'.op hr'.nx ha hb hc (mark_no' h) (mark_no' h')
theorem tChain (hr : CmpR c X op mo) (hr' : CmpR c X op' mo') (h : noSet b = true) (h' : noSet cx = true) (ha : PE X a (EvR c W ma)) (hb : PE X b (EvR c W mb)) (hc : PE X cx (EvR c W mc)) : PT X (.Compare a [op, op'] [b, cx] pos) (TvR c W (tOf (eChain mo mo' ma mb mc))) := tv_chain hr.op hr.nx hr'.op hr'.nx ha hb hc (mark_no' h) (mark_no' h')
theorem tTruth (g : GX c P w mg base k N sc top X W) (h : plainT a = true) (ha : PE X a (EvR c W ma)) : PT X a (TvR c W (tTru mTru ma)) := tv_truth (tru_m g.hK) (fun _ => NoX.opt) (true_plain h) ha
/-- and / or within a test -/
theorem tBool {op : BoolOp} {vs : List Expr} {t : Rho → M Bool} (h : PW X (.BoolOp op vs pos) (TvR c W t)) : PT X (.BoolOp op vs pos) (TvR c W t) := PW.pt h
/-! ### places -/
def plainIx : Expr → Bool
  | .Slice _ _ _ _ => false
  | .Tuple _ _ _ => false
  | .Constant _ _ _ => true
  | _ => true
end
end CR

namespace CR
open PySem PySem.Spec PyProof.Rows L2
section
variable {c : Kx} {P : Program} {w : World} {mg : Str → Option Value} {base : Heap} {k : Nat} {N : List Str} {sc : Scope} {top : Bool} {X : Cx} {W : WX} {a b e cx o tg iter elt : Expr} {es : List Expr} {pos p q apos cpos : Pos} {ma mb mc m : Rho → M D} {mr mk : Rho → M (List D)} {x y : Str} {i j n : Nat} {ms mt : MS} {body : List Stmt}
/-! ### places -/
def noSlice : Expr → Bool
  | .Slice _ _ _ _ => false
  | _ => true
theorem ix_plain {b : Expr} (h : noSlice b = true) : PlainIx b := fun o i => by cases b <;> first | rfl | cases h
theorem xIx (g : GX c P w mg base k N sc top X W) (h : noSlice b = true) (ha : PE X a (EvR c W ma)) (hb : PE X b (EvR c W mb)) : PE X (.Subscript a b pos) (EvR c W (eOp mIx ma mb)) := ev_ix g.hK (ix_plain h) ha hb
theorem xSl {lo hi : Option Expr} {ml mh : Rho → M (Option Int)} (g : GX c P w mg base k N sc top X W) (ha : PE X a (EvR c W ma)) (hl : PO X lo (OvR c W ml)) (hh : PO X hi (OvR c W mh)) : PE X (.Subscript a (.Slice lo hi none q) pos) (EvR c W (eSl ma ml mh)) := ev_sl g.hK ha hl hh
/-! ### methods -/
def okBase : Expr → Bool
  | .Call (.Name _ _) [] [] _ => false
  | _ => true
theorem base_ok {o : Expr} {nm : Str} {env : Env} {r : Sem Value} (h : okBase o = true) : attributeBase o nm env r = r := by
  cases o with
  | Call f as ks p =>
    cases f with
    | Name id q =>
      cases as with
      | nil =>
        cases ks with
        | nil => cases h
        | cons _ _ => rfl
      | cons _ _ => rfl
    | _ => rfl
  | _ => rfl
theorem few_ok {cpos : Pos} {e : Expr} {es : List Expr} {env : Env} (h : (e :: es).all noStar = true) (hl : es.length < 29) : ((backTo cpos (starEach (e :: es) env)).all (fun x => !x.1) && (backToKw cpos (keywordEach [] env)).all (fun x => x.1.isSome) && decide ((e :: es).length + ([] : List Keyword).length + (if ([] : List Keyword).isEmpty then 0 else 1) < 30)) = true := by
  rw [star_back _ _ h]
  have : decide ((e :: es).length + ([] : List Keyword).length + (if ([] : List Keyword).isEmpty then 0 else 1) < 30) = true := by simp; omega
  rw [this]; rfl
theorem xAppend (hb : okBase o = true) (hl : (apos.endLine == cpos.line) = true) (hs : [e].all noStar = true) (g : GX c P w mg base k N sc top X W) (ho : PE X o (EvR c W m)) (ha : PA X [e] (AvR c W mr)) : PE X (.Call (.Attribute o "append" apos) [e] [] cpos) (EvR c W (eMeth isL mAppend m mr)) :=
  ev_meth ty_list F.plainAttrs_list F.slot_list_append F.type_list_append mt_mAppend NoX.append (isL_ok g.hK) (base_ok hb) (few_ok hs (by simp)) hl (star_cons [] _ (no_cons hs).1) (star_any [] _ rfl) ho ha
theorem xExtend (hb : okBase o = true) (hl : (apos.endLine == cpos.line) = true) (hs : [e].all noStar = true) (g : GX c P w mg base k N sc top X W) (ho : PE X o (EvR c W m)) (ha : PA X [e] (AvR c W mr)) : PE X (.Call (.Attribute o "extend" apos) [e] [] cpos) (EvR c W (eMeth isL mExtend m mr)) :=
  ev_meth ty_list F.plainAttrs_list F.slot_list_extend F.type_list_extend mt_mExtend NoX.extend (isL_ok g.hK) (base_ok hb) (few_ok hs (by simp)) hl (star_cons [] _ (no_cons hs).1) (star_any [] _ rfl) ho ha
theorem xPop (hb : okBase o = true) (hl : (apos.endLine == cpos.line) = true) (hs : [e].all noStar = true) (g : GX c P w mg base k N sc top X W) (ho : PE X o (EvR c W m)) (ha : PA X [e] (AvR c W mr)) : PE X (.Call (.Attribute o "pop" apos) [e] [] cpos) (EvR c W (eMeth isL mPop m mr)) :=
  ev_meth ty_list F.plainAttrs_list F.slot_list_pop F.type_list_pop mt_mPop NoX.pop (isL_ok g.hK) (base_ok hb) (few_ok hs (by simp)) hl (star_cons [] _ (no_cons hs).1) (star_any [] _ rfl) ho ha
theorem xPop0 (hb : okBase o = true) (hl : (apos.endLine == cpos.line) = true) (g : GX c P w mg base k N sc top X W) (ho : PE X o (EvR c W m)) : PE X (.Call (.Attribute o "pop" apos) [] [] cpos) (EvR c W (eMeth isL mPop m aNil)) :=
  ev_meth0 ty_list F.plainAttrs_list F.slot_list_pop F.type_list_pop mt_mPop NoX.pop (isL_ok g.hK) (base_ok hb) hl ho
theorem xJoin (hb : okBase o = true) (hl : (apos.endLine == cpos.line) = true) (hs : [e].all noStar = true) (g : GX c P w mg base k N sc top X W) (ho : PE X o (EvR c W m)) (ha : PA X [e] (AvR c W mr)) : PE X (.Call (.Attribute o "join" apos) [e] [] cpos) (EvR c W (eMeth isS mJoin m mr)) :=
  ev_meth ty_str F.plainAttrs_str F.slot_str_join F.type_str_join (mt_mJoin g.hK) (fun _ _ => NoX.opt) isS_ok (base_ok hb) (few_ok hs (by simp)) hl (star_cons [] _ (no_cons hs).1) (star_any [] _ rfl) ho ha
theorem xIndexT (hb : okBase o = true) (hl : (apos.endLine == cpos.line) = true) (hs : [e].all noStar = true) (g : GX c P w mg base k N sc top X W) (ho : PE X o (EvR c W m)) (ha : PA X [e] (AvR c W mr)) : PE X (.Call (.Attribute o "index" apos) [e] [] cpos) (EvR c W (eMeth isT mIndexT m mr)) :=
  ev_meth ty_tup F.plainAttrs_tuple F.slot_tuple_index F.type_tuple_index (mt_mIndexT g.hK) (fun _ _ => NoX.opt) isT_ok (base_ok hb) (few_ok hs (by simp)) hl (star_cons [] _ (no_cons hs).1) (star_any [] _ rfl) ho ha
/-! ### statements -/
theorem yExpr (h : noComp e = true) (he : PE X e (EvR c W m)) : PS X (.Expr e pos) (SvR c W (sExpr m)) := sv_expr he (sw_no h)
theorem gName_ (g : GX c P w mg base k N sc top X W) (h : ckT N sc top i x = true) : PG X (.Name x pos) (GvR c (gNameM i)) :=
  let ⟨h1, h2, h3⟩ := ckT_ok g h
  gv_name g.nd' h1 h2 h3
theorem asg_cons {e : Expr} (es : List Expr) (env : Env) (h : noStar e = true) : (assignEach (e :: es) env).map (·.2) = assign e env :: (assignEach es env).map (·.2) := by cases e <;> first | rfl | cases h
theorem asg_len : ∀ (es : List Expr) (env : Env), (assignEach es env).length = es.length
  | [], _ => rfl
  | e :: es, env => by cases e <;> (show (_ :: assignEach es env).length = _; simp [asg_len es env])
theorem asg_none : ∀ (es : List Expr) (env : Env), es.all noStar = true → (assignEach es env).findIdx? (·.1) = none
  | [], _, _ => rfl
  | e :: es, env, h => by
    obtain ⟨h1, h2⟩ := no_cons h
    have ih := asg_none es env h2
    have e1 : ∃ f, assignEach (e :: es) env = (false, f) :: assignEach es env := by cases e <;> first | exact ⟨_, rfl⟩ | cases h1
    obtain ⟨f, e1⟩ := e1
    rw [e1, List.findIdx?_cons, ih]; rfl
theorem gCons_ {g1 : D → Rho → M Rho} {gs : List D → Rho → M Rho} (h : noStar e = true) (h1 : PG X e (GvR c g1)) (h2 : PGs X es (GsR c gs)) : PGs X (e :: es) (GsR c (gsCons g1 gs)) := gv_cons (asg_cons es _ h) h1 h2
theorem gTup_ {gs : List D → Rho → M Rho} {kk : Nat} (g : GX c P w mg base k N sc top X W) (hn : es.length = n) (h : es.all noStar = true) (h1 : PGs X es (GsR c gs)) : PG X (.Tuple es kk pos) (GvR c (gTupM n gs)) := gv_tup g.hK g.calm (by rw [asg_len]; exact hn) (asg_none es _ h) h1
/-- o[i] = .., i no slice -/
theorem sub_asg {o i : Expr} {pos : Pos} {env : Env} (h : noSlice i = true) : ∀ v, assign (.Subscript o i pos) env v = (do
      let ov ← holding [v] (eval o env)
      let iv ← holding [v, ov] (eval i env)
      standAt pos
      holding [v, ov, iv] (setItem ov iv v)
      release [v, ov, iv] []) := fun v => by cases i <;> first | rfl | cases h
theorem gSub_ {o i : Expr} {mo mi : Rho → M D} {stm : D → D → D → M Unit} (hs : PSet X (pset c stm)) (nx : ∀ o i v, NoX (stm o i v)) (h : noSlice i = true) (ho : PE X o (EvR c W0 mo)) (hi : PE X i (EvR c W0 mi)) : PG X (.Subscript o i pos) (GvR c (gSubM mo mi stm)) := gv_sub hs nx (sub_asg h) ho hi
/-- the same place where no error may come -/
theorem GX.calm0 (g : GX c P w mg base k N sc top X W) : GX c P w mg base k N sc top X W0 := ⟨g.eP, g.ew, g.eK, g.em, g.eb, g.eN, g.es, g.kd, g.nd, g.calm, g.gd, g.room, L2.takes0, g.own, g.fnT⟩
def noTup : Expr → Bool
  | .Tuple _ _ _ => false
  | .List _ _ => false
  | _ => true
theorem sws_no {t e : Expr} {env : Env} (h : noTup t = true) : swappedStores [t] e env = pure none := by cases t <;> first | rfl | cases h
theorem sws_no2 {t e : Expr} {env : Env} (h : noTup e = true) : swappedStores [t] e env = pure none := by cases e <;> first | (cases t <;> rfl) | cases h
theorem yAsg {gg : D → Rho → M Rho} (h1 : noComp e = true) (h2 : noStar tg = true) (h3 : noTup tg = true) (he : PE X e (EvR c W m)) (hg : PG X tg (GvR c gg)) : PS X (.Assign [tg] e pos) (SvR c W (sAsg m gg)) := sv_asg (swS_no h1) (sws_no h3) (asg_cons [] _ h2) he hg
theorem yAsg2 {gg : D → Rho → M Rho} (h1 : noComp e = true) (h2 : noStar tg = true) (h3 : noTup e = true) (he : PE X e (EvR c W m)) (hg : PG X tg (GvR c gg)) : PS X (.Assign [tg] e pos) (SvR c W (sAsg m gg)) := sv_asg (swS_no h1) (sws_no2 h3) (asg_cons [] _ h2) he hg
/-- a, b = x, y where the places are not plain names -/
theorem yAsg3 {gg : D → Rho → M Rho} (g : GX c P w mg base k N sc top X W) (h1 : noComp e = true) (h2 : noStar tg = true) (h3 : swappedStores [tg] e (envS sc) = pure none) (he : PE X e (EvR c W m)) (hg : PG X tg (GvR c gg)) : PS X (.Assign [tg] e pos) (SvR c W (sAsg m gg)) := sv_asg (swS_no h1) (sw_same g h3) (asg_cons [] _ h2) he hg
theorem yPar {px py pt : Pos} {kt k2 : Nat} {p2 : Pos} (g : GX c P w mg base k N sc top X W) (hi : N[i]? = some x) (hj : N[j]? = some y) (hij : i ≠ j) (hx : sc.names.lookup x = some .local) (hy : sc.names.lookup y = some .local)
    (hw : swappedStores [.Tuple [.Name x px, .Name y py] kt pt] (.Tuple [a, b] k2 p2) (envS sc) = pure (some [x, y])) (ha : PA X [a, b] (AvR c W mr)) : PS X (.Assign [.Tuple [.Name x px, .Name y py] kt pt] (.Tuple [a, b] k2 p2) pos) (SvR c W (sPar i j mr)) :=
  sv_par g.calm g.nd' (by rw [g.eN]; exact hi) (by rw [g.eN]; exact hj) hij (by rw [g.es]; exact hx) (by rw [g.es]; exact hy) (sw_same g hw) (swS_no rfl) ha
theorem yAug (g : GX c P w mg base k N sc top X W) (h : ckT N sc top i x = true) (ha : PE X a (EvR c W ma)) : PS X (.AugAssign (.Name x p) .Add a pos) (SvR c W (sAug i iaddM ma)) :=
  let ⟨h1, h2, h3⟩ := ckT_ok g h
  sv_aug op_iaddM g.nd' h1 h2 h3 ha
theorem yFor {mi : Rho → M (Src × List D)} {gg : D → Rho → M Rho} (g : GX c P w mg base k N sc top X W) (h : noSet iter = true) (hi : PI X tg iter (IvR c W mi)) (hg : PG X tg (GvR c gg)) (hb : PSs X body (SvR c W ms)) : PS X (.For tg iter body [] pos) (SvR c W (sFor mi gg ms)) := sv_for g.own g.calm (fold_no' h) hi hg hb
theorem yWhile {t : Rho → M Bool} (n : Nat) (g : GX c P w mg base k N sc top X W) (ht : PT X e (TvR c W t)) (hb : PSs X body (SvR c W ms)) : PS X (.While e body [] pos) (SvR c W (whileL t ms n)) := sv_while n g.own ht hb
/-! ### what is walked -/
theorem iSeq_ (g : GX c P w mg base k N sc top X W) (he : PE X e (EvR c W m)) : PI X tg e (IvR c W (iSeq m)) := iv_seq g.hK he
theorem iRange1_ (g : GX c P w mg base k N sc top X W) (hm : mg "range" = none) (hg : ckG sc "range" = true) (hs : noStar a = true) (ha : PA X [a] (AvR c W mr)) : PI X tg (.Call (.Name "range" p) [a] [] pos) (IvR c W (iRg rng1 mr)) :=
  iv_range1 (ckG_ok g hg).1 (by rw [g.em]; exact hm) (star_cons [] _ hs) ha
theorem iRange2_ (g : GX c P w mg base k N sc top X W) (hm : mg "range" = none) (hg : ckG sc "range" = true) (hs : noStar a = true) (hs2 : noStar b = true) (ha : PA X [a, b] (AvR c W mr)) : PI X tg (.Call (.Name "range" p) [a, b] [] pos) (IvR c W (iRg rng2 mr)) :=
  iv_range2 (ckG_ok g hg).1 (by rw [g.em]; exact hm) ((star_cons [b] _ hs).trans (by rw [star_cons [] _ hs2]; rfl)) (star_cons [] _ hs2) ha
/-! ### comprehensions -/
def ckB (N : List Str) (sc scope : Scope) (own : List (Str × Nat)) : Bool := (scope.kind == .function) && scope.names.all (fun y => scope.names.lookup y.1 == some y.2) && own.all (fun p => N[p.2]? == some p.1) && scope.names.all (fun y => !(y.2 == .free) || (sc.names.lookup y.1 == some .cell || sc.names.lookup y.1 == some .free)) &&
  scope.names.all (fun y => !(y.2 == .local || y.2 == .cell) || ((own.map (·.1)).contains y.1 || !(N.contains y.1)))
theorem beq_kind {a b : ScopeKind} (h : (a == b) = true) : a = b := by cases a <;> cases b <;> first | rfl | cases h
theorem ckB_ok {scope : Scope} {own : List (Str × Nat)} (g : GX c P w mg base k N sc top X W) (h : ckB N sc scope own = true) : BlkOk X.N X.env.scope scope own := by
  simp only [ckB, Bool.and_eq_true, List.all_eq_true] at h
  obtain ⟨⟨⟨⟨h1, h2⟩, h3⟩, h4⟩, h5⟩ := h
  rw [g.eN, g.es]
  refine ⟨beq_kind h1, fun y hy => eq_of_beq (h2 y hy), fun p hp => eq_of_beq (h3 p hp), fun y hy e => ?_, fun y hy e => ?_⟩
  · have := h4 y hy
    rw [e] at this
    have this : (sc.names.lookup y.1 == some NameKind.cell || sc.names.lookup y.1 == some NameKind.free) = true := this
    rw [Bool.or_eq_true] at this
    rcases this with z | z
    · exact .inl (eq_of_beq z)
    · exact .inr (eq_of_beq z)
  · have := h5 y hy
    have e' : (y.2 == NameKind.local || y.2 == NameKind.cell) = true := by rcases e with e | e <;> rw [e] <;> rfl
    rw [e'] at this
    have this : ((own.map fun q => q.1).contains y.1 || !(N.contains y.1)) = true := this
    rw [Bool.or_eq_true] at this
    rcases this with z | z
    · exact .inl (by simpa using z)
    · exact .inr (by simpa using z)
theorem GX.kdOf {scope : Scope} {own : List (Str × Nat)} (h : ckB N sc scope own = true) : scope.kind = .function := by
  simp only [ckB, Bool.and_eq_true] at h
  exact beq_kind h.1.1.1.1
variable {gc own : Bool} {ifs : List Expr} {scope : Scope} {ownN : List (Str × Nat)} {mi : Rho → M (Src × List D)} {t : Rho → M Bool} {el : Rho → M D}
/-- [elt for x in iter if ..] -/
theorem xLc1 (g : GX c P w mg base k N sc top X W) (h : ckB N sc scope [(x, i)] = true) (h2 : noSet iter = true) (hx : ckT N (relS scope sc) false i x = true) (hi : PI X (.Name x q) iter (IvR c W mi))
    (ht : ∀ X', GX c P w mg base k N (relS scope sc) false X' W0 → PTs X' ifs (TvR c W0 t)) (he : ∀ X', GX c P w mg base k N (relS scope sc) false X' W0 → PE X' elt (EvR c W0 el)) :
    PE X (.ListComp elt [⟨.Name x q, iter, ifs, 0⟩] scope pos) (EvR c W (eComp gc own mi [i] (gmName i) t el)) :=
  ev_lc (ownN := [(x, i)]) g.calm g.nd' (ckB_ok g h) (fold_no' h2) (pure_name (by simp)) hi (fun s H C cl fp => by
    have g2 := g.blk (GX.kdOf h) s H C cl fp
    obtain ⟨h1, h2, h3⟩ := ckT_ok g2 hx
    exact pg_name g2.nd' h1 h2 h3) (fun s H C cl fp => ht _ (g.blk (GX.kdOf h) s H C cl fp)) (fun s H C cl fp => he _ (g.blk (GX.kdOf h) s H C cl fp))
theorem yLc1 {py spos : Pos} {jj : Nat} (g : GX c P w mg base k N sc top X W) (hy : (N[jj]? == some y) = true) (hw : swLc sc y py scope pos = true) (h : ckB N sc scope [(x, i)] = true) (h2 : noSet iter = true) (hx : ckT N (relS scope sc) false i x = true) (hi : PI X (.Name x q) iter (IvR c W mi))
    (ht : ∀ X', GX c P w mg base k N (relS scope sc) false X' W0 → PTs X' ifs (TvR c W0 t)) (he : ∀ X', GX c P w mg base k N (relS scope sc) false X' W0 → PE X' elt (EvR c W0 el)) :
    PS X (.Assign [.Name y py] (.ListComp elt [⟨.Name x q, iter, ifs, 0⟩] scope pos) spos) (SvR c W (sAsg (eComp gc own mi [i] (gmName i) t el) (gNameM jj))) :=
  sv_setLc (ownN := [(x, i)]) g.calm g.nd' (by rw [g.eN]; exact eq_of_beq hy) (by
    rw [g.es]
    have hw' := hw
    simp only [swLc, Bool.and_eq_true] at hw'
    exact eq_of_beq hw'.1.1) (sw_lc g hw) (ckB_ok g h) (fold_no' h2) (pure_name (by simp)) hi (fun s H C cl fp => by
    have g2 := g.blk (GX.kdOf h) s H C cl fp
    obtain ⟨h1, h2, h3⟩ := ckT_ok g2 hx
    exact pg_name g2.nd' h1 h2 h3) (fun s H C cl fp => ht _ (g.blk (GX.kdOf h) s H C cl fp)) (fun s H C cl fp => he _ (g.blk (GX.kdOf h) s H C cl fp))
end
end CR

namespace CR
open PySem PySem.Spec PyProof.Rows L2
section
variable {c : Kx} {P : Program} {w : World} {mg : Str → Option Value} {base : Heap} {k : Nat} {N : List Str} {sc : Scope} {top : Bool} {X : Cx} {W : WX} {a b e cx o tg iter elt : Expr} {es : List Expr} {pos p q apos cpos : Pos} {ma mb mc m : Rho → M D} {mr mk : Rho → M (List D)} {x y z : Str} {i j l n : Nat} {ms mt : MS} {body : List Stmt}
variable {gc own : Bool} {ifs : List Expr} {scope : Scope} {ownN : List (Str × Nat)} {mi : Rho → M (Src × List D)} {t : Rho → M Bool} {el : Rho → M D}
theorem pgName (g : GX c P w mg base k N sc top X W) (hx : ckT N sc top i x = true) : PG X (.Name x pos) (gName i) :=
  let ⟨h1, h2, h3⟩ := ckT_ok g hx
  pg_name g.nd' h1 h2 h3
/-- [elt for x, y in iter if ..] -/
theorem xLc2 {px py pt : Pos} {kt : Nat} (g : GX c P w mg base k N sc top X W) (h : ckB N sc scope [(x, i), (y, j)] = true) (h2 : noSet iter = true) (hx : ckT N (relS scope sc) false i x = true) (hy : ckT N (relS scope sc) false j y = true) (hi : PI X (.Tuple [.Name x px, .Name y py] kt pt) iter (IvR c W mi))
    (ht : ∀ X', GX c P w mg base k N (relS scope sc) false X' W0 → PTs X' ifs (TvR c W0 t)) (he : ∀ X', GX c P w mg base k N (relS scope sc) false X' W0 → PE X' elt (EvR c W0 el)) :
    PE X (.ListComp elt [⟨.Tuple [.Name x px, .Name y py] kt pt, iter, ifs, 0⟩] scope pos) (EvR c W (eComp gc own mi [i, j] (gmTup [i, j]) t el)) :=
  ev_lc (ownN := [(x, i), (y, j)]) g.calm g.nd' (ckB_ok g h) (fold_no' h2) (pure_tup (is := [i, j]) (by simp)) hi (fun s H C cl fp => by
    have g2 := g.blk (GX.kdOf h) s H C cl fp
    have := pg_tup (k := kt) (pos := pt) g2.calm (pgs_cons (pgName g2 hx (pos := px)) (pgs_cons (pgName g2 hy (pos := py)) pgs_nil (asg_cons [] _ rfl)) (asg_cons _ _ rfl)) (asg_len _ _) (asg_none _ _ rfl)
    rw [g2.eK] at this
    exact this) (fun s H C cl fp => ht _ (g.blk (GX.kdOf h) s H C cl fp)) (fun s H C cl fp => he _ (g.blk (GX.kdOf h) s H C cl fp))
/-! ### defs by their names -/
/-- the def named x: what it does; sh: how it is called; dd: its defaults -/
structure FnB (c : Kx) (P : Program) (w : World) (mg : Str → Option Value) (base : Heap) (k : Nat) (x : Str) (sh : List (Nat × List Str × List Sr)) (dd : List D) (F : List D → M D) : Prop where
  ex : ∃ (f : Addr) (fd : FuncData) (ps : List Str) (dv : List V), FnG P w c.K mg base k f fd ps (spD c F) ∧ mg x = some (.ref f) ∧ PySem.W.keepIn c.K (.ref f) = true ∧ (∀ fa H, Rels c fa H dd dv) ∧ ∀ s ∈ sh, BindP c.K fd ps s.1 s.2.1 s.2.2 dv
theorem GX.fnG (g : GX c P w mg base k N sc top X W) {kk : Nat} {f : Addr} {fd : FuncData} {ps : List Str} {sp : Sp} (h : FnG P w c.K mg base kk f fd ps sp) : FnG X.prog X.w X.K X.mg X.base kk f fd ps sp := by rw [g.eP, g.ew, g.eK, g.em, g.eb]; exact h
variable {sh : List (Nat × List Str × List Sr)} {dd : List D} {F : List D → M D} {src : List Sr} {ks : List Str} {kws : List Keyword}
theorem xCall (g : GX c P w mg base k N sc top X W) (G : FnB c P w mg base j x sh dd F) (hj : j ≤ k) (hq : (n, ([] : List Str), src) ∈ sh) (hg : ckG sc x = true) (hs : (e :: es).all noStar = true) (ha : PA X (e :: es) (AvR c W mr)) :
    PE X (.Call (.Name x p) (e :: es) [] pos) (EvR c W (eCallF F n 0 src dd mr aNil)) := by
  obtain ⟨f, fd, ps, dv, G, h1, h2, h3, h4⟩ := G.ex
  obtain ⟨g1, g2, g3⟩ := ckG_ok g hg
  exact ev_call (g.fnG G) g.gd (g.room.mono hj) g.tk (by rw [g.eK]; exact h4 _ hq) h3 g1 (by rw [g.em]; exact h1) (by rw [g.eK]; exact h2) g2 (star_cons es _ (no_cons hs).1) (star_any es _ (no_cons hs).2) ha
theorem xCall0 (g : GX c P w mg base k N sc top X W) (G : FnB c P w mg base j x sh dd F) (hj : j ≤ k) (hq : (0, ([] : List Str), src) ∈ sh) (hg : ckG sc x = true) : PE X (.Call (.Name x p) [] [] pos) (EvR c W (eCallF F 0 0 src dd aNil aNil)) := by
  obtain ⟨f, fd, ps, dv, G, h1, h2, h3, h4⟩ := G.ex
  obtain ⟨g1, g2, g3⟩ := ckG_ok g hg
  exact ev_call0 (g.fnG G) g.gd (g.room.mono hj) g.tk (by rw [g.eK]; exact h4 _ hq) h3 g1 (by rw [g.em]; exact h1) (by rw [g.eK]; exact h2) g2
def kwN (kws : List Keyword) : List (Option Str) := kws.map (·.arg)
theorem kw_each (pos : Pos) (env : Env) : ∀ kws : List Keyword, (backToKw pos (keywordEach kws env)).map (·.1) = kwN kws
  | [] => rfl
  | ⟨n, v, p⟩ :: r => by
    show n :: (backToKw pos (keywordEach r env)).map (·.1) = _
    rw [kw_each pos env r]; rfl
theorem kw_all {pos : Pos} {env : Env} {kws : List Keyword} (h : (kwN kws).all (·.isSome) = true) : (backToKw pos (keywordEach kws env)).all (·.1.isSome) = true := by
  rw [← kw_each pos env kws, List.all_map] at h; exact h
theorem kw_names {pos : Pos} {env : Env} {kws : List Keyword} : (backToKw pos (keywordEach kws env)).filterMap (·.1) = (kwN kws).filterMap id := by
  rw [← kw_each pos env kws, List.filterMap_map]; rfl
theorem kw_any {pos : Pos} {env : Env} {kws : List Keyword} (h : (kwN kws).all (·.isSome) = true) : (backToKw pos (keywordEach kws env)).any (·.1.isNone) = false := by
  have := kw_all (pos := pos) (env := env) h
  rw [List.any_eq_false]
  intro y hy e
  have h1 := List.all_eq_true.mp this y hy
  cases q : y.1 with
  | none => rw [q] at h1; cases h1
  | some v => rw [q] at e; cases e
theorem xCallK (g : GX c P w mg base k N sc top X W) (G : FnB c P w mg base j x sh dd F) (hj : j ≤ k) (hq : (n, ks, src) ∈ sh) (hg : ckG sc x = true) (hs : (e :: es).all noStar = true) (hkn : ((kwN kws).all (·.isSome) && ((kwN kws).filterMap id == ks)) = true) (ha : PA X (e :: es) (AvR c W mr)) (hk : PK X kws (AvR c W mk)) :
    PE X (.Call (.Name x p) (e :: es) kws pos) (EvR c W (eCallF F n ks.length src dd mr mk)) := by
  obtain ⟨f, fd, ps, dv, G, h1, h2, h3, h4⟩ := G.ex
  obtain ⟨g1, g2, g3⟩ := ckG_ok g hg
  rw [Bool.and_eq_true] at hkn
  exact ev_callK (g.fnG G) g.gd (g.room.mono hj) g.tk (by rw [g.eK]; exact h4 _ hq) h3 g1 (by rw [g.em]; exact h1) (by rw [g.eK]; exact h2) g2 (star_cons es _ (no_cons hs).1) (kw_all hkn.1) (kw_names.trans (eq_of_beq hkn.2)) (by rw [star_any _ _ hs, kw_any hkn.1]; rfl) ha hk
theorem xCallK0 (g : GX c P w mg base k N sc top X W) (G : FnB c P w mg base j x sh dd F) (hj : j ≤ k) (hq : (0, ks, src) ∈ sh) (hg : ckG sc x = true) (hkn : ((kwN kws).all (·.isSome) && ((kwN kws).filterMap id == ks)) = true) (hk : PK X kws (AvR c W mk)) :
    PE X (.Call (.Name x p) [] kws pos) (EvR c W (eCallF F 0 ks.length src dd aNil mk)) := by
  obtain ⟨f, fd, ps, dv, G, h1, h2, h3, h4⟩ := G.ex
  obtain ⟨g1, g2, g3⟩ := ckG_ok g hg
  rw [Bool.and_eq_true] at hkn
  exact ev_callK0 (g.fnG G) g.gd (g.room.mono hj) g.tk (by rw [g.eK]; exact h4 _ hq) h3 g1 (by rw [g.em]; exact h1) (by rw [g.eK]; exact h2) g2 (kw_all hkn.1) (kw_names.trans (eq_of_beq hkn.2)) (by rw [star_any [] _ rfl, kw_any hkn.1]; rfl) hk
/-- a def by the walk of its body -/
theorem FnB.of {own : Bool} {f : Addr} {fd : FuncData} {qual : Str} {params : Arguments} {kwd : List (Str × V)} {dvs : List V} {ps : List Str} (FD : FunD c.K x qual params body sc dvs kwd f fd) (Sc : FnScope N ps sc) (hm : mg x = some (.ref f)) (hd : ∀ fa H, Rels c fa H dd dvs)
    (hb : ∀ (X : Cx) (W : WX), GX c P w mg base k N sc true X W → PSs X body (SvR c W ms)) (bd : ∀ s ∈ sh, BindP c.K fd ps s.1 s.2.1 s.2.2 dvs) : FnB c P w mg base (k + 1) x sh dd (runF own N ps.length ms) :=
  ⟨f, fd, ps, dvs, fnG_of FD Sc (fun vs H Q E h => spD_len h) (fun cdv A out s H vs Q E hg hr h => ⟨_, hb _ _ (GX.ofDef Sc.nd Sc.kind hg hr), spD_body h⟩), hm, FD.kp, hd, bd⟩
/-- .. as the law's own def -/
theorem FnG.of {own : Bool} {f : Addr} {fd : FuncData} {qual : Str} {params : Arguments} {kwd : List (Str × V)} {dvs : List V} {ps : List Str} (FD : FunD c.K x qual params body sc dvs kwd f fd) (Sc : FnScope N ps sc)
    (hb : ∀ (X : Cx) (W : WX), GX c P w mg base k N sc true X W → PSs X body (SvR c W ms)) : FnG P w c.K mg base (k + 1) f fd ps (spD c (runF own N ps.length ms)) :=
  fnG_of FD Sc (fun vs H Q E h => spD_len h) (fun cdv A out s H vs Q E hg hr h => ⟨_, hb _ _ (GX.ofDef Sc.nd Sc.kind hg hr), spD_body h⟩)
/-- no defaults -/
theorem bindP {f : Addr} {fd : FuncData} {qual : Str} {params : Arguments} {kwd : List (Str × V)} {ps : List Str} (FD : FunD c.K x qual params body sc [] kwd f fd)
    (h : ∀ (kV doc pm : Value) (an : Option Addr) (cdv ct : Value) (us ws ls : List Value), us.length = n → ws.length = ks.length → pick us ws [] src = some ls → bindArgs (PySem.W.fnOf x qual params body sc .none kV doc pm an cdv ct) ⟨us, ks.zip ws⟩ = pure (ps.zip ls)) : BindP c.K fd ps n ks src [] := by
  obtain ⟨oc, od, dV, kV, doc, pm, an, cdv, ct, osl, rfl, lk, hcd, hD, hK⟩ := FD.ex
  rcases hD with ⟨_, rfl⟩ | ⟨e, _⟩
  · exact ⟨[], .nil, fun s us ws ls _ h1 h2 h3 => .of_eq (h kV doc pm an cdv ct us ws ls h1 h2 h3)⟩
  · exact absurd rfl e
end
end CR

namespace CR
open PySem PySem.Spec PyProof.Rows L2
section
variable {c : Kx} {P : Program} {w : World} {mg : Str → Option Value} {base : Heap} {k : Nat} {N : List Str} {sc : Scope} {top : Bool} {X : Cx} {W : WX} {a b e cx o tg iter elt : Expr} {es : List Expr} {pos p q apos cpos : Pos} {ma mb mc m : Rho → M D} {mr mk : Rho → M (List D)} {x y z : Str} {i j l n : Nat} {ms mt : MS} {body : List Stmt}
variable {gc own : Bool} {ifs : List Expr} {scope : Scope} {ownN : List (Str × Nat)} {mi : Rho → M (Src × List D)} {t : Rho → M Bool} {el : Rho → M D}
theorem sv_par3 {cc : Expr} {px py pz pt : Pos} {kt k2 pt2} (g : GX c P w mg base k N sc top X W) (hi : N[i]? = some x) (hj : N[j]? = some y) (hl : N[l]? = some z) (hij : i ≠ j) (hil : i ≠ l) (hjl : j ≠ l) (hx : sc.names.lookup x = some .local) (hy : sc.names.lookup y = some .local) (hz : sc.names.lookup z = some .local)
    (hw : swappedStores [.Tuple [.Name x px, .Name y py, .Name z pz] kt pt] (.Tuple [a, b, cc] k2 pt2) (envS sc) = pure (some [x, y, z])) (ha : PA X [a, b, cc] (AvR c W mr)) :
    PS X (.Assign [.Tuple [.Name x px, .Name y py, .Name z pz] kt pt] (.Tuple [a, b, cc] k2 pt2) pos) (SvR c W (sPar3 i j l mr)) :=
  (ps_par3 g.calm g.nd' (by rw [g.eN]; exact hi) (by rw [g.eN]; exact hj) (by rw [g.eN]; exact hl) hij hil hjl (by rw [g.es]; exact hx) (by rw [g.es]; exact hy) (by rw [g.es]; exact hz) ha (sw_same g hw)).imp fun Dn σ H ⟨fa, S, ρ, ok, en, h⟩ => by
    refine ⟨fa, S, ρ, ok, en, (h.lift en).imp (fun vs H1 ⟨fa1, S1, ds, ok1, st1, r1, h1⟩ => ?_) fun _ _ _ z => z⟩
    match ds, r1, h1 with
    | [d, e, f], r1, h1 =>
      obtain ⟨v, w, u, rfl, r2, r3, r4⟩ := r1.three
      exact ⟨v, w, u, rfl, h1 fa1 _ H1 .refl ok1 ((((en.mono st1).set i r2).set j r3).set l r4)⟩
    | [], _, h1 => exact h1.elim
    | [_], _, h1 => exact h1.elim
    | [_, _], _, h1 => exact h1.elim
    | _ :: _ :: _ :: _ :: _, _, h1 => exact h1.elim
theorem yPar3 {cc : Expr} {px py pz pt : Pos} {kt k2 : Nat} {pt2 : Pos} (g : GX c P w mg base k N sc top X W) (hi : N[i]? = some x) (hj : N[j]? = some y) (hl : N[l]? = some z) (hij : i ≠ j) (hil : i ≠ l) (hjl : j ≠ l) (hx : sc.names.lookup x = some .local) (hy : sc.names.lookup y = some .local) (hz : sc.names.lookup z = some .local)
    (hw : swappedStores [.Tuple [.Name x px, .Name y py, .Name z pz] kt pt] (.Tuple [a, b, cc] k2 pt2) (envS sc) = pure (some [x, y, z])) (ha : PA X [a, b, cc] (AvR c W mr)) :
    PS X (.Assign [.Tuple [.Name x px, .Name y py, .Name z pz] kt pt] (.Tuple [a, b, cc] k2 pt2) pos) (SvR c W (sPar3 i j l mr)) := sv_par3 g hi hj hl hij hil hjl hx hy hz hw ha
/-- y = [..], y seen by a block -/
theorem yAsgC {elt : Expr} {gs : List Comprehension} {gg : D → Rho → M Rho} {py spos : Pos} (g : GX c P w mg base k N sc top X W) (hw : swLc sc y py scope pos = false) (he : PE X (.ListComp elt gs scope pos) (EvR c W m)) (hg : PG X (.Name y py) (GvR c gg)) : PS X (.Assign [.Name y py] (.ListComp elt gs scope pos) spos) (SvR c W (sAsg m gg)) :=
  sv_asg (show swapsWithSole _ _ spos.line X.env = _ from sw_lc g hw (l := spos.line)) (sws_no rfl) (asg_cons [] _ rfl) he hg
theorem yLc2 {px py pt pz spos : Pos} {kt jj : Nat} (g : GX c P w mg base k N sc top X W) (hz : (N[jj]? == some z) = true) (hw : swLc sc z pz scope pos = true) (h : ckB N sc scope [(x, i), (y, j)] = true) (h2 : noSet iter = true) (hx : ckT N (relS scope sc) false i x = true) (hy : ckT N (relS scope sc) false j y = true) (hi : PI X (.Tuple [.Name x px, .Name y py] kt pt) iter (IvR c W mi))
    (ht : ∀ X', GX c P w mg base k N (relS scope sc) false X' W0 → PTs X' ifs (TvR c W0 t)) (he : ∀ X', GX c P w mg base k N (relS scope sc) false X' W0 → PE X' elt (EvR c W0 el)) :
    PS X (.Assign [.Name z pz] (.ListComp elt [⟨.Tuple [.Name x px, .Name y py] kt pt, iter, ifs, 0⟩] scope pos) spos) (SvR c W (sAsg (eComp gc own mi [i, j] (gmTup [i, j]) t el) (gNameM jj))) :=
  sv_setLc (ownN := [(x, i), (y, j)]) g.calm g.nd' (by rw [g.eN]; exact eq_of_beq hz) (by
    rw [g.es]
    have hw' := hw
    simp only [swLc, Bool.and_eq_true] at hw'
    exact eq_of_beq hw'.1.1) (sw_lc g hw) (ckB_ok g h) (fold_no' h2) (pure_tup (is := [i, j]) (by simp)) hi (fun s H C cl fp => by
    have g2 := g.blk (GX.kdOf h) s H C cl fp
    have := pg_tup (k := kt) (pos := pt) g2.calm (pgs_cons (pgName g2 hx (pos := px)) (pgs_cons (pgName g2 hy (pos := py)) pgs_nil (asg_cons [] _ rfl)) (asg_cons _ _ rfl)) (asg_len _ _) (asg_none _ _ rfl)
    rw [g2.eK] at this
    exact this) (fun s H C cl fp => ht _ (g.blk (GX.kdOf h) s H C cl fp)) (fun s H C cl fp => he _ (g.blk (GX.kdOf h) s H C cl fp))
end
end CR

/-! CrP: what the denotations compute: rules for plain reasoning, no program in sight. -/
namespace CR
open PySem PySem.Spec
/-- m ends well from S, P of what comes out -/
def Okm {α : Type} (m : M α) (S : Sto) (P : α → Sto → Prop) : Prop := ∃ a S', m S = .ok a S' ∧ P a S'
section
variable {α β : Type} {m : M α} {S : Sto} {P P' : α → Sto → Prop}
theorem Okm.mono (h : Okm m S P) (i : ∀ a S, P a S → P' a S) : Okm m S P' := let ⟨a, S', e, p⟩ := h; ⟨a, S', e, i _ _ p⟩
theorem okm_of {a : α} {S' : Sto} (e : m S = .ok a S') (p : P a S') : Okm m S P := ⟨a, S', e, p⟩
@[simp] theorem okm_pure {a : α} : Okm (pure a) S P ↔ P a S := ⟨fun ⟨_, _, e, p⟩ => by cases e; exact p, fun p => ⟨a, S, rfl, p⟩⟩
@[simp] theorem okm_bind {m : M β} {f : β → M α} : Okm (m >>= f) S P ↔ Okm m S fun b S1 => Okm (f b) S1 P := by
  constructor
  · rintro ⟨a, S', e, p⟩
    obtain ⟨b, S1, e1, e2⟩ := M.bind_ok e
    exact ⟨b, S1, e1, a, S', e2, p⟩
  · rintro ⟨b, S1, e1, a, S', e2, p⟩
    exact ⟨a, S', (M.bind_of e1).trans e2, p⟩
theorem okm_opt {f : Sto → Option α} : Okm (opt f) S P ↔ ∃ a, f S = some a ∧ P a S := by
  constructor
  · rintro ⟨a, S', e, p⟩
    unfold opt at e
    cases q : f S with
    | none => rw [q] at e; cases e
    | some z => rw [q] at e; cases e; exact ⟨_, rfl, p⟩
  · rintro ⟨a, e, p⟩
    exact ⟨a, S, by unfold opt; rw [e], p⟩
@[simp] theorem okm_bad : Okm (M.bad : M α) S P ↔ False := ⟨fun ⟨_, _, e, _⟩ => (by cases e), fun h => h.elim⟩
theorem okm_ite {p : Prop} [Decidable p] {a b : M α} : Okm (if p then a else b) S P ↔ if p then Okm a S P else Okm b S P := by split <;> rfl
end
section
variable {ρ : Rho} {S : Sto} {P : D → Sto → Prop} {Q : Bool → Sto → Prop} {L : List D → Sto → Prop} {F : Fl → Sto → Prop} {ma mb mc m : Rho → M D} {mo mo' : D → D → M D} {t u : Rho → M Bool} {mr mk : Rho → M (List D)} {i j : Nat}
theorem okm_var {d : D} (h : ρ[i]? = some (some d)) : Okm (eVar i ρ) S P ↔ P d S := by unfold eVar; rw [h]; exact okm_pure
@[simp] theorem okm_cst {d : D} : Okm (eCst d ρ) S P ↔ P d S := okm_pure
@[simp] theorem okm_op : Okm (eOp mo ma mb ρ) S P ↔ Okm (ma ρ) S fun x S1 => Okm (mb ρ) S1 fun y S2 => Okm (mo x y) S2 P := by
  unfold eOp; rw [okm_bind]; simp only [okm_bind]
@[simp] theorem okm_un {mo : D → M D} : Okm (eUn mo ma ρ) S P ↔ Okm (ma ρ) S fun x S1 => Okm (mo x) S1 P := by unfold eUn; rw [okm_bind]
@[simp] theorem okm_asB {b : Bool} : Okm (asB (.bl b)) S Q ↔ Q b S := okm_pure
@[simp] theorem okm_tOf : Okm (tOf m ρ) S Q ↔ Okm (m ρ) S fun d S1 => Okm (asB d) S1 Q := okm_bind
@[simp] theorem okm_tTru {mo : D → M Bool} : Okm (tTru mo m ρ) S Q ↔ Okm (m ρ) S fun d S1 => Okm (mo d) S1 Q := okm_bind
@[simp] theorem okm_tNot : Okm (tNotM t ρ) S Q ↔ Okm (t ρ) S fun b S1 => Q (!b) S1 := by unfold tNotM; rw [okm_bind]; simp only [okm_pure]
@[simp] theorem okm_tAnd : Okm (tAndM t u ρ) S Q ↔ Okm (t ρ) S fun b S1 => if b = true then Okm (u ρ) S1 Q else Q false S1 := by unfold tAndM; rw [okm_bind]; simp only [okm_ite, okm_pure]
@[simp] theorem okm_tOr : Okm (tOrM t u ρ) S Q ↔ Okm (t ρ) S fun b S1 => if b = true then Q true S1 else Okm (u ρ) S1 Q := by unfold tOrM; rw [okm_bind]; simp only [okm_ite, okm_pure]
@[simp] theorem okm_eAnd : Okm (eAndM ma mb ρ) S P ↔ Okm (ma ρ) S fun d S1 => Okm (asB d) S1 fun b S2 => if b = true then Okm (mb ρ) S2 P else P (.bl false) S2 := by unfold eAndM; rw [okm_bind]; simp only [okm_bind, okm_ite, okm_pure]
@[simp] theorem okm_eOr : Okm (eOrM ma mb ρ) S P ↔ Okm (ma ρ) S fun d S1 => Okm (asB d) S1 fun b S2 => if b = true then P (.bl true) S2 else Okm (mb ρ) S2 P := by unfold eOrM; rw [okm_bind]; simp only [okm_bind, okm_ite, okm_pure]
@[simp] theorem okm_eNot : Okm (eNotM ma ρ) S P ↔ Okm (ma ρ) S fun d S1 => Okm (asB d) S1 fun b S2 => P (.bl (!b)) S2 := by unfold eNotM; rw [okm_bind]; simp only [okm_bind, okm_pure]
@[simp] theorem okm_eIf : Okm (eIfM t ma mb ρ) S P ↔ Okm (t ρ) S fun b S1 => if b = true then Okm (ma ρ) S1 P else Okm (mb ρ) S1 P := by unfold eIfM; rw [okm_bind]; simp only [okm_ite]
@[simp] theorem okm_chain : Okm (eChain mo mo' ma mb mc ρ) S P ↔ Okm (ma ρ) S fun x S1 => Okm (mb ρ) S1 fun y S2 => Okm (mo x y) S2 fun z S3 => Okm (asB z) S3 fun b S4 => if b = true then Okm (mc ρ) S4 fun v S5 => Okm (mo' y v) S5 P else P (.bl false) S4 := by
  unfold eChain; rw [okm_bind]; simp only [okm_bind, okm_ite, okm_pure]
@[simp] theorem okm_aNil : Okm (aNil ρ) S L ↔ L [] S := okm_pure
@[simp] theorem okm_aCons : Okm (aCons m mr ρ) S L ↔ Okm (m ρ) S fun x S1 => Okm (mr ρ) S1 fun xs S2 => L (x :: xs) S2 := by unfold aCons; rw [okm_bind]; simp only [okm_bind, okm_pure]
@[simp] theorem okm_tup : Okm (eTup mr ρ) S P ↔ Okm (mr ρ) S fun xs S1 => fits xs.length = true ∧ P (.tup xs) S1 := by
  unfold eTup; rw [okm_bind]; simp only [okm_ite, okm_pure, okm_bad]; simp only [if_false_right]
@[simp] theorem okm_lst : Okm (eLst mr ρ) S P ↔ Okm (mr ρ) S fun xs S1 => fits xs.length = true ∧ P (.lst xs) S1 := by
  unfold eLst; rw [okm_bind]; simp only [okm_ite, okm_pure, okm_bad]; simp only [if_false_right]
@[simp] theorem okm_tp : Okm (eTp mr ρ) S P ↔ Okm (mr ρ) S fun xs S1 => fits xs.length = true ∧ P (.tp xs) S1 := by
  unfold eTp; rw [okm_bind]; simp only [okm_ite, okm_pure, okm_bad]; simp only [if_false_right]
theorem okm_alloc {d : D} : Okm (allocM d) S P ↔ P (.ref S.length) (S ++ [d]) := ⟨fun ⟨_, _, e, p⟩ => by cases e; exact p, fun p => ⟨_, _, rfl, p⟩⟩
@[simp] theorem okm_lstM : Okm (eLstM mr ρ) S P ↔ Okm (mr ρ) S fun xs S1 => fits xs.length = true ∧ P (.ref S1.length) (S1 ++ [.lst xs]) := by
  unfold eLstM; rw [okm_bind]; simp only [okm_ite, okm_alloc, okm_bad]; simp only [if_false_right]
@[simp] theorem okm_callB {mo : List D → M D} : Okm (eCallB mo mr ρ) S P ↔ Okm (mr ρ) S fun xs S1 => Okm (mo xs) S1 P := okm_bind
theorem okm_callF {f : List D → M D} {n nk : Nat} {src : List Sr} {dd : List D} (h : Okm (mr ρ) S fun ds S1 => Okm (mk ρ) S1 fun zs S2 => ∃ ls, (ds.length = n ∧ zs.length = nk) ∧ pick ds zs dd src = some ls ∧ Okm (f ls) S2 P) : Okm (eCallF f n nk src dd mr mk ρ) S P := by
  unfold eCallF; rw [okm_bind]; simp only [okm_bind, okm_ite, okm_bad]
  refine h.mono fun ds S1 h => h.mono fun zs S2 ⟨ls, h1, h2, h3⟩ => ?_
  rw [if_pos h1, h2]; exact h3
theorem okm_gate {g : D → Sto → Bool} {d : D} {Q : Unit → Sto → Prop} : Okm (gate g d) S Q ↔ g d S = true ∧ Q () S := by
  unfold gate Okm
  by_cases h : g d S = true
  · simp only [h, if_true, true_and]
    exact ⟨fun ⟨a, S', e, p⟩ => by cases e; exact p, fun p => ⟨(), S, rfl, p⟩⟩
  · simp [h]
@[simp] theorem okm_meth {g : D → Sto → Bool} {mo : D → List D → M D} : Okm (eMeth g mo m mr ρ) S P ↔ Okm (m ρ) S fun d S1 => g d S1 = true ∧ Okm (mr ρ) S1 fun ds S2 => Okm (mo d ds) S2 P := by
  unfold eMeth; rw [okm_bind]; simp only [okm_bind, okm_gate]
@[simp] theorem okm_oNone {Q : Option Int → Sto → Prop} : Okm (oNone ρ) S Q ↔ Q none S := okm_pure
@[simp] theorem okm_asI {i : Int} {Q : Option Int → Sto → Prop} : Okm (asI (.int i)) S Q ↔ Q (some i) S := okm_pure
@[simp] theorem okm_oSome {Q : Option Int → Sto → Prop} : Okm (oSome m ρ) S Q ↔ Okm (m ρ) S fun d S1 => Okm (asI d) S1 Q := okm_bind
@[simp] theorem okm_sl {ml mh : Rho → M (Option Int)} : Okm (eSl ma ml mh ρ) S P ↔ Okm (ma ρ) S fun x S1 => Okm (ml ρ) S1 fun l S2 => Okm (mh ρ) S2 fun h S3 => ∃ z, slD S3 x l h = some z ∧ P z S3 := by
  unfold eSl; rw [okm_bind]; simp only [okm_bind, okm_opt]
@[simp] theorem okm_lenSet : Okm (eLenSet m ρ) S P ↔ Okm (m ρ) S fun d S1 => ∃ z, lenSetD S1 d = some z ∧ P z S1 := by unfold eLenSet; rw [okm_bind]; simp only [okm_opt]
/-! ### statements -/
theorem okm_lift {α : Type} {m : M α} {k : α → M Fl} (h : Okm m S fun a S1 => Okm (k a) S1 F) : Okm (lift ρ m k) S F := by
  obtain ⟨a, S1, e, f, S2, e2, p⟩ := h
  exact ⟨f, S2, by unfold lift; rw [e]; exact e2, p⟩
def nxt (P : Rho → Sto → Prop) (F : Fl → Sto → Prop) : Fl → Sto → Prop := fun f S => match f with
  | .nx ρ => P ρ S
  | f => F f S
theorem okm_seq {a b : MS} (h : Okm (a ρ) S (nxt (fun ρ1 S1 => Okm (b ρ1) S1 F) F)) : Okm (sSeq a b ρ) S F := by
  obtain ⟨f, S1, e, p⟩ := h
  cases f with
  | nx ρ1 =>
    obtain ⟨f2, S2, e2, p2⟩ := p
    exact ⟨f2, S2, by unfold sSeq; rw [e]; exact e2, p2⟩
  | ret d => exact ⟨_, S1, by unfold sSeq; rw [e], p⟩
  | bk ρ1 => exact ⟨_, S1, by unfold sSeq; rw [e], p⟩
  | ct ρ1 => exact ⟨_, S1, by unfold sSeq; rw [e], p⟩
  | xc ρ1 x => exact ⟨_, S1, by unfold sSeq; rw [e], p⟩
theorem okm_next (h : F (.nx ρ) S) : Okm (sNext ρ) S F := ⟨_, _, rfl, h⟩
theorem okm_ret (h : Okm (m ρ) S fun d S1 => F (.ret d) S1) : Okm (sRet m ρ) S F := okm_lift (h.mono fun d S1 p => ⟨_, _, rfl, p⟩)
theorem okm_sexpr (h : Okm (m ρ) S fun _ S1 => F (.nx ρ) S1) : Okm (sExpr m ρ) S F := okm_lift (h.mono fun d S1 p => ⟨_, _, rfl, p⟩)
theorem okm_if {a b : MS} (h : Okm (t ρ) S fun k S1 => if k = true then Okm (a ρ) S1 F else Okm (b ρ) S1 F) : Okm (sIf t a b ρ) S F := okm_lift (h.mono fun k S1 p => by rw [okm_ite]; exact p)
theorem okm_set (h : Okm (m ρ) S fun d S1 => F (.nx (ρ.set i (some d))) S1) : Okm (sAsg m (gNameM i) ρ) S F := okm_lift (h.mono fun d S1 p => ⟨_, _, rfl, p⟩)
theorem okm_asg {g : D → Rho → M Rho} (h : Okm (m ρ) S fun d S1 => Okm (g d ρ) S1 fun ρ1 S2 => F (.nx ρ1) S2) : Okm (sAsg m g ρ) S F := okm_lift (h.mono fun d S1 ⟨ρ1, S2, e, p⟩ => ⟨.nx ρ1, S2, by simp only [e], p⟩)
theorem okm_par (h : Okm (mr ρ) S fun ds S1 => ∃ d e, ds = [d, e] ∧ F (.nx ((ρ.set i (some d)).set j (some e))) S1) : Okm (sPar i j mr ρ) S F := okm_lift (h.mono fun ds S1 ⟨d, e, q, p⟩ => by subst q; exact ⟨_, _, rfl, p⟩)
theorem okm_par3 {l : Nat} (h : Okm (mr ρ) S fun ds S1 => ∃ d e f, ds = [d, e, f] ∧ F (.nx (((ρ.set i (some d)).set j (some e)).set l (some f))) S1) : Okm (sPar3 i j l mr ρ) S F := okm_lift (h.mono fun ds S1 ⟨d, e, f, q, p⟩ => by subst q; exact ⟨_, _, rfl, p⟩)
theorem okm_aug {mo : D → D → M D} {x : D} (hx : ρ[i]? = some (some x)) (h : Okm (m ρ) S fun y S1 => Okm (mo x y) S1 fun z S2 => F (.nx (ρ.set i (some z))) S2) : Okm (sAug i mo m ρ) S F := by
  unfold sAug; rw [hx]
  exact okm_lift (h.mono fun y S1 ⟨z, S2, e, p⟩ => ⟨_, S2, by simp only [e], p⟩)
/-- the walk of a for: Inv holds ahead of place i -/
theorem okm_forL {src : Src} {all : List D} {g : D → Rho → M Rho} {b : MS} (Inv : Nat → Rho → Sto → Prop)
    (step : ∀ (k : Nat) (d : D) (ρ : Rho) (S : Sto), all[k]? = some d → Inv k ρ S → guard src all S ∧ Okm (g d ρ) S fun ρ1 S1 => Okm (b ρ1) S1 fun f S2 => match f with
      | .nx ρ2 => Inv (k + 1) ρ2 S2
      | .ct ρ2 => Inv (k + 1) ρ2 S2
      | .bk ρ2 => F (.nx ρ2) S2
      | f => F f S2)
    (fin : ∀ ρ S, Inv all.length ρ S → guard src all S ∧ F (.nx ρ) S) : ∀ (n k : Nat) (ρ : Rho) (S : Sto), all.length - k = n → k ≤ all.length → Inv k ρ S → Okm (forL src all g b (all.drop k) ρ) S F := by
  intro n
  induction n with
  | zero =>
    intro k ρ S hn hk inv
    have e : k = all.length := by omega
    subst e
    obtain ⟨h1, h2⟩ := fin ρ S inv
    rw [List.drop_length]
    exact ⟨_, _, by unfold forL; rw [if_pos h1], h2⟩
  | succ n ih =>
    intro k ρ S hn hk inv
    have hlt : k < all.length := by omega
    obtain ⟨hg, ρ1, S1, e1, f, S2, e2, p⟩ := step k all[k] ρ S (List.getElem?_eq_getElem hlt) inv
    rw [List.drop_eq_getElem_cons hlt]
    cases f with
    | nx ρ2 =>
      obtain ⟨f3, S3, e3, p3⟩ := ih (k + 1) ρ2 S2 (by omega) hlt p
      exact ⟨f3, S3, by unfold forL; rw [if_pos hg, e1]; simp only [e2]; exact e3, p3⟩
    | ct ρ2 =>
      obtain ⟨f3, S3, e3, p3⟩ := ih (k + 1) ρ2 S2 (by omega) hlt p
      exact ⟨f3, S3, by unfold forL; rw [if_pos hg, e1]; simp only [e2]; exact e3, p3⟩
    | bk ρ2 => exact ⟨_, S2, by unfold forL; rw [if_pos hg, e1]; simp only [e2], p⟩
    | ret d => exact ⟨_, S2, by unfold forL; rw [if_pos hg, e1]; simp only [e2], p⟩
    | xc ρ2 x => exact ⟨_, S2, by unfold forL; rw [if_pos hg, e1]; simp only [e2], p⟩
theorem okm_for {mi : Rho → M (Src × List D)} {g : D → Rho → M Rho} {b : MS} (h : Okm (mi ρ) S fun p S1 => ∃ Inv : Nat → Rho → Sto → Prop, Inv 0 ρ S1 ∧
      (∀ (k : Nat) (d : D) (ρ : Rho) (S : Sto), p.2[k]? = some d → Inv k ρ S → guard p.1 p.2 S ∧ Okm (g d ρ) S fun ρ1 S1 => Okm (b ρ1) S1 fun f S2 => match f with
        | .nx ρ2 => Inv (k + 1) ρ2 S2
        | .ct ρ2 => Inv (k + 1) ρ2 S2
        | .bk ρ2 => F (.nx ρ2) S2
        | f => F f S2) ∧
      ∀ ρ S, Inv p.2.length ρ S → guard p.1 p.2 S ∧ F (.nx ρ) S) : Okm (sFor mi g b ρ) S F :=
  okm_lift (h.mono fun p S1 ⟨Inv, h0, st, fin⟩ => by
    have := okm_forL (src := p.1) (all := p.2) (g := g) (b := b) (F := F) Inv st fin p.2.length 0 ρ S1 rfl (Nat.zero_le _) h0
    simpa using this)
@[simp] theorem okm_name {d : D} {Q : Rho → Sto → Prop} : Okm (gNameM i d ρ) S Q ↔ Q (ρ.set i (some d)) S := okm_pure
end
/-! ### data without places -/
mutual
def nrf : D → Bool
  | .tup ds => nrfs ds
  | .tp ds => nrfs ds
  | .lst ds => nrfs ds
  | .fz ds => nrfs ds
  | .kt ds => nrfs ds
  | .dK _ ds => nrfs ds
  | .dT _ ds => nrfs ds
  | .ins _ _ ds => nrfs ds
  | .ref _ => false
  | _ => true
def nrfs : List D → Bool
  | [] => true
  | d :: ds => nrf d && nrfs ds
end
mutual
theorem below_nrf (n : Nat) : ∀ d : D, nrf d = true → below n d = true
  | .non, _ => by simp [below]
  | .bl _, _ => by simp [below]
  | .int _, _ => by simp [below]
  | .str _, _ => by simp [below]
  | .tup ds, h => by simp only [nrf] at h; simp only [below]; exact belows_nrf n ds h
  | .tp ds, h => by simp only [nrf] at h; simp only [below]; exact belows_nrf n ds h
  | .lst ds, h => by simp only [nrf] at h; simp only [below]; exact belows_nrf n ds h
  | .fz ds, h => by simp only [nrf] at h; simp only [below]; exact belows_nrf n ds h
  | .kt ds, h => by simp only [nrf] at h; simp only [below]; exact belows_nrf n ds h
  | .dK _ ds, h => by simp only [nrf] at h; simp only [below]; exact belows_nrf n ds h
  | .dT _ ds, h => by simp only [nrf] at h; simp only [below]; exact belows_nrf n ds h
  | .ins _ _ ds, h => by simp only [nrf] at h; simp only [below]; exact belows_nrf n ds h
  | .ref _, h => by simp [nrf] at h
theorem belows_nrf (n : Nat) : ∀ ds : List D, nrfs ds = true → belows n ds = true
  | [], _ => by simp [belows]
  | d :: ds, h => by
    simp only [nrfs, Bool.and_eq_true] at h
    simp only [belows, Bool.and_eq_true]
    exact ⟨below_nrf n d h.1, belows_nrf n ds h.2⟩
end
theorem frz_nrf {S : Sto} {n : Nat} {d : D} (h : nrf d = true) : frz S n d = d := by unfold frz; rw [if_pos (below_nrf n d h)]
theorem frzs_nrf {S : Sto} {n : Nat} {ds : List D} (h : nrfs ds = true) : frzs S n ds = ds := by unfold frzs; rw [if_pos (belows_nrf n ds h)]
theorem frzO_nrf {S : Sto} {n : Nat} {d : D} (h : nrf d = true) : frzO S n d = d := by
  cases d with
  | lst ds => simp only [nrf] at h; simp only [frzO, frzs_nrf h]
  | dK ks ds => simp only [nrf] at h; simp only [frzO, frzs_nrf h]
  | dT ks ds => simp only [nrf] at h; simp only [frzO, frzs_nrf h]
  | ins m fs ds => simp only [nrf] at h; simp only [frzO, frzs_nrf h]
  | _ => simp [frzO]
theorem nrfs_iff {ds : List D} : nrfs ds = true ↔ ∀ d ∈ ds, nrf d = true := by
  induction ds with
  | nil => simp [nrfs]
  | cons d ds ih => simp [nrfs, ih]
/-- a store of such objects -/
abbrev NR (S : Sto) : Prop := nrfs S = true
theorem gc_nr {n : Nat} {S : Sto} (h : NR (S.take n)) : gcS n S = S.take n ∧ (gcS n S).all (below n) = true := by
  have e : gcS n S = S.take n := by
    unfold gcS
    conv => rhs; rw [← List.map_id (S.take n)]
    exact List.map_congr_left fun d hd => frzO_nrf (nrfs_iff.mp h d hd)
  refine ⟨e, ?_⟩
  rw [e, List.all_eq_true]
  exact fun d hd => below_nrf n d (nrfs_iff.mp h d hd)
theorem NR.take {S : Sto} (h : NR S) (n : Nat) : NR (S.take n) := nrfs_iff.mpr fun d hd => nrfs_iff.mp h d (List.mem_of_mem_take hd)
theorem NR.get {S : Sto} (h : NR S) {n : Nat} {d : D} (e : S[n]? = some d) : nrf d = true := nrfs_iff.mp h d (List.mem_of_getElem? e)
theorem NR.set {S : Sto} (h : NR S) (n : Nat) {d : D} (hd : nrf d = true) : NR (S.set n d) := nrfs_iff.mpr fun e he => by
  rcases List.mem_or_eq_of_mem_set he with h1 | h1
  · exact nrfs_iff.mp h e h1
  · subst h1; exact hd
theorem NR.app {S T : Sto} (h : NR S) (g : NR T) : NR (S ++ T) := nrfs_iff.mpr fun e he => by
  rcases List.mem_append.mp he with h1 | h1
  · exact nrfs_iff.mp h e h1
  · exact nrfs_iff.mp g e h1
theorem nrfs_strs (xs : List Str) : nrfs (xs.map D.str) = true := nrfs_iff.mpr fun d hd => by
  obtain ⟨x, _, rfl⟩ := List.mem_map.mp hd
  simp [nrf]
theorem nrfs_ints (xs : List Int) : nrfs (xs.map D.int) = true := nrfs_iff.mpr fun d hd => by
  obtain ⟨x, _, rfl⟩ := List.mem_map.mp hd
  simp [nrf]
/-! ### defs -/
/-- what a def's end asks -/
def finP (own : Bool) (n : Nat) (P : D → Sto → Prop) : Fl → Sto → Prop := fun f S => match f with
  | .ret d => if own = true then (∃ k o, d = .ref k ∧ S[k]? = some o ∧ n ≤ k ∧ nrf o = true ∧ NR (S.take n) ∧ P (.ref n) (S.take n ++ [o])) else nrf d = true ∧ NR (S.take n) ∧ P d (S.take n)
  | .nx _ => NR (S.take n) ∧ P .non (S.take n)
  | _ => False
theorem okm_run {own : Bool} {N : List Str} {np : Nat} {ms : MS} {ds : List D} {S : Sto} {P : D → Sto → Prop} (hl : ds.length = np) (h : Okm (ms (startR N ds)) S (finP own S.length P)) : Okm (runF own N np ms ds) S P := by
  obtain ⟨f, S1, e, p⟩ := h
  unfold runF
  cases f with
  | ret d =>
    unfold finP at p
    by_cases ho : own = true
    · simp only [ho, if_true] at p
      obtain ⟨k, o, rfl, hk, hn, no, nr, p⟩ := p
      refine ⟨.ref S.length, S1.take S.length ++ [o], ?_, p⟩
      simp only [hl, e, finD, ho, if_true, hk]
      have hb : (Nat.ble S.length k && below S.length o && (S1.take S.length).all (below S.length)) = true := by
        simp only [Bool.and_eq_true, List.all_eq_true]
        exact ⟨⟨by simpa using hn, below_nrf _ _ no⟩, fun d hd => below_nrf _ _ (nrfs_iff.mp nr d hd)⟩
      simp only [hb, if_true]
    · simp only [ho] at p
      obtain ⟨nd, nr, p⟩ := p
      refine ⟨d, S1.take S.length, ?_, p⟩
      obtain ⟨g1, g2⟩ := gc_nr nr
      simp only [hl, if_true, e, finD, ho]
      rw [frz_nrf nd, below_nrf _ _ nd, g2, g1]; rfl
  | nx ρ1 =>
    obtain ⟨nr, p⟩ := p
    refine ⟨.non, S1.take S.length, ?_, p⟩
    obtain ⟨g1, g2⟩ := gc_nr nr
    simp only [hl, if_true, e, finD]
    have nd : nrf .non = true := by simp [nrf]
    rw [frz_nrf nd, below_nrf _ _ nd, g2, g1]; rfl
  | bk ρ1 => exact p.elim
  | ct ρ1 => exact p.elim
  | xc ρ1 x => exact p.elim
/-! ### stores put together -/
section
variable {S T : Sto} {n j : Nat} {p d : D}
theorem sg_0 : (S ++ T)[S.length]? = T[0]? := by rw [List.getElem?_append_right (Nat.le_refl _), Nat.sub_self]
theorem sg_j : (S ++ T)[S.length + j]? = T[j]? := by rw [List.getElem?_append_right (Nat.le_add_right _ _)]; simp
theorem sg_n (h : n < S.length) : (S ++ T)[n]? = S[n]? := List.getElem?_append_left h
theorem sg_set0 : (S.set n p ++ T)[S.length]? = T[0]? := by
  have := sg_0 (S := S.set n p) (T := T); rwa [List.length_set] at this
theorem sg_setj : (S.set n p ++ T)[S.length + j]? = T[j]? := by
  have := sg_j (S := S.set n p) (T := T) (j := j); rwa [List.length_set] at this
theorem sw_0 : (S ++ T).set S.length d = S ++ T.set 0 d := by rw [List.set_append_right _ _ (Nat.le_refl _), Nat.sub_self]
theorem sw_j : (S ++ T).set (S.length + j) d = S ++ T.set j d := by rw [List.set_append_right _ _ (Nat.le_add_right _ _)]; simp
theorem sw_n (h : n < S.length) : (S ++ T).set n d = S.set n d ++ T := List.set_append_left _ _ h
theorem sw_set0 : (S.set n p ++ T).set S.length d = S.set n p ++ T.set 0 d := by
  have := sw_0 (S := S.set n p) (T := T) (d := d); rwa [List.length_set] at this
theorem sw_setj : (S.set n p ++ T).set (S.length + j) d = S.set n p ++ T.set j d := by
  have := sw_j (S := S.set n p) (T := T) (j := j) (d := d); rwa [List.length_set] at this
theorem st_take : (S ++ T).take S.length = S := by simp
theorem st_takeS : (S.set n p ++ T).take S.length = S.set n p := by
  have := st_take (S := S.set n p) (T := T); rwa [List.length_set] at this
end
end CR

/-! CrP2: operators on data, as rewriting rules. -/
namespace CR
open PySem PySem.Spec L2
section
variable {S : Sto} {P : D → Sto → Prop} {Q : Bool → Sto → Prop} {F G : Fl → Sto → Prop} {R : Rho → Sto → Prop} {ρ : Rho} {a b : Int} {x y : Str} {n : Nat} {ds es : List D} {d e : D} {k l : Bool}
@[simp] theorem okm_v0 {r : Rho} : Okm (eVar 0 (some d :: r)) S P ↔ P d S := okm_var rfl
@[simp] theorem okm_vs {i : Nat} {o : Option D} {r : Rho} : Okm (eVar (i + 1) (o :: r)) S P ↔ Okm (eVar i r) S P := Iff.rfl
@[simp] theorem nxt_nx : nxt R F (.nx ρ) S = R ρ S := rfl
@[simp] theorem nxt_ret : nxt R F (.ret d) S = F (.ret d) S := rfl
@[simp] theorem nxt_bk : nxt R F (.bk ρ) S = F (.bk ρ) S := rfl
@[simp] theorem nxt_ct : nxt R F (.ct ρ) S = F (.ct ρ) S := rfl
@[simp] theorem finP_ret : finP false n P (.ret d) S = (nrf d = true ∧ NR (S.take n) ∧ P d (S.take n)) := by simp [finP]
@[simp] theorem finP_own : finP true n P (.ret d) S = (∃ k o, d = .ref k ∧ S[k]? = some o ∧ n ≤ k ∧ nrf o = true ∧ NR (S.take n) ∧ P (.ref n) (S.take n ++ [o])) := by simp [finP]
@[simp] theorem finP_nx {o : Bool} : finP o n P (.nx ρ) S = (NR (S.take n) ∧ P .non (S.take n)) := rfl
theorem opt1_some {α : Type} {f : Sto → Option α} {z : α} {P : α → Sto → Prop} (h : f S = some z) : Okm (opt f) S P ↔ P z S := by
  rw [okm_opt]; exact ⟨fun ⟨a, e, p⟩ => by rw [h] at e; cases e; exact p, fun p => ⟨z, h, p⟩⟩
theorem opt_ite {α : Type} {f : Sto → Option α} {z : α} {c : Prop} [Decidable c] {P : α → Sto → Prop} (h : f S = if c then some z else none) : Okm (opt f) S P ↔ c ∧ P z S := by
  rw [okm_opt, h]
  by_cases hc : c
  · simp [hc]
  · simp [hc]
@[simp] theorem add_ii : Okm (mAdd (.int a) (.int b)) S P ↔ P (.int (a + b)) S := opt1_some rfl
@[simp] theorem add_ss : Okm (mAdd (.str x) (.str y)) S P ↔ fits (x.length + y.length) = true ∧ P (.str (x ++ y)) S := opt_ite rfl
@[simp] theorem add_tt : Okm (mAdd (.tup ds) (.tup es)) S P ↔ fits (ds.length + es.length) = true ∧ P (.tup (ds ++ es)) S := opt_ite rfl
@[simp] theorem add_ll : Okm (mAdd (.lst ds) (.lst es)) S P ↔ fits (ds.length + es.length) = true ∧ P (.lst (ds ++ es)) S := opt_ite rfl
@[simp] theorem sub_ii : Okm (mSub (.int a) (.int b)) S P ↔ P (.int (a - b)) S := opt1_some rfl
@[simp] theorem mod_ii : Okm (mMod (.int a) (.int b)) S P ↔ 0 < b ∧ P (.int (a % b)) S := by
  unfold mMod
  refine (opt_ite (c := cMod a b = true) (z := .int (a % b)) rfl).trans ?_
  simp [cMod]
@[simp] theorem fdiv_ii : Okm (mFdiv (.int a) (.int b)) S P ↔ (0 < b ∧ b < 1073741824) ∧ P (.int (a / b)) S := by
  unfold mFdiv
  refine (opt_ite (c := cDiv a b = true) (z := .int (a / b)) rfl).trans ?_
  simp [cDiv]
@[simp] theorem mul_ii : Okm (mMul (.int a) (.int b)) S P ↔ ((-(2 ^ 64) < a ∧ a < 2 ^ 64) ∨ (-(2 ^ 64) < b ∧ b < 2 ^ 64)) ∧ P (.int (a * b)) S := by
  unfold mMul
  refine (opt_ite (c := cMul a b = true) (z := .int (a * b)) rfl).trans ?_
  simp only [cMul, Bool.or_eq_true, Bool.and_eq_true, decide_eq_true_eq]
@[simp] theorem pow_ii : Okm (mPow (.int a) (.int b)) S P ↔ cPow a b = true ∧ P (.int (a ^ b.toNat)) S := opt_ite rfl
@[simp] theorem neg_i : Okm (mNeg (.int a)) S P ↔ P (.int (-a)) S := opt1_some rfl
@[simp] theorem lt_ii : Okm (mLt (.int a) (.int b)) S P ↔ P (.bl (decide (a < b))) S := opt1_some rfl
@[simp] theorem le_ii : Okm (mLe (.int a) (.int b)) S P ↔ P (.bl (decide (a ≤ b))) S := opt1_some rfl
@[simp] theorem gt_ii : Okm (mGt (.int a) (.int b)) S P ↔ P (.bl (decide (b < a))) S := opt1_some rfl
@[simp] theorem ge_ii : Okm (mGe (.int a) (.int b)) S P ↔ P (.bl (decide (b ≤ a))) S := opt1_some rfl
@[simp] theorem lt_ss : Okm (mLt (.str x) (.str y)) S P ↔ P (.bl (strLt x y)) S := opt1_some rfl
@[simp] theorem eq_ii : Okm (mEq (.int a) (.int b)) S P ↔ P (.bl (a == b)) S := opt1_some rfl
@[simp] theorem ne_ii : Okm (mNe (.int a) (.int b)) S P ↔ P (.bl (!(a == b))) S := opt1_some rfl
@[simp] theorem eq_ss : Okm (mEq (.str x) (.str y)) S P ↔ P (.bl (x == y)) S := opt1_some rfl
@[simp] theorem ne_ss : Okm (mNe (.str x) (.str y)) S P ↔ P (.bl (!(x == y))) S := opt1_some rfl
@[simp] theorem eq_bb : Okm (mEq (.bl k) (.bl l)) S P ↔ P (.bl (k == l)) S := opt1_some rfl
@[simp] theorem is_bb : Okm (mIs (.bl k) (.bl l)) S P ↔ P (.bl (decide (k = l))) S := opt1_some rfl
@[simp] theorem tru_b : Okm (mTru (.bl k)) S Q ↔ Q k S := opt1_some rfl
@[simp] theorem tru_i : Okm (mTru (.int a)) S Q ↔ Q (a != 0) S := opt1_some rfl
@[simp] theorem len_s : Okm (mLen [.str x]) S P ↔ fits x.length = true ∧ P (.int x.length) S := opt_ite rfl
@[simp] theorem len_t : Okm (mLen [.tup ds]) S P ↔ P (.int ds.length) S := by unfold mLen opt1; exact opt1_some rfl
@[simp] theorem len_l : Okm (mLen [.lst ds]) S P ↔ P (.int ds.length) S := by unfold mLen opt1; exact opt1_some rfl
@[simp] theorem len_f : Okm (mLen [.fz ds]) S P ↔ P (.int ds.length) S := by unfold mLen opt1; exact opt1_some rfl
theorem len_r (h : S[n]? = some (.lst ds)) : Okm (mLen [.ref n]) S P ↔ P (.int ds.length) S := opt1_some (by simp [lenD, seqOf, listOf, h])
@[simp] theorem abs_i : Okm (mAbs [.int a]) S P ↔ P (.int (if a < 0 then -a else a)) S := by unfold mAbs opt1; exact opt1_some rfl
@[simp] theorem min_ii : Okm (opt2 min2D [.int a, .int b]) S P ↔ P (.int (if b < a then b else a)) S := opt1_some rfl
@[simp] theorem max_ii : Okm (opt2 max2D [.int a, .int b]) S P ↔ P (.int (if b > a then b else a)) S := opt1_some rfl
@[simp] theorem divmod_ii : Okm (opt2 divmodD [.int a, .int b]) S P ↔ (0 < b ∧ b < 1073741824) ∧ P (.tp [.int (a / b), .int (a % b)]) S := by
  refine (opt_ite (c := cDiv a b = true) (z := .tp [.int (a / b), .int (a % b)]) rfl).trans ?_
  simp [cDiv]
@[simp] theorem int_i : Okm (opt1 intD [.int a]) S P ↔ P (.int a) S := opt1_some rfl
@[simp] theorem int_b : Okm (opt1 intD [.bl k]) S P ↔ P (.int (if k then 1 else 0)) S := opt1_some rfl
@[simp] theorem tuple_l : Okm (opt1 tupleF [.lst ds]) S P ↔ P (.tup ds) S := opt1_some rfl
@[simp] theorem tuple_t : Okm (opt1 tupleF [.tup ds]) S P ↔ P (.tup ds) S := opt1_some rfl
@[simp] theorem tuple_s : Okm (opt1 tupleF [.str x]) S P ↔ fits x.length = true ∧ P (.tup (signsD x)) S := opt_ite rfl
theorem tuple_r (h : S[n]? = some (.lst ds)) : Okm (opt1 tupleF [.ref n]) S P ↔ P (.tup ds) S := opt1_some (by simp [tupleF, tupleD, listOf, h])
@[simp] theorem list_t : Okm (opt1 listG [.tup ds]) S P ↔ P (.lst ds) S := opt1_some rfl
@[simp] theorem list_l : Okm (opt1 listG [.lst ds]) S P ↔ P (.lst ds) S := opt1_some rfl
theorem alloc_some {f : Sto → D → Option (List D)} (h : f S d = some ds) : Okm (allocL f [d]) S P ↔ P (.ref S.length) (S ++ [.lst ds]) := by
  constructor
  · rintro ⟨a, S', e, p⟩
    simp only [allocL, h] at e; cases e; exact p
  · intro p; exact ⟨_, _, by simp only [allocL, h], p⟩
@[simp] theorem listM_t : Okm (allocL listF [.tup ds]) S P ↔ P (.ref S.length) (S ++ [.lst ds]) := alloc_some rfl
@[simp] theorem listM_l : Okm (allocL listF [.lst ds]) S P ↔ P (.ref S.length) (S ++ [.lst ds]) := alloc_some rfl
theorem listM_s (h : fits x.length = true) : Okm (allocL listF [.str x]) S P ↔ P (.ref S.length) (S ++ [.lst (signsD x)]) := alloc_some (by simp [listF, h])
theorem ix_some {z : D} (h : ixD S d e = some z) : Okm (mIx d e) S P ↔ P z S := opt1_some h
theorem ix_l (h : atI ds a = some d) : Okm (mIx (.lst ds) (.int a)) S P ↔ P d S := opt1_some (by simp [ixD, seqOf, listOf, h])
theorem ix_t (h : atI ds a = some d) : Okm (mIx (.tup ds) (.int a)) S P ↔ P d S := opt1_some (by simp [ixD, seqOf, listOf, tupOf, h])
theorem ix_f (h : atI ds a = some d) : Okm (mIx (.fz ds) (.int a)) S P ↔ P d S := opt1_some (by simp [ixD, seqOf, listOf, h])
theorem ix_r (h : S[n]? = some (.lst ds)) (g : atI ds a = some d) : Okm (mIx (.ref n) (.int a)) S P ↔ P d S := opt1_some (by simp [ixD, seqOf, listOf, h, g])
theorem ix_s {k : Nat} (h : fits x.length = true) (g : atI x.cps.toList a = some k) : Okm (mIx (.str x) (.int a)) S P ↔ P (.str ⟨#[k]⟩) S := opt1_some (by simp [ixD, h, g])
theorem atI_nat {α : Type} {xs : List α} {i : Nat} {x : α} (h : xs[i]? = some x) : atI xs (i : Int) = some x := by
  have hl := (List.getElem?_eq_some_iff.mp h).1
  unfold atI ixN
  have h1 : (0 : Int) ≤ (i : Int) := by omega
  have h2 : (i : Int) < xs.length := by omega
  simp [h1, h2, h]
theorem atI_int {α : Type} {xs : List α} {i : Int} {x : α} (h0 : 0 ≤ i) (h : xs[i.toNat]? = some x) : atI xs i = some x := by
  have := atI_nat h
  rwa [Int.toNat_of_nonneg h0] at this
/-- o[i] = v -/
theorem setL_r {Q : Unit → Sto → Prop} {j : Nat} {v : D} (h : S[n]? = some (.lst ds)) (g : ixN ds.length a = some j) : Okm (mSetL (.ref n) (.int a) v) S Q ↔ Q () (S.set n (.lst (ds.set j v))) := by
  have e : lrefOf S (.ref n) = some (n, ds) := by simp [lrefOf, h]
  constructor
  · rintro ⟨_, S', q, p⟩
    simp only [mSetL, e, g] at q; cases q; exact p
  · intro p; exact ⟨(), _, by simp only [mSetL, e, g], p⟩
theorem append_r {v : D} (h : S[n]? = some (.lst ds)) (g : ds.length < sizeLine) : Okm (mAppend (.ref n) [v]) S P ↔ P .non (S.set n (.lst (ds ++ [v]))) := by
  have e : lrefOf S (.ref n) = some (n, ds) := by simp [lrefOf, h]
  have g' : Nat.blt ds.length sizeLine = true := by simpa using g
  constructor
  · rintro ⟨_, S', q, p⟩
    simp only [mAppend, e, g', if_true] at q; cases q; exact p
  · intro p; exact ⟨.non, _, by simp only [mAppend, e, g', if_true], p⟩
theorem noExc_iff {α : Type} {m : M α} {P : α → Sto → Prop} : Okm (noExc m) S P ↔ Okm m S P := by
  constructor
  · rintro ⟨z, S', q, p⟩
    unfold noExc at q
    cases e : m S with
    | ok a S1 => rw [e] at q; cases q; exact ⟨_, _, e, p⟩
    | exc x S1 => rw [e] at q; cases q
    | bad => rw [e] at q; cases q
  · rintro ⟨z, S', q, p⟩
    exact ⟨z, S', by unfold noExc; rw [q], p⟩
@[simp] theorem okm_gsub {mo mi : Rho → M D} {stm : D → D → D → M Unit} : Okm (gSubM mo mi stm d ρ) S R ↔ Okm (mo ρ) S fun o S1 => Okm (mi ρ) S1 fun i S2 => Okm (stm o i d) S2 fun _ S3 => R ρ S3 := by
  unfold gSubM; simp only [okm_bind, noExc_iff, okm_pure]
theorem okm_gtup {gs : List D → Rho → M Rho} (h : seqOf S d = some ds) (g : ds.length = n) : Okm (gTupM n gs d ρ) S R ↔ Okm (gs ds ρ) S R := by
  unfold Okm gTupM; simp only [h, g, if_true]
@[simp] theorem okm_gtp {gs : List D → Rho → M Rho} : Okm (gTupM n gs (.tp ds) ρ) S R ↔ ds.length = n ∧ Okm (gs ds ρ) S R := by
  by_cases g : ds.length = n
  · rw [okm_gtup (ds := ds) rfl g]; simp [g]
  · unfold Okm gTupM; simp [seqOf, listOf, tupOf, g]
@[simp] theorem okm_gtu {gs : List D → Rho → M Rho} : Okm (gTupM n gs (.tup ds) ρ) S R ↔ ds.length = n ∧ Okm (gs ds ρ) S R := by
  by_cases g : ds.length = n
  · rw [okm_gtup (ds := ds) rfl g]; simp [g]
  · unfold Okm gTupM; simp [seqOf, listOf, tupOf, g]
@[simp] theorem okm_gcons {g : D → Rho → M Rho} {gs : List D → Rho → M Rho} : Okm (gsCons g gs (d :: ds) ρ) S R ↔ Okm (g d ρ) S fun ρ1 S1 => Okm (gs ds ρ1) S1 R := by unfold gsCons; simp only [okm_bind]
@[simp] theorem okm_gnil : Okm (gsNil [] ρ) S R ↔ R ρ S := by unfold gsNil; simp only [okm_pure]
@[simp] theorem isL_r (h : S[n]? = some (.lst ds)) : isL (.ref n) S = true := by simp [isL, listOf, h]
@[simp] theorem isS_s : isS (.str x) S = true := rfl
@[simp] theorem okm_rng1 {b : Int} {Q : Src × List D → Sto → Prop} : Okm (rng1 [.int b]) S Q ↔ smallI b = true ∧ Q (none, rangeL 0 b) S := by
  unfold rng1; rw [okm_ite]; simp only [okm_pure, okm_bad]; simp only [if_false_right]
@[simp] theorem okm_rng2 {a b : Int} {Q : Src × List D → Sto → Prop} : Okm (rng2 [.int a, .int b]) S Q ↔ (smallI a && smallI b) = true ∧ Q (none, rangeL a b) S := by
  unfold rng2; rw [okm_ite]; simp only [okm_pure, okm_bad]; simp only [if_false_right]
@[simp] theorem okm_iRg {f : List D → M (Src × List D)} {m : Rho → M (List D)} {Q : Src × List D → Sto → Prop} : Okm (iRg f m ρ) S Q ↔ Okm (m ρ) S fun ds S1 => Okm (f ds) S1 Q := okm_bind
end
end CR

/-! CrP3: what is walked, comprehensions. -/
namespace CR
open PySem PySem.Spec L2
section
variable {S : Sto} {P : D → Sto → Prop} {ρ : Rho} {x : Str} {n : Nat} {ds : List D} {d : D} {Q : Src × List D → Sto → Prop}
@[simp] theorem okm_iSeq {m : Rho → M D} : Okm (iSeq m ρ) S Q ↔ Okm (m ρ) S fun d S1 => Okm (itemsD d) S1 Q := okm_bind
@[simp] theorem items_t : Okm (itemsD (.tup ds)) S Q ↔ Q (none, ds) S := ⟨fun ⟨_, _, e, p⟩ => by cases e; exact p, fun p => ⟨_, _, rfl, p⟩⟩
@[simp] theorem items_l : Okm (itemsD (.lst ds)) S Q ↔ Q (none, ds) S := ⟨fun ⟨_, _, e, p⟩ => by cases e; exact p, fun p => ⟨_, _, rfl, p⟩⟩
@[simp] theorem items_f : Okm (itemsD (.fz ds)) S Q ↔ Q (none, ds) S := ⟨fun ⟨_, _, e, p⟩ => by cases e; exact p, fun p => ⟨_, _, rfl, p⟩⟩
@[simp] theorem items_s : Okm (itemsD (.str x)) S Q ↔ Q (none, chars x) S := ⟨fun ⟨_, _, e, p⟩ => by cases e; exact p, fun p => ⟨_, _, rfl, p⟩⟩
theorem items_r (h : S[n]? = some (.lst ds)) : Okm (itemsD (.ref n)) S Q ↔ Q (some n, ds) S := by
  constructor
  · rintro ⟨_, _, e, p⟩
    simp only [itemsD, h] at e; cases e; exact p
  · intro p; exact ⟨_, _, by simp only [itemsD, h], p⟩
theorem rangeL_get {k : Nat} {lo hi : Int} : (rangeL lo hi)[k]? = if (k : Int) < hi - lo then some (.int (lo + k)) else none := by
  unfold rangeL
  rw [List.getElem?_map]
  by_cases h : (k : Int) < hi - lo
  · rw [if_pos h, List.getElem?_range (by omega)]; rfl
  · rw [if_neg h, List.getElem?_eq_none (by simp; omega)]; rfl
theorem rangeL_len {lo hi : Int} : (rangeL lo hi).length = (hi - lo).toNat := by simp [rangeL]
@[simp] theorem guard_none : guard none ds S = True := rfl
/-- a comprehension: Iv k acc B: ahead of place k, acc gathered, B the store -/
theorem okm_compL {src : Src} {all : List D} {gm : D → Rho → Option Rho} {t : Rho → M Bool} {e : Rho → M D} {ρw : Rho} {n : Nat} (Iv : Nat → List D → Sto → Prop)
    (inv0 : ∀ k acc B, Iv k acc B → B.length = n ∧ NR B ∧ nrfs acc = true ∧ acc.length ≤ k ∧ ∀ T, guard src all (B ++ T))
    (hsz : all.length < sizeLine)
    (step : ∀ (k : Nat) (d : D) (acc : List D) (B : Sto), all[k]? = some d → Iv k acc B → ∃ ρ1, gm d ρw = some ρ1 ∧ Okm (t ρ1) (B ++ [.lst acc]) fun b S1 =>
      if b = true then Okm (e ρ1) S1 fun y S2 => nrf y = true ∧ ∃ B' J, S2 = B' ++ [.lst acc] ++ J ∧ Iv (k + 1) (acc ++ [y]) B' else ∃ B' J, S1 = B' ++ [.lst acc] ++ J ∧ Iv (k + 1) acc B') :
    ∀ (m k : Nat) (acc : List D) (B : Sto), all.length - k = m → k ≤ all.length → Iv k acc B → ∃ acc' B', compL true src all gm t e ρw n (all.drop k) (B ++ [.lst acc]) = .ok () (B' ++ [.lst acc']) ∧ Iv all.length acc' B' := by
  have cut : ∀ (y : D) (acc : List D) (B J : Sto), B.length = n → NR B → nrfs acc = true → nrf y = true → cutAt true (n + 1) y (B ++ [.lst acc] ++ J) = some (y, B ++ [.lst acc]) := by
    intro y acc B J hl hB ha hy
    have e1 : (B ++ [D.lst acc] ++ J).take (n + 1) = B ++ [.lst acc] := by
      have : (B ++ [D.lst acc]).length = n + 1 := by simp [hl]
      rw [← this, List.take_left']; rfl
    have nr : NR ((B ++ [D.lst acc] ++ J).take (n + 1)) := by
      rw [e1]
      refine hB.app ?_
      show nrfs [D.lst acc] = true
      simp only [nrfs, nrf, ha, Bool.and_true]
    obtain ⟨g1, g2⟩ := gc_nr nr
    unfold cutAt
    rw [if_pos rfl, frz_nrf hy, below_nrf _ _ hy, g2, g1, e1]; rfl
  intro m
  induction m with
  | zero =>
    intro k acc B hm hk inv
    have ek : k = all.length := by omega
    subst ek
    refine ⟨acc, B, ?_, inv⟩
    rw [List.drop_length]
    unfold compL
    rw [if_pos ((inv0 _ _ _ inv).2.2.2.2 _)]
  | succ m ih =>
    intro k acc B hm hk inv
    have hlt : k < all.length := by omega
    obtain ⟨hl, hB, ha, hak, hg⟩ := inv0 _ _ _ inv
    obtain ⟨ρ1, e1, b, S1, e2, h⟩ := step k all[k] acc B (List.getElem?_eq_getElem hlt) inv
    rw [List.drop_eq_getElem_cons hlt]
    cases b with
    | false =>
      simp only [Bool.false_eq_true, if_false] at h
      obtain ⟨B', J, rfl, inv'⟩ := h
      obtain ⟨hl', hB', ha', _, _⟩ := inv0 _ _ _ inv'
      obtain ⟨acc2, B2, e3, inv2⟩ := ih (k + 1) acc B' (by omega) hlt inv'
      refine ⟨acc2, B2, ?_, inv2⟩
      unfold compL
      rw [if_pos (hg _)]
      simp only [e1, e2]
      rw [cut .non acc B' J hl' hB' ha' (by simp [nrf])]
      exact e3
    | true =>
      simp only [if_true] at h
      obtain ⟨y, S2, e4, hy, B', J, rfl, inv'⟩ := h
      obtain ⟨hl', hB', ha', hal, _⟩ := inv0 _ _ _ inv'
      obtain ⟨acc2, B2, e3, inv2⟩ := ih (k + 1) (acc ++ [y]) B' (by omega) hlt inv'
      refine ⟨acc2, B2, ?_, inv2⟩
      unfold compL
      rw [if_pos (hg _)]
      simp only [e1, e2, e4]
      rw [cut y acc B' J hl' hB' ha hy]
      simp only
      have e5 : pushAt n y (B' ++ [.lst acc]) = .ok () (B' ++ [.lst (acc ++ [y])]) := by
        unfold pushAt
        have e6 : (B' ++ [D.lst acc])[n]? = some (.lst acc) := by rw [← hl', List.getElem?_append_right (Nat.le_refl _)]; simp
        have e7 : Nat.blt acc.length sizeLine = true := by simp; omega
        simp only [e6, e7, if_true]
        congr 1
        rw [← hl', List.set_append_right _ _ (Nat.le_refl _)]; simp
      simp only [e5]
      exact e3
theorem okm_comp {mi : Rho → M (Src × List D)} {vs : List Nat} {gm : D → Rho → Option Rho} {t : Rho → M Bool} {e : Rho → M D}
    (h : Okm (mi ρ) S fun p S0 => p.2.length < sizeLine ∧ ∃ Iv : Nat → List D → Sto → Prop, Iv 0 [] S0 ∧
      (∀ k acc B, Iv k acc B → B.length = S0.length ∧ NR B ∧ nrfs acc = true ∧ acc.length ≤ k ∧ ∀ T, guard p.1 p.2 (B ++ T)) ∧
      (∀ (k : Nat) (d : D) (acc : List D) (B : Sto), p.2[k]? = some d → Iv k acc B → ∃ ρ1, gm d (wipeR ρ vs) = some ρ1 ∧ Okm (t ρ1) (B ++ [.lst acc]) fun b S1 =>
        if b = true then Okm (e ρ1) S1 fun y S2 => nrf y = true ∧ ∃ B' J, S2 = B' ++ [.lst acc] ++ J ∧ Iv (k + 1) (acc ++ [y]) B' else ∃ B' J, S1 = B' ++ [.lst acc] ++ J ∧ Iv (k + 1) acc B') ∧
      ∀ acc B, Iv p.2.length acc B → P (.lst acc) B) : Okm (eComp true false mi vs gm t e ρ) S P := by
  unfold eComp
  rw [okm_bind]
  refine h.mono fun p S0 ⟨hsz, Iv, h0, inv0, step, fin⟩ => ?_
  obtain ⟨acc, B, e1, inv⟩ := okm_compL Iv inv0 hsz step p.2.length 0 [] S0 rfl (Nat.zero_le _) h0
  obtain ⟨hl, hB, ha, _, _⟩ := inv0 _ _ _ inv
  rw [List.drop_zero] at e1
  refine ⟨.lst acc, B, ?_, fin acc B inv⟩
  simp only [e1]
  unfold endA
  have e6 : (B ++ [D.lst acc])[S0.length]? = some (.lst acc) := by rw [← hl, List.getElem?_append_right (Nat.le_refl _)]; simp
  have e7 : (B ++ [D.lst acc]).take S0.length = B := by rw [← hl]; simp
  have nr : NR ((B ++ [D.lst acc]).take S0.length) := by rw [e7]; exact hB
  obtain ⟨g1, g2⟩ := gc_nr nr
  simp only [e6]
  rw [belows_nrf _ _ ha, g2, g1, e7]; simp
/-- a comprehension that changes nothing: ys the items that are taken, each by itself -/
theorem okm_compP {mi : Rho → M (Src × List D)} {vs : List Nat} {gm : D → Rho → Option Rho} {t : Rho → M Bool} {e : Rho → M D} (f : D → Option D)
    (h : Okm (mi ρ) S fun p S0 => p.2.length < sizeLine ∧ NR S0 ∧ (∀ T, guard p.1 p.2 (S0 ++ T)) ∧
      (∀ d ∈ p.2, ∃ ρ1, gm d (wipeR ρ vs) = some ρ1 ∧ ∀ acc, nrfs acc = true → Okm (t ρ1) (S0 ++ [.lst acc]) fun b S1 => S1 = S0 ++ [.lst acc] ∧
        if b = true then ∃ y, f d = some y ∧ nrf y = true ∧ Okm (e ρ1) (S0 ++ [.lst acc]) fun z S2 => z = y ∧ ∃ J, S2 = S0 ++ [.lst acc] ++ J else f d = none) ∧
      P (.lst (p.2.filterMap f)) S0) : Okm (eComp true false mi vs gm t e ρ) S P := by
  refine okm_comp (h.mono fun p S0 ⟨hsz, nr, hg, each, fin⟩ => ⟨hsz, fun k acc B => B = S0 ∧ acc = (p.2.take k).filterMap f ∧ nrfs acc = true ∧ acc.length ≤ k, ⟨rfl, rfl, rfl, Nat.le_refl _⟩, ?_, ?_, ?_⟩)
  · rintro k acc B ⟨rfl, _, h1, h2⟩
    exact ⟨rfl, nr, h1, h2, hg⟩
  · rintro k d acc B hk ⟨rfl, ea, h1, h2⟩
    obtain ⟨ρ1, e1, h3⟩ := each d (List.mem_of_getElem? hk)
    have hlt := (List.getElem?_eq_some_iff.mp hk).1
    have et : (p.2.take (k + 1)).filterMap f = acc ++ (match f d with | some y => [y] | none => []) := by
      rw [List.take_succ, hk, List.filterMap_append, ← ea]
      congr 1
      show List.filterMap f [d] = _
      cases q : f d with
      | none => rw [List.filterMap_cons, q]; rfl
      | some y => rw [List.filterMap_cons, q]; rfl
    refine ⟨ρ1, e1, (h3 acc h1).mono fun b S1 ⟨q1, q2⟩ => ?_⟩
    subst q1
    cases b with
    | false =>
      simp only [Bool.false_eq_true, if_false] at q2 ⊢
      exact ⟨B, [], by simp, rfl, by rw [et, q2]; simp, h1, by omega⟩
    | true =>
      simp only [if_true] at q2 ⊢
      obtain ⟨y, q3, q4, q5⟩ := q2
      refine q5.mono fun z S2 ⟨q6, J, q7⟩ => ?_
      subst q6
      exact ⟨q4, B, J, q7, rfl, by rw [et, q3], by rw [nrfs_iff]; intro d hd; rcases List.mem_append.mp hd with h | h; exact nrfs_iff.mp h1 d h; simp at h; subst h; exact q4, by simp; omega⟩
  · rintro acc B ⟨rfl, ea, _, _⟩
    rw [List.take_length] at ea
    rw [ea]; exact fin
end
end CR

/-! CrL: the helpers that most laws share, what they compute. The defs are printed by gen.py. -/
namespace CL
open PySem PySem.Spec CR
def N__law_cell : List Str := ["_law_script", "_law_k", "_law_state", "_law_item"]
def dd__law_cell : List D := []
noncomputable def d__law_cell : MS := (sSeq (sIf (tOf (eOp mLt (eVar 1) (eCallB mLen (aCons (eVar 0) aNil)))) (sRet (eOp mIx (eVar 0) (eVar 1))) sNext)
    (sSeq (sAsg (eOp mMod (eOp mMul (eCst (.int 80021)) (eOp mAdd (eOp mAdd (eOp mMul (eVar 1) (eVar 1)) (eOp mMul (eCst (.int 7)) (eVar 1))) (eCst (.int 11)))) (eCst (.int 2147483053))) (gNameM 2))
    (sSeq (sFor (iSeq (eSl (eVar 0) oNone (oSome (eCst (.int 3))))) (gNameM 3) (sAsg (eOp mMod (eOp mAdd (eOp mMul (eVar 2) (eCst (.int 43261))) (eVar 3)) (eCst (.int 2147483053))) (gNameM 2)))
    (sRet (eVar 2)))))
noncomputable def f__law_cell : List D → M D := runF false N__law_cell 2 d__law_cell
def N__law_pool : List Str := ["_law_item", "_law_digits"]
def dd__law_pool : List D := []
noncomputable def d__law_pool : MS := (sSeq (sAsg (eIfM (tOrM (tOf (eOp mLt (eVar 0) (eCst (.int 0)))) (tOf (eOp mGe (eVar 0) (eOp mPow (eCst (.int 10)) (eCst (.int 18)))))) (eCallB mAbs (aCons (eVar 0) aNil)) (eCst (.int 0))) (gNameM 1))
    (sRet (eLstM (aCons (eOp mMod (eVar 0) (eCst (.int 2147483053))) (aCons (eVar 1) (aCons (eCst (.int 0)) aNil))))))
noncomputable def f__law_pool : List D → M D := runF true N__law_pool 1 d__law_pool
def N__law_draw : List Str := ["_law_pool_here", "_law_most", "_law_state", "_law_digit"]
def dd__law_draw : List D := []
noncomputable def d__law_draw : MS := (sSeq (sAsg (eOp mAdd (eOp mIx (eVar 0) (eCst (.int 2))) (eCst (.int 1))) (gSubM (eVar 0) (eCst (.int 2)) mSetL))
    (sSeq (sAsg (eOp mIx (eVar 0) (eCst (.int 0))) (gNameM 2))
    (sSeq (sAsg (eOp mMod (eOp mAdd (eOp mMul (eVar 2) (eOp mAdd (eOp mMod (eVar 2) (eCst (.int 46021))) (eCst (.int 29027)))) (eOp mMul (eCst (.int 90011)) (eOp mIx (eVar 0) (eCst (.int 2))))) (eCst (.int 2147483053))) (gSubM (eVar 0) (eCst (.int 0)) mSetL))
    (sSeq (sIf (tOf (eOp mGt (eOp mIx (eVar 0) (eCst (.int 1))) (eCst (.int 0)))) (sSeq (sAsg (eCallB (opt2 divmodD) (aCons (eOp mIx (eVar 0) (eCst (.int 1))) (aCons (eVar 1) aNil))) (gTupM 2 (gsCons (gSubM (eVar 0) (eCst (.int 1)) mSetL) (gsCons (gNameM 3) gsNil))))
    (sRet (eVar 3))) sNext)
    (sRet (eOp mMod (eOp mFdiv (eOp mIx (eVar 0) (eCst (.int 0))) (eCst (.int 64))) (eVar 1)))))))
noncomputable def f__law_draw : List D → M D := runF false N__law_draw 2 d__law_draw
def N__law_mixed : List Str := ["_law_pool_here", "_law_some", "_law_turn", "_law_left", "_law_found"]
def dd__law_mixed : List D := []
noncomputable def d__law_mixed : MS := (sSeq (sPar 3 4 (aCons (eCallB (allocL listF) (aCons (eVar 1) aNil)) (aCons (eLstM aNil) aNil)))
    (sSeq (sFor (iRg rng1 (aCons (eCallB mLen (aCons (eVar 1) aNil)) aNil)) (gNameM 2) (sExpr (eMeth isL mAppend (eVar 4) (aCons (eMeth isL mPop (eVar 3) (aCons (eCallF f__law_draw 2 0 [.p 0, .p 1] dd__law_draw (aCons (eVar 0) (aCons (eCallB mLen (aCons (eVar 3) aNil)) aNil)) aNil) aNil)) aNil))))
    (sRet (eCallB (opt1 tupleF) (aCons (eVar 4) aNil)))))
noncomputable def f__law_mixed : List D → M D := runF false N__law_mixed 2 d__law_mixed
def N__law_things : List Str := ["_law_pool_here", "_law_many", "_law_own", "_law_stem", "_law_k", "_law_first", "_law_pace", "_law_letters", "_law_found", "_law_cut", "_law_begin", "_law_letter"]
def dd__law_things : List D := []
noncomputable def d__law_things : MS := (sSeq (sAsg (eLst (aCons (eCst (.str "add")) (aCons (eCst (.str "remove")) (aCons (eCst (.str "change")) (aCons (eCst (.str "rename")) (aCons (eCst (.str "merge")) (aCons (eCst (.str "undo")) (aCons (eCst (.str "names")) (aCons (eCst (.str "table")) (aCons (eCst (.str "row")) (aCons (eCst (.str "count")) aNil))))))))))) (gNameM 2))
    (sSeq (sAsg (eTup (aCons (eCallF f__law_draw 2 0 [.p 0, .p 1] dd__law_draw (aCons (eVar 0) (aCons (eCst (.int 10)) aNil)) aNil) (aCons (eOp mIx (eLst (aCons (eCst (.int 1)) (aCons (eCst (.int 3)) (aCons (eCst (.int 7)) (aCons (eCst (.int 9)) aNil))))) (eCallF f__law_draw 2 0 [.p 0, .p 1] dd__law_draw (aCons (eVar 0) (aCons (eCst (.int 4)) aNil)) aNil)) aNil))) (gTupM 2 (gsCons (gNameM 5) (gsCons (gNameM 6) gsNil))))
    (sSeq (sIf (tOf (eOp mEq (eCallF f__law_draw 2 0 [.p 0, .p 1] dd__law_draw (aCons (eVar 0) (aCons (eCst (.int 4)) aNil)) aNil) (eCst (.int 1)))) (sRet (eCallB (opt1 tupleF) (aCons (eCallB (opt1 sortD) (aCons (eComp true false (iRg rng1 (aCons (eVar 1) aNil)) [4] (gmName 4) tYesM (eOp mIx (eVar 2) (eOp mMod (eOp mAdd (eVar 5) (eOp mMul (eVar 6) (eVar 4))) (eCst (.int 10))))) aNil)) aNil))) sNext)
    (sSeq (sAsg (eTup (aCons (eCst (.str "abcdefghijklmnopqrstuvwxyz")) (aCons (eLstM aNil) aNil))) (gTupM 2 (gsCons (gNameM 7) (gsCons (gNameM 8) gsNil))))
    (sSeq (sAsg (eMeth isS mJoin (eCst (.str "")) (aCons (eComp true false (iRg rng1 (aCons (eCallF f__law_draw 2 0 [.p 0, .p 1] dd__law_draw (aCons (eVar 0) (aCons (eCst (.int 6)) aNil)) aNil) aNil)) [4] (gmName 4) tYesM (eOp mIx (eVar 7) (eCallF f__law_draw 2 0 [.p 0, .p 1] dd__law_draw (aCons (eVar 0) (aCons (eCst (.int 26)) aNil)) aNil))) aNil)) (gNameM 3))
    (sSeq (sPar 9 10 (aCons (eCallF f__law_draw 2 0 [.p 0, .p 1] dd__law_draw (aCons (eVar 0) (aCons (eOp mAdd (eCallB mLen (aCons (eVar 3) aNil)) (eCst (.int 1))) aNil)) aNil) (aCons (eCallF f__law_draw 2 0 [.p 0, .p 1] dd__law_draw (aCons (eVar 0) (aCons (eCst (.int 26)) aNil)) aNil) aNil)))
    (sSeq (sFor (iRg rng1 (aCons (eVar 1) aNil)) (gNameM 4) (sSeq (sAsg (eOp mIx (eVar 7) (eOp mMod (eOp mAdd (eVar 10) (eOp mMul (eVar 6) (eVar 4))) (eCst (.int 26)))) (gNameM 11))
    (sExpr (eMeth isL mAppend (eVar 8) (aCons (eOp mAdd (eOp mAdd (eSl (eVar 3) oNone (oSome (eVar 9))) (eVar 11)) (eSl (eVar 3) (oSome (eVar 9)) oNone)) aNil)))))
    (sRet (eCallB (opt1 tupleF) (aCons (eCallB (opt1 sortD) (aCons (eVar 8) aNil)) aNil))))))))))
noncomputable def f__law_things : List D → M D := runF false N__law_things 2 d__law_things
def N_is_name : List Str := ["value", "letter"]
def dd_is_name : List D := []
noncomputable def d_is_name : MS := (sSeq (sIf (tOrM (tNotM (tTru mTru (eUn (isiD "str") (eVar 0)))) (tNotM (tOf (eChain mLe mLe (eCst (.int 1)) (eCallB mLen (aCons (eVar 0) aNil)) (eCst (.int 6)))))) (sRet (eCst (.bl false))) sNext)
    (sRet (eCallB mAll (aCons (eComp true false (iSeq (eVar 0)) [1] (gmName 1) tYesM (eOp mIn (eVar 1) (eCst (.str "abcdefghijklmnopqrstuvwxyz")))) aNil))))
noncomputable def f_is_name : List D → M D := runF false N_is_name 1 d_is_name
end CL

namespace CL
open PySem PySem.Spec CR L2
def PoolD (p : D) : Prop := ∃ a b c : Int, p = .lst [.int a, .int b, .int c] ∧ 0 ≤ a ∧ a < 2147483053 ∧ 0 ≤ b
def PoolAt (S : Sto) (n : Nat) : Prop := ∃ p, S[n]? = some p ∧ PoolD p
theorem PoolD.nrf {p : D} (h : PoolD p) : nrf p = true := by
  obtain ⟨a, b, c, rfl, _⟩ := h
  rfl
theorem PoolAt.lt {S : Sto} {n : Nat} (h : PoolAt S n) : n < S.length := by
  obtain ⟨p, e, _⟩ := h
  exact (List.getElem?_eq_some_iff.mp e).1
theorem PoolAt.set {S : Sto} {n : Nat} {p : D} (h : n < S.length) (hp : PoolD p) : PoolAt (S.set n p) n := ⟨p, List.getElem?_set_self h, hp⟩
theorem PoolAt.app {S T : Sto} {n : Nat} (h : PoolAt S n) : PoolAt (S ++ T) n := by
  obtain ⟨p, e, hp⟩ := h
  exact ⟨p, by rw [List.getElem?_append_left (List.getElem?_eq_some_iff.mp e).1]; exact e, hp⟩
theorem ok_draw {S : Sto} {n : Nat} {m : Int} {P : D → Sto → Prop} (hp : PoolAt S n) (nr : NR S) (h0 : 0 < m) (h1 : m < 1073741824) (h : ∀ r p, 0 ≤ r → r < m → PoolD p → P (.int r) (S.set n p)) : Okm (f__law_draw [.ref n, .int m]) S P := by
  have hl := hp.lt
  obtain ⟨p, hS, a, b, cc, rfl, ha0, ha1, hb⟩ := hp
  refine okm_run rfl ?_
  have e0 : ∀ x y z : Int, (S.set n (.lst [.int x, .int y, .int z]))[n]? = some (.lst [.int x, .int y, .int z]) := fun x y z => List.getElem?_set_self hl
  simp only [d__law_draw, startR]
  have g0 : ∀ x y z : Int, atI [D.int x, .int y, .int z] 0 = some (.int x) := fun _ _ _ => rfl
  have g1 : ∀ x y z : Int, atI [D.int x, .int y, .int z] 1 = some (.int y) := fun _ _ _ => rfl
  have g2 : ∀ x y z : Int, atI [D.int x, .int y, .int z] 2 = some (.int z) := fun _ _ _ => rfl
  have i0 : ∀ x y z : Int, ixN [D.int x, .int y, .int z].length 0 = some 0 := fun _ _ _ => rfl
  have i1 : ∀ x y z : Int, ixN [D.int x, .int y, .int z].length 1 = some 1 := fun _ _ _ => rfl
  have i2 : ∀ x y z : Int, ixN [D.int x, .int y, .int z].length 2 = some 2 := fun _ _ _ => rfl
  have hsz : (S.length : Nat) = S.length := rfl
  refine okm_seq (okm_asg ?_)
  simp [okm_var, ix_r hS (g2 _ _ _), setL_r hS (i2 _ _ _), N__law_draw]
  refine okm_seq (okm_set ?_)
  simp [okm_var, ix_r (e0 _ _ _) (g0 _ _ _)]
  refine okm_seq (okm_asg ?_)
  have hm1 : ∀ z : Int, (-18446744073709551616 < a ∧ a < 18446744073709551616 ∨ -18446744073709551616 < a % 46021 + 29027 ∧ a % 46021 + 29027 < 18446744073709551616) := fun z => .inl (by omega)
  simp [okm_var, ix_r (e0 _ _ _) (g2 _ _ _), setL_r (e0 _ _ _) (i0 _ _ _), hm1]
  refine ⟨.inl ⟨by omega, by omega⟩, ?_⟩
  generalize hs : (a * (a % 46021 + 29027) + 90011 * (cc + 1)) % 2147483053 = st
  have hs0 : 0 ≤ st := by omega
  have hs1 : st < 2147483053 := by omega
  refine okm_seq (okm_if ?_)
  simp [okm_var, ix_r (e0 _ _ _) (g1 _ _ _)]
  by_cases hb0 : 0 < b
  · simp only [hb0, if_true]
    refine okm_seq (okm_asg ?_)
    simp [okm_var, ix_r (e0 _ _ _) (g1 _ _ _), setL_r (e0 _ _ _) (i1 _ _ _), h0, h1]
    refine okm_ret ?_
    simp [okm_var, nrf]
    have ln : (S.set n (.lst [.int st, .int (b / m), .int (cc + 1)])).take S.length = S.set n (.lst [.int st, .int (b / m), .int (cc + 1)]) := List.take_of_length_le (by simp)
    rw [ln]
    exact ⟨nr.set n rfl, h _ _ (Int.emod_nonneg _ (by omega)) (Int.emod_lt_of_pos _ h0) ⟨st, b / m, cc + 1, rfl, hs0, hs1, Int.ediv_nonneg hb (by omega)⟩⟩
  · simp only [hb0, if_false]
    refine okm_next ?_
    simp only [nxt_nx]
    refine okm_ret ?_
    simp [okm_var, ix_r (e0 _ _ _) (g0 _ _ _), h0, nrf]
    have ln : (S.set n (.lst [.int st, .int b, .int (cc + 1)])).take S.length = S.set n (.lst [.int st, .int b, .int (cc + 1)]) := List.take_of_length_le (by simp)
    rw [ln]
    exact ⟨nr.set n rfl, h _ _ (Int.emod_nonneg _ (by omega)) (Int.emod_lt_of_pos _ h0) ⟨st, b, cc + 1, rfl, hs0, hs1, hb⟩⟩
end CL

namespace CR
open PySem PySem.Spec L2
theorem pop_r {S : Sto} {P : D → Sto → Prop} {n : Nat} {ds : List D} {i : Int} {y : D} (h : S[n]? = some (.lst ds)) (h0 : 0 ≤ i) (h1 : i < 2 ^ 62) (hi : ds[i.toNat]? = some y) : Okm (mPop (.ref n) [.int i]) S P ↔ P y (S.set n (.lst (ds.eraseIdx i.toNat))) := by
  have e : lrefOf S (.ref n) = some (n, ds) := by simp [lrefOf, h]
  have e1 : smallI i = true := by rw [smallI_iff]; omega
  have hl := (List.getElem?_eq_some_iff.mp hi).1
  have e2 : seqIndex? i ds.length = some i.toNat := by
    unfold seqIndex?
    have : ¬ i < 0 := by omega
    simp [this]
    omega
  constructor
  · rintro ⟨_, S', q, p⟩
    simp only [mPop, e, e1, if_true, e2, hi] at q; cases q; exact p
  · intro p; exact ⟨y, _, by simp only [mPop, e, e1, if_true, e2, hi], p⟩
theorem fits_of {n : Nat} (h : n ≤ 16777215) : fits n = true := by rw [fits_iff, sizeLine_eq]; omega
theorem small_of {n : Nat} (h : n < 4611686018427387904) : smallI (n : Int) = true := by rw [smallI_iff]; omega
end CR
namespace CL
open PySem PySem.Spec CR L2
theorem ok_pool {S : Sto} {x : Int} {P : D → Sto → Prop} (nr : NR S) (h : ∀ p, PoolD p → P (.ref S.length) (S ++ [p])) : Okm (f__law_pool [.int x]) S P := by
  refine okm_run rfl ?_
  simp only [d__law_pool, startR]
  refine okm_seq (okm_set ?_)
  have key : ∀ b : Int, 0 ≤ b → Okm (sRet (eLstM (aCons (eOp mMod (eVar 0) (eCst (D.int 2147483053))) (aCons (eVar 1) (aCons (eCst (D.int 0)) aNil)))) [some (.int x), some (.int b)]) S (finP true S.length P) := fun b hb => by
    refine okm_ret ?_
    simp [okm_var, nrf, nrfs, fits_of]
    exact ⟨nr, h _ ⟨_, _, _, rfl, by omega, by omega, hb⟩⟩
  simp [okm_var, N__law_pool, cPow]
  by_cases h1 : x < 0
  · simp [h1]; exact key _ (by omega)
  · simp [h1]
    by_cases h2 : 1000000000000000000 ≤ x
    · simp [h2]; exact key _ (by omega)
    · simp [h2]; exact key _ (by omega)
theorem ok_cell {S : Sto} {ns : List Int} {k : Int} {P : D → Sto → Prop} (nr : NR S) (hk : 0 ≤ k) (hk2 : k < 1000) (hl : ns.length ≤ 63) (h : ∀ r : Int, P (.int r) S) : Okm (f__law_cell [.fz (ns.map D.int), .int k]) S P := by
  refine okm_run rfl ?_
  have tk : S.take S.length = S := List.take_length
  simp only [d__law_cell, startR]
  refine okm_seq (okm_if ?_)
  simp [okm_var, N__law_cell]
  by_cases h1 : k < ns.length
  · simp only [h1, if_true]
    refine okm_ret ?_
    have hg : (ns.map D.int)[k.toNat]? = some (.int ns[k.toNat]) := by rw [List.getElem?_map, List.getElem?_eq_getElem (by omega)]; rfl
    simp [okm_var, ix_f (atI_int hk hg), nrf]
    exact ⟨nr, h _⟩
  · simp only [h1, if_false]
    refine okm_next ?_
    simp only [nxt_nx]
    refine okm_seq (okm_set ?_)
    simp [okm_var]
    refine ⟨⟨by omega, by omega⟩, ?_⟩
    generalize (80021 * (k * k + 7 * k + 11)) % 2147483053 = st
    refine okm_seq (okm_for ?_)
    simp [okm_var]
    refine ⟨.lst ((ns.map D.int).take 3), ?_, ?_⟩
    · simp [slD, CR.listOf, cutD, HT.sIx]
    simp
    refine ⟨fun i ρ S1 => S1 = S ∧ ∃ (st : Int) (o : Option D), ρ = [some (.fz (ns.map D.int)), some (.int k), some (.int st), o], ⟨rfl, st, none, rfl⟩, ?_, ?_⟩
    · rintro i d ρ S1 hd ⟨rfl, st, o, rfl⟩
      obtain ⟨z, rfl⟩ : ∃ z : Int, d = .int z := by
        have := List.mem_of_getElem? hd
        have := List.mem_of_mem_take this
        simp at this
        obtain ⟨z, _, rfl⟩ := this
        exact ⟨z, rfl⟩
      refine okm_set ?_
      simp [okm_var]
    · rintro ρ S1 ⟨rfl, st, o, rfl⟩
      refine okm_ret ?_
      simp [okm_var, nrf]
      exact ⟨nr, h _⟩
theorem ok_mixed {S : Sto} {n : Nat} {d : D} {ds : List D} {P : D → Sto → Prop} (hp : PoolAt S n) (nr : NR S) (hd : ∀ S', listF S' d = some ds) (hle : ∀ S' (Q : D → Sto → Prop), Q (.int ds.length) S' → Okm (mLen [d]) S' Q) (nds : nrfs ds = true) (hl : ds.length < 100000) (nd : nrf d = true) (h : ∀ es p, es.Perm ds → PoolD p → P (.tup es) (S.set n p)) : Okm (f__law_mixed [.ref n, d]) S P := by
  refine okm_run rfl ?_
  have hlt := hp.lt
  obtain ⟨p0, hS0, hp0⟩ := hp
  have e0 : S.set n p0 = S := by
    apply List.ext_getElem?
    intro i
    by_cases hi : i = n
    · subst hi; rw [List.getElem?_set_self hlt, hS0]
    · rw [List.getElem?_set_ne (Ne.symm hi)]
  simp only [d__law_mixed, startR]
  refine okm_seq (okm_par ?_)
  simp [okm_var, N__law_mixed, alloc_some (hd S), fits_of]
  refine ⟨_, _, ⟨rfl, rfl⟩, okm_seq (okm_for ?_)⟩
  simp [okm_var]
  refine hle _ _ ?_
  simp [small_of (show ds.length < 4611686018427387904 by omega)]
  refine ⟨fun k ρ S1 => ∃ (p : D) (l f : List D) (o : Option D), PoolD p ∧ (l ++ f).Perm ds ∧ f.length = k ∧ ρ = [some (.ref n), some d, o, some (.ref S.length), some (.ref (S.length + 1))] ∧ S1 = S.set n p ++ [.lst l, .lst f], ⟨p0, ds, [], none, hp0, by simp, rfl, rfl, by rw [e0]⟩, ?_, ?_⟩
  · rintro k x ρ S1 hx ⟨p, l, f, o, hp, hpm, hf, rfl, rfl⟩
    have hk : k < ds.length := by
      have := (List.getElem?_eq_some_iff.mp hx).1
      rw [rangeL_len] at this; simp at this; omega
    have hll : l.length + f.length = ds.length := by rw [← List.length_append]; exact hpm.length_eq
    have nrl : nrfs l = true ∧ nrfs f = true := by
      have hh := nrfs_iff.mp nds
      exact ⟨nrfs_iff.mpr fun y hy => hh y (hpm.mem_iff.mp (List.mem_append_left _ hy)), nrfs_iff.mpr fun y hy => hh y (hpm.mem_iff.mp (List.mem_append_right _ hy))⟩
    have nr1 : NR (S.set n p ++ [.lst l, .lst f]) := (nr.set n hp.nrf).app (show nrfs [D.lst l, D.lst f] = true by simp only [nrfs, nrf, nrl.1, nrl.2]; rfl)
    refine okm_sexpr ?_
    simp [okm_var]
    refine okm_callF ?_
    simp [okm_var, len_r (show (S.set n p ++ [.lst l, .lst f])[S.length]? = some (.lst l) by rw [sg_set0]; rfl), pick]
    refine ok_draw (PoolAt.app (PoolAt.set hlt hp)) nr1 (by omega) (by omega) fun r p' hr0 hr1 hp' => ?_
    have es : (S.set n p ++ [D.lst l, D.lst f]).set n p' = S.set n p' ++ [.lst l, .lst f] := by rw [sw_n (by simpa using hlt), List.set_set]
    rw [es]
    have hrl : r.toNat < l.length := by omega
    rw [pop_r (ds := l) (y := l[r.toNat]) (by rw [sg_set0]; rfl) hr0 (by omega) (List.getElem?_eq_getElem hrl)]
    rw [sw_set0]
    rw [append_r (ds := f) (by rw [sg_setj]; rfl) (by rw [sizeLine_eq]; omega)]
    rw [sw_setj]
    refine ⟨p', hp', l.eraseIdx r.toNat, f ++ [l[r.toNat]], ?_, by simp [hf], rfl⟩
    refine List.Perm.trans ?_ hpm
    have q := erase_perm l r.toNat l[r.toNat] (List.getElem?_eq_getElem hrl)
    have : (l.eraseIdx r.toNat ++ (f ++ [l[r.toNat]])).Perm (l[r.toNat] :: l.eraseIdx r.toNat ++ f) := by
      rw [← List.append_assoc]
      exact (List.perm_append_singleton _ _)
    exact this.trans (q.append_right f)
  · rintro ρ S1 ⟨p, l, f, o, hp, hpm, hf, rfl, rfl⟩
    rw [rangeL_len] at hf
    have hfl : f.length = ds.length := by simp at hf; omega
    have hl0 : l = [] := by
      have := hpm.length_eq
      simp at this
      exact List.eq_nil_of_length_eq_zero (by omega)
    subst hl0
    have nf : nrfs f = true := nrfs_iff.mpr fun y hy => nrfs_iff.mp nds y (hpm.mem_iff.mp (by simpa using hy))
    refine okm_ret ?_
    simp [okm_var, tuple_r (show (S.set n p ++ [.lst [], .lst f])[S.length + 1]? = some (.lst f) by rw [sg_setj]; rfl), nrf, nf]
    exact ⟨nr.set n hp.nrf, h f p (by simpa using hpm) hp⟩
end CL

namespace CR
open PySem PySem.Spec L2
section
variable {S : Sto} {P : D → Sto → Prop} {d : D} {x : Str} {ds : List D}
theorem okm_isi {U T : String} {b : Bool} (h : tyN S d = some T) (h2 : isiB T U = some b) : Okm (isiD U d) S P ↔ P (.bl b) S := opt1_some (by simp [h, h2])
theorem isi_ss : isiB "str" "str" = some true := by decide
theorem isi_tt : isiB "tuple" "tuple" = some true := by decide
@[simp] theorem tTrue {ρ : Rho} {Q : Bool → Sto → Prop} : Okm (tYesM ρ) S Q ↔ Q true S := okm_pure
theorem bls_map (bs : List Bool) : blsOf (bs.map D.bl) = some bs := by
  induction bs with
  | nil => rfl
  | cons b bs ih => simp [blsOf, ih]
theorem strs_map (bs : List Str) : strsOf (bs.map D.str) = some bs := by
  induction bs with
  | nil => rfl
  | cons b bs ih => simp [strsOf, ih]
theorem ints_map (bs : List Int) : intsOf (bs.map D.int) = some bs := by
  induction bs with
  | nil => rfl
  | cons b bs ih => simp [intsOf, ih]
theorem all_l {bs : List Bool} (h : ds = bs.map D.bl) : Okm (mAll [.lst ds]) S P ↔ P (.bl (bs.all id)) S := opt1_some (by subst h; simp [CR.listOf, bls_map])
theorem all_true (h : ∀ d ∈ ds, d = .bl true) : Okm (mAll [.lst ds]) S P ↔ P (.bl true) S := by
  have e : ds = (List.replicate ds.length true).map D.bl := by
    rw [List.map_replicate]
    exact List.eq_replicate_iff.mpr ⟨rfl, h⟩
  rw [all_l e]; simp
/-- sorted(texts) -/
theorem sort_s {xs : List Str} (h : ds = xs.map D.str) (h0 : xs ≠ []) (hl : xs.length < 64) : Okm (opt1 sortD [.lst ds]) S P ↔ P (.lst ((sortS xs).map D.str)) S := opt1_some (by
  subst h
  have e : intsOf (xs.map D.str) = none := by cases xs with | nil => exact absurd rfl h0 | cons y ys => rfl
  have e2 : Nat.blt xs.length 64 = true := by simpa using hl
  simp [sortD, CR.listOf, e, strs_map, hl])
theorem sort_r {n : Nat} {xs : List Str} (hS : S[n]? = some (.lst ds)) (h : ds = xs.map D.str) (h0 : xs ≠ []) (hl : xs.length < 64) : Okm (opt1 sortD [.ref n]) S P ↔ P (.lst ((sortS xs).map D.str)) S := opt1_some (by
  subst h
  have e : intsOf (xs.map D.str) = none := by cases xs with | nil => exact absurd rfl h0 | cons y ys => rfl
  have e2 : Nat.blt xs.length 64 = true := by simpa using hl
  simp [sortD, CR.listOf, hS, e, strs_map, hl])
theorem sortS_perm (xs : List Str) : (sortS xs).Perm xs := List.mergeSort_perm xs _
/-- sorted, none twice: rising -/
def Rising (xs : List Str) : Prop := xs.Pairwise fun x y => strLt x y = true
theorem strLt_of_ne {x y : Str} (h : (!strLt y x) = true) (n : x ≠ y) : strLt x y = true := by
  cases e : strLt x y with
  | true => rfl
  | false => exact absurd (sle_anti x y h (by rw [e]; rfl)) n
theorem sortS_rising {xs : List Str} (nd : xs.Nodup) : Rising (sortS xs) := by
  have h1 : (sortS xs).Pairwise fun x y => (!strLt y x) = true := List.pairwise_mergeSort sle_trans sle_total xs
  have h2 : (sortS xs).Nodup := (sortS_perm xs).nodup_iff.mpr nd
  exact h1.imp₂ (fun a b h n => strLt_of_ne h n) h2
end
end CR
namespace CL
open PySem PySem.Spec CR L2
/-- a name: one to six small letters -/
def Nm (x : Str) : Prop := 1 ≤ x.length ∧ x.length ≤ 6 ∧ ∀ k ∈ x.cps.toList, 97 ≤ k ∧ k ≤ 122
theorem letters_mem {k : Nat} (h : 97 ≤ k ∧ k ≤ 122) : k ∈ ("abcdefghijklmnopqrstuvwxyz" : Str).cps.toList := by
  have e : ("abcdefghijklmnopqrstuvwxyz" : Str).cps.toList = List.range' 97 26 := by kernel_rfl
  rw [e, List.mem_range']
  exact ⟨k - 97, by omega, by omega⟩
theorem ok_is_name {S : Sto} {x : Str} {P : D → Sto → Prop} (hx : Nm x) (nr : NR S) (h : P (.bl true) S) : Okm (f_is_name [.str x]) S P := by
  obtain ⟨h1, h2, h3⟩ := hx
  refine okm_run rfl ?_
  simp only [d_is_name, startR]
  refine okm_seq (okm_if ?_)
  simp [okm_var, N_is_name, okm_isi (show tyN S (.str x) = some "str" from rfl) isi_ss, fits_of (show x.length ≤ 16777215 by omega)]
  have e1 : (1 : Int) ≤ x.length := by omega
  have e2 : (x.length : Int) ≤ 6 := by omega
  simp [e1, e2]
  refine okm_next ?_
  simp only [nxt_nx]
  refine okm_ret ?_
  simp only [okm_callB, okm_aCons, okm_aNil]
  refine okm_compP (fun _ => some (.bl true)) ?_
  simp [okm_var]
  refine ⟨by simp [chars, sizeLine_eq]; show x.cps.size < _; unfold Str.length at h2; omega, nr, ?_, ?_⟩
  · intro d hd
    simp only [chars, List.mem_map] at hd
    obtain ⟨k, hk, rfl⟩ := hd
    refine ⟨_, rfl, fun acc _ => ?_⟩
    simp [wipeR, okm_var]
    refine ⟨rfl, ?_⟩
    have : inD (S ++ [D.lst acc]) (.str ⟨#[k]⟩) (.str "abcdefghijklmnopqrstuvwxyz") = some true := by
      show some (decide _) = _
      rw [decide_eq_true (letters_mem (h3 k hk))]
    refine (opt1_some (z := .bl true) (by rw [this]; rfl)).mpr ⟨rfl, [], by simp⟩
  · rw [all_true (by simp)]
    simp [nrf]
    exact ⟨nr, h⟩
end CL

namespace CL
open PySem PySem.Spec CR L2
abbrev lets : Str := "abcdefghijklmnopqrstuvwxyz"
theorem lets_eq : lets.cps.toList = List.range' 97 26 := by kernel_rfl
theorem lets_len : lets.length = 26 := by kernel_rfl
theorem lets_at {i : Int} (h0 : 0 ≤ i) (h1 : i < 26) : atI lets.cps.toList i = some (97 + i.toNat) := by
  refine atI_int h0 ?_
  rw [lets_eq, List.getElem?_range' (by omega)]; simp
def ownS : List Str := ["add", "remove", "change", "rename", "merge", "undo", "names", "table", "row", "count"]
def nmB (x : Str) : Bool := decide (1 ≤ x.length) && decide (x.length ≤ 6) && x.cps.toList.all fun k => decide (97 ≤ k) && decide (k ≤ 122)
theorem nmB_ok {x : Str} (h : nmB x = true) : Nm x := by
  simp only [nmB, Bool.and_eq_true, decide_eq_true_eq, List.all_eq_true] at h
  exact ⟨h.1.1, h.1.2, fun k hk => h.2 k hk⟩
theorem own_nm : ∀ x ∈ ownS, Nm x := fun x hx => nmB_ok (List.all_eq_true.mp (show ownS.all nmB = true by kernel_rfl) x hx)
theorem own_inj : ∀ i j : Fin 10, ownS[i.val]'i.2 = ownS[j.val]'j.2 → i = j := by decide +kernel
theorem lin10 {p b i j : Int} (hp : p = 1 ∨ p = 3 ∨ p = 7 ∨ p = 9) (hi : 0 ≤ i) (hi2 : i < 10) (hj : 0 ≤ j) (hj2 : j < 10) (h : (b + p * i) % 10 = (b + p * j) % 10) : i = j := by
  rcases hp with rfl | rfl | rfl | rfl <;> omega
theorem lin26 {p b i j : Int} (hp : p = 1 ∨ p = 3 ∨ p = 7 ∨ p = 9) (hi : 0 ≤ i) (hi2 : i < 26) (hj : 0 ≤ j) (hj2 : j < 26) (h : (b + p * i) % 26 = (b + p * j) % 26) : i = j := by
  rcases hp with rfl | rfl | rfl | rfl <;> omega
theorem fold_signs : ∀ (cs : List Nat) (a : Array Nat), ((cs.map fun k => (⟨#[k]⟩ : Str)).foldl (fun acc p => acc ++ ("" : Str).cps ++ p.cps) a) = a ++ cs.toArray
  | [], a => by simp
  | k :: cs, a => by
    rw [List.map_cons, List.foldl_cons, fold_signs cs]
    have e : ("" : Str).cps = #[] := by kernel_rfl
    rw [e]
    apply Array.ext'
    simp
theorem join_signs (cs : List Nat) : Txt.join "" (cs.map fun k => (⟨#[k]⟩ : Str)) = ⟨cs.toArray⟩ := by
  show Builtin.Str.glued _ _ = _
  unfold Builtin.Str.glued
  cases cs with
  | nil => rfl
  | cons k cs =>
    simp only [List.map_cons, List.drop_succ_cons, List.drop_zero, List.headD_cons]
    rw [fold_signs]
    congr 1
    apply Array.ext'
    simp
/-- the things drawn: rising names -/
structure Things (xs : List Str) (many : Nat) : Prop where
  len : xs.length = many
  up : Rising xs
  nm : ∀ x ∈ xs, Nm x
theorem things_of {ys : List Str} {many : Nat} (hl : ys.length = many) (nd : ys.Nodup) (nm : ∀ x ∈ ys, Nm x) : Things (sortS ys) many :=
  ⟨by rw [(sortS_perm ys).length_eq]; exact hl, sortS_rising nd, fun x hx => nm x ((sortS_perm ys).mem_iff.mp hx)⟩
theorem list_filterMap {f : D → Option D} {g : Nat → D} : ∀ l : List Nat, (∀ k ∈ l, f (.int (0 + (k : Int))) = some (g k)) → (l.map fun k : Nat => D.int (0 + (k : Int))).filterMap f = l.map g
  | [], _ => rfl
  | k :: l, h => by
    rw [List.map_cons, List.filterMap_cons, h k (List.mem_cons_self ..), list_filterMap l fun j hj => h j (List.mem_cons_of_mem _ hj)]; rfl
theorem range_filterMap {f : D → Option D} {g : Nat → D} {m : Nat} (h : ∀ k : Nat, k < m → f (.int k) = some (g k)) : (rangeL 0 (m : Int)).filterMap f = (List.range m).map g := by
  unfold rangeL
  have e : ((m : Int) - 0).toNat = m := by omega
  rw [e]
  refine list_filterMap _ fun k hk => ?_
  rw [show ((0 : Int) + (k : Int)) = k by omega]
  exact h k (List.mem_range.mp hk)
theorem nodup_range {α : Type} {f : Nat → α} {m : Nat} (h : ∀ i j, i < j → j < m → f i ≠ f j) : ((List.range m).map f).Nodup := by
  unfold List.Nodup
  rw [List.pairwise_map, List.pairwise_iff_getElem]
  intro i j hi hj hij
  simp at hi hj ⊢
  exact h i j hij hj
def ownAt (i : Int) : Str := ownS.getD i.toNat Str.empty
theorem ownAt_get {i : Int} (h0 : 0 ≤ i) (h1 : i < 10) : ∃ h : i.toNat < ownS.length, ownAt i = ownS[i.toNat] := by
  have h : i.toNat < ownS.length := by show i.toNat < 10; omega
  exact ⟨h, by unfold ownAt; simp [List.getD, List.getElem?_eq_getElem h]⟩
theorem ownAt_nm {i : Int} (h0 : 0 ≤ i) (h1 : i < 10) : Nm (ownAt i) := by
  obtain ⟨h, e⟩ := ownAt_get h0 h1
  rw [e]; exact own_nm _ (List.getElem_mem h)
theorem ownAt_inj {i j : Int} (h0 : 0 ≤ i) (h1 : i < 10) (h2 : 0 ≤ j) (h3 : j < 10) (e : ownAt i = ownAt j) : i = j := by
  obtain ⟨h, e1⟩ := ownAt_get h0 h1
  obtain ⟨h', e2⟩ := ownAt_get h2 h3
  rw [e1, e2] at e
  have := own_inj ⟨i.toNat, by omega⟩ ⟨j.toNat, by omega⟩ e
  have : i.toNat = j.toNat := congrArg Fin.val this
  omega
theorem mem_rangeL {d : D} {m : Nat} (h : d ∈ rangeL 0 (m : Int)) : ∃ k : Nat, k < m ∧ d = .int k := by
  unfold rangeL at h
  obtain ⟨k, hk, rfl⟩ := List.mem_map.mp h
  exact ⟨k, by have := List.mem_range.mp hk; omega, by simp⟩
/-- the letters of a stem, one more put in at cut -/
def put (cs : List Nat) (cut : Nat) (c : Nat) : Str := ⟨(cs.take cut ++ [c] ++ cs.drop cut).toArray⟩
theorem put_nm {cs : List Nat} {cut c : Nat} (hl : cs.length ≤ 5) (hc : ∀ k ∈ cs, 97 ≤ k ∧ k ≤ 122) (h : 97 ≤ c ∧ c ≤ 122) : Nm (put cs cut c) := by
  have e : (put cs cut c).cps.toList = cs.take cut ++ [c] ++ cs.drop cut := by simp [put]
  refine ⟨?_, ?_, fun k hk => ?_⟩
  · show 1 ≤ (put cs cut c).cps.size
    rw [← Array.length_toList, e]; simp; omega
  · show (put cs cut c).cps.size ≤ 6
    rw [← Array.length_toList, e]; simp; omega
  · rw [e] at hk
    simp only [List.mem_append, List.mem_singleton] at hk
    rcases hk with (hk | hk) | hk
    · exact hc k (List.mem_of_mem_take hk)
    · subst hk; exact h
    · exact hc k (List.mem_of_mem_drop hk)
theorem put_inj {cs : List Nat} {cut c d : Nat} (h : put cs cut c = put cs cut d) : c = d := by
  unfold put at h
  have h : (cs.take cut ++ [c] ++ cs.drop cut).toArray = (cs.take cut ++ [d] ++ cs.drop cut).toArray := by injection h
  have h := congrArg Array.toList h
  simpa using h
theorem join_l {S : Sto} {P : D → Sto → Prop} {a : Str} {xs : List Str} (h : (xs.map (·.length)).sum + xs.length * a.length ≤ 16777216) : Okm (mJoin (.str a) [.lst (xs.map D.str)]) S P ↔ P (.str (Txt.join a xs)) S := opt1_some (by
  have e : Nat.ble ((xs.map (·.length)).sum + xs.length * a.length) 16777216 = true := by simpa using h
  simp only [joinD, seqOf, CR.listOf, Option.bind_some, strs_map, e, if_true])
theorem sum_signs : ∀ cs : List Nat, ((cs.map fun c => (⟨#[c]⟩ : Str)).map (·.length)).sum = cs.length
  | [] => rfl
  | c :: cs => by
    rw [List.map_cons, List.map_cons, List.sum_cons, sum_signs cs]
    show 1 + _ = _
    simp; omega
theorem cut_l {cs : List Nat} {k : Nat} (h : k ≤ cs.length) : cutS ⟨cs.toArray⟩ none (some (k : Int)) = ⟨(cs.take k).toArray⟩ := by
  unfold cutS
  have : (⟨cs.toArray⟩ : Str).length = cs.length := by simp [Str.length]
  rw [HT.sIx_none, HT.sIx_nat, this]
  simp [Nat.min_eq_left h]
theorem cut_r {cs : List Nat} {k : Nat} (h : k ≤ cs.length) : cutS ⟨cs.toArray⟩ (some (k : Int)) none = ⟨(cs.drop k).toArray⟩ := by
  unfold cutS
  have : (⟨cs.toArray⟩ : Str).length = cs.length := by simp [Str.length]
  rw [HT.sIx_none, HT.sIx_nat, this]
  simp [Nat.min_eq_left h]
  exact List.take_of_length_le (by simp)
theorem put_eq (cs : List Nat) (k c : Nat) : ((⟨(cs.take k).toArray⟩ : Str) ++ (⟨#[c]⟩ : Str)) ++ (⟨(cs.drop k).toArray⟩ : Str) = put cs k c := by
  show (⟨((cs.take k).toArray ++ #[c]) ++ (cs.drop k).toArray⟩ : Str) = _
  unfold put
  congr 1
  apply Array.ext'
  simp
structure StemI (S : Sto) (n k : Nat) (acc : List D) (B : Sto) : Prop where
  ex : ∃ (p : D) (cs : List Nat), PoolD p ∧ B = S.set n p ++ [.lst []] ∧ cs.length = k ∧ acc = (cs.map fun c => (⟨#[c]⟩ : Str)).map D.str ∧ ∀ c ∈ cs, 97 ≤ c ∧ c ≤ 122
structure FoundI (S : Sto) (n : Nat) (ρ0 : Option D → Option D → Rho) (g : Nat → Str) (p : D) (k : Nat) (ρ : Rho) (S1 : Sto) : Prop where
  ex : ∃ o1 o2 : Option D, ρ = ρ0 o1 o2 ∧ S1 = S.set n p ++ [.lst ((List.range k).map fun i => D.str (g i))]
theorem ok_things {S : Sto} {n many : Nat} {P : D → Sto → Prop} (hp : PoolAt S n) (nr : NR S) (h0 : 1 ≤ many) (h1 : many ≤ 10) (h : ∀ xs p, Things xs many → PoolD p → P (.tup (xs.map D.str)) (S.set n p)) : Okm (f__law_things [.ref n, .int many]) S P := by
  have hlt := hp.lt
  have tk : ∀ p : D, (S.set n p).take S.length = S.set n p := fun p => List.take_of_length_le (by simp)
  have ps : -(2 ^ 64) < (1 : Int) := by decide
  refine okm_run rfl ?_
  simp only [d__law_things, startR]
  refine okm_seq (okm_set ?_)
  simp [okm_var, N__law_things, fits_of]
  refine okm_seq (okm_asg ?_)
  simp [okm_var]
  refine okm_callF ?_
  simp [okm_var, pick]
  refine ok_draw hp nr (by decide) (by decide) fun first p1 hf0 hf1 hp1 => ?_
  simp [okm_var, fits_of]
  refine okm_callF ?_
  simp [okm_var, pick]
  refine ok_draw (PoolAt.set hlt hp1) (nr.set n hp1.nrf) (by decide) (by decide) fun pc p2 hc0 hc1 hp2 => ?_
  obtain ⟨pace, hpace, epc⟩ : ∃ pace : Int, (pace = 1 ∨ pace = 3 ∨ pace = 7 ∨ pace = 9) ∧ atI [D.int 1, D.int 3, D.int 7, D.int 9] pc = some (.int pace) := by
    have : pc = 0 ∨ pc = 1 ∨ pc = 2 ∨ pc = 3 := by omega
    rcases this with rfl | rfl | rfl | rfl
    · exact ⟨1, by simp, rfl⟩
    · exact ⟨3, by simp, rfl⟩
    · exact ⟨7, by simp, rfl⟩
    · exact ⟨9, by simp, rfl⟩
  simp [okm_var, ix_l epc, fits_of]
  refine okm_seq (okm_if ?_)
  simp [okm_var]
  refine okm_callF ?_
  simp [okm_var, pick]
  refine ok_draw (PoolAt.set hlt hp2) (nr.set n hp2.nrf) (by decide) (by decide) fun q p3 hq0 hq1 hp3 => ?_
  have nr3 : NR (S.set n p3) := nr.set n hp3.nrf
  simp only [List.set_set]
  by_cases hq : q = 1
  · simp [hq]
    refine okm_ret ?_
    simp only [okm_callB, okm_aCons, okm_aNil]
    refine okm_compP (fun d => match d with | .int k => some (.str (ownAt ((first + pace * k) % 10))) | _ => none) ?_
    simp [okm_var, small_of (show many < 4611686018427387904 by omega)]
    refine ⟨by rw [rangeL_len, sizeLine_eq]; omega, nr3, ?_, ?_⟩
    · intro d hd
      obtain ⟨k, hk, rfl⟩ := mem_rangeL hd
      refine ⟨_, rfl, fun acc _ => ⟨_, rfl, rfl, ?_⟩⟩
      simp [wipeR, okm_var]
      refine ⟨.inl ⟨by omega, by omega⟩, ?_⟩
      have m0 : 0 ≤ (first + pace * (k : Int)) % 10 := by omega
      have m1 : (first + pace * (k : Int)) % 10 < 10 := by omega
      obtain ⟨hb, eo⟩ := ownAt_get m0 m1
      have eg : (ownS.map D.str)[((first + pace * (k : Int)) % 10).toNat]? = some (.str (ownAt ((first + pace * (k : Int)) % 10))) := by
        rw [List.getElem?_map, List.getElem?_eq_getElem hb, eo]; rfl
      refine (ix_l (atI_int m0 eg)).mpr ⟨rfl, [], by simp⟩
    · rw [range_filterMap (g := fun k => .str (ownAt ((first + pace * (k : Int)) % 10))) fun k _ => rfl]
      have nd : ((List.range many).map fun k : Nat => ownAt ((first + pace * (k : Int)) % 10)).Nodup := nodup_range fun i j hij hj e => by
        have := lin10 hpace (by omega) (by omega) (by omega) (by omega) (ownAt_inj (by omega) (by omega) (by omega) (by omega) e)
        omega
      rw [sort_s (xs := (List.range many).map fun k : Nat => ownAt ((first + pace * (k : Int)) % 10)) (by rw [List.map_map]; rfl) (by intro e; have := congrArg List.length e; simp at this; omega) (by simp; omega)]
      simp [nrf, nrfs_strs]
      refine ⟨by rw [tk]; exact nr3, ?_⟩
      rw [tk]
      refine h _ p3 (things_of (by simp) nd fun x hx => ?_) hp3
      obtain ⟨k, _, rfl⟩ := List.mem_map.mp hx
      exact ownAt_nm (by omega) (by omega)
  · simp [hq]
    refine okm_next ?_
    simp only [nxt_nx]
    refine okm_seq (okm_asg ?_)
    simp [okm_var, fits_of]
    refine okm_seq (okm_set ?_)
    simp only [okm_meth, okm_cst, okm_aCons, okm_aNil, isS_s, true_and]
    refine okm_comp ?_
    simp only [okm_iRg, okm_aCons, okm_aNil]
    refine okm_callF ?_
    have nrE : ∀ T : Sto, nrfs T = true → ∀ p, PoolD p → NR (S.set n p ++ T) := fun T hT p hp => (nr.set n hp.nrf).app hT
    have pE : ∀ T : Sto, ∀ p, PoolD p → PoolAt (S.set n p ++ T) n := fun T p hp => PoolAt.app (PoolAt.set hlt hp)
    have sE : ∀ (T : Sto) (p p' : D), (S.set n p ++ T).set n p' = S.set n p' ++ T := fun T p p' => by rw [sw_n (by simpa using hlt), List.set_set]
    simp [okm_var, pick]
    refine ok_draw (pE _ p3 hp3) (nrE _ rfl p3 hp3) (by decide) (by decide) fun r p4 hr0 hr1 hp4 => ?_
    rw [sE]
    obtain ⟨rn, rfl⟩ : ∃ rn : Nat, r = rn := ⟨r.toNat, by omega⟩
    simp [small_of (show rn < 4611686018427387904 by omega)]
    refine ⟨by rw [rangeL_len, sizeLine_eq]; omega, StemI S n, ⟨p4, [], hp4, rfl, rfl, rfl, by simp⟩, ?_, ?_, ?_⟩
    · rintro k acc B ⟨p, cs, hp, rfl, hl, rfl, hc⟩
      exact ⟨by simp, nrE _ rfl p hp, nrfs_strs _, by simp; omega⟩
    · rintro k d acc B hd ⟨p, cs, hp, rfl, hl, rfl, hc⟩
      refine ⟨_, rfl, ?_⟩
      simp [wipeR, okm_var]
      refine okm_callF ?_
      simp [okm_var, pick]
      refine ok_draw (pE _ p hp) (nrE _ ?_ p hp) (by decide) (by decide) fun z p5 hz0 hz1 hp5 => ?_
      · have := nrfs_strs (cs.map fun c => (⟨#[c]⟩ : Str))
        simp at this
        simp [nrfs, nrf, this]
      rw [sE, ix_s (by rw [lets_len]; exact fits_of (by omega)) (lets_at hz0 hz1)]
      refine ⟨rfl, S.set n p5 ++ [.lst []], ⟨[], by simp⟩, ⟨p5, cs ++ [97 + z.toNat], hp5, rfl, by simp [hl], by simp, ?_⟩⟩
      intro c hc'
      rcases List.mem_append.mp hc' with q | q
      · exact hc c q
      · simp at q; omega
    · rintro acc B ⟨p, cs, hp, rfl, hl, rfl, hc⟩
      rw [rangeL_len] at hl
      have hcl : cs.length ≤ 5 := by omega
      have hsl : (⟨cs.toArray⟩ : Str).length = cs.length := by simp [Str.length]
      rw [join_l (by rw [sum_signs]; simp; have : ("" : Str).length = 0 := by kernel_rfl
                     rw [this]; omega), join_signs]
      refine okm_seq (okm_par ?_)
      simp only [okm_aCons, okm_aNil]
      refine okm_callF ?_
      simp [okm_var, pick, hsl, fits_of (show cs.length ≤ 16777215 by omega)]
      refine ok_draw (pE _ p hp) (nrE _ rfl p hp) (by omega) (by omega) fun cut p6 hc0 hc1 hp6 => ?_
      rw [sE]
      refine okm_callF ?_
      simp [okm_var, pick]
      refine ok_draw (pE _ p6 hp6) (nrE _ rfl p6 hp6) (by decide) (by decide) fun beg p7 hb0 hb1 hp7 => ?_
      rw [sE]
      obtain ⟨cn, rfl⟩ : ∃ cn : Nat, cut = cn := ⟨cut.toNat, by omega⟩
      have hcn : cn ≤ cs.length := by omega
      refine ⟨_, _, ⟨rfl, rfl⟩, okm_seq (okm_for ?_)⟩
      simp [okm_var, small_of (show many < 4611686018427387904 by omega)]
      refine ⟨FoundI S n (fun o1 o2 => [some (.ref n), some (.int many), some (.lst (ownS.map D.str)), some (.str ⟨cs.toArray⟩), o1, some (.int first), some (.int pace), some (.str lets), some (.ref S.length), some (.int cn), some (.int beg), o2])
        (fun k => put cs cn (97 + ((beg + pace * (k : Int)) % 26).toNat)) p7, ⟨none, none, rfl, rfl⟩, ?_, ?_⟩
      · rintro k d ρ S1 hd ⟨o1, o2, rfl, rfl⟩
        obtain ⟨k', hk, rfl⟩ := mem_rangeL (List.mem_of_getElem? hd)
        have ek : k' = k := by
          rw [rangeL_get] at hd
          split at hd
          · simp at hd; omega
          · cases hd
        subst ek
        refine okm_seq (okm_set ?_)
        simp [okm_var]
        refine ⟨.inl ⟨by omega, by omega⟩, ?_⟩
        rw [ix_s (by rw [lets_len]; exact fits_of (by omega)) (lets_at (by omega) (by omega))]
        refine okm_sexpr ?_
        have hS : (S.set n p7 ++ [D.lst ((List.range k').map fun k : Nat => D.str (put cs cn (97 + ((beg + pace * (k : Int)) % 26).toNat)))])[S.length]? = some (.lst ((List.range k').map fun k : Nat => D.str (put cs cn (97 + ((beg + pace * (k : Int)) % 26).toNat)))) := by rw [sg_set0]; rfl
        have f5 : fits (⟨cs.toArray⟩ : Str).length = true := by rw [hsl]; exact fits_of (by omega)
        simp only [okm_meth, okm_aCons, okm_aNil, okm_op, okm_sl, okm_oNone, okm_oSome, okm_v0, okm_vs, okm_asI, isL_r hS, true_and, slD, f5, if_true, cut_l hcn, cut_r hcn]
        refine ⟨_, rfl, ?_⟩
        rw [add_ss]
        refine ⟨by apply fits_of; simp [Str.length]; omega, _, rfl, ?_⟩
        rw [add_ss]
        refine ⟨by apply fits_of; simp [Str.length]; show (_ ++ _ : Array Nat).size + _ ≤ _; simp; omega, ?_⟩
        rw [append_r hS (by simp [sizeLine_eq]; omega), sw_set0, put_eq]
        refine ⟨_, _, rfl, ?_⟩
        simp [List.range_succ]
      · rintro ρ S1 ⟨o1, o2, rfl, rfl⟩
        rw [rangeL_len]
        have em : ((many : Int) - 0).toNat = many := by omega
        rw [em]
        refine okm_ret ?_
        have nd : ((List.range many).map fun k : Nat => put cs cn (97 + ((beg + pace * (k : Int)) % 26).toNat)).Nodup := nodup_range fun i j hij hj e => by
          have e := put_inj e
          have := lin26 (b := beg) hpace (i := i) (j := j) (by omega) (by omega) (by omega) (by omega) (by omega)
          omega
        simp only [okm_callB, okm_aCons, okm_aNil, okm_v0, okm_vs]
        rw [sort_r (xs := (List.range many).map fun k : Nat => put cs cn (97 + ((beg + pace * (k : Int)) % 26).toNat)) (by rw [sg_set0]; rfl) (by rw [List.map_map]; rfl) (by intro e; have := congrArg List.length e; simp at this; omega) (by simp; omega)]
        simp only [tuple_l, finP_ret, nrf, nrfs_strs, true_and, st_takeS]
        refine ⟨nr.set n hp7.nrf, h _ p7 (things_of (by simp) nd fun x hx => ?_) hp7⟩
        obtain ⟨k, _, rfl⟩ := List.mem_map.mp hx
        exact put_nm hcl hc (by omega)
end CL

/-! CrP4: data that may be shown and compared. -/
namespace CR
open PySem PySem.Spec L2
mutual
def pyD : D → PyData
  | .bl b => .bool b
  | .int i => .int i
  | .str x => .str x
  | .tup ds => .tuple (pyDs ds)
  | .tp ds => .tuple (pyDs ds)
  | .kt ds => .tuple (pyDs ds)
  | .lst ds => .list (pyDs ds)
  | .fz ds => .list (pyDs ds)
  | _ => .none
def pyDs : List D → List PyData
  | [] => []
  | d :: ds => pyD d :: pyDs ds
end
mutual
def okP : D → Bool
  | .non => true
  | .bl _ => true
  | .int i => decide ((PyData.shown (.int i)).length ≤ 13) && decide (i.natAbs.log2 < 1920)
  | .str x => PyData.strOk x
  | .tup ds => okPs ds
  | .tp ds => okPs ds
  | .kt ds => okPs ds
  | .lst ds => okPs ds
  | .fz ds => okPs ds
  | _ => false
def okPs : List D → Bool
  | [] => true
  | d :: ds => okP d && okPs ds
end
mutual
theorem okP_py : ∀ d : D, okP d = true → toPy d = some (pyD d) ∧ (pyD d).canLay0 = true ∧ (pyD d).intsShort 13 = true ∧ (pyD d).showable = true
  | .non, _ => ⟨by simp only [toPy, pyD], by simp [pyD, PyData.canLay0], by simp [pyD, PyData.intsShort], by simp [pyD, PyData.showable]⟩
  | .bl _, _ => ⟨by simp only [toPy, pyD], by simp [pyD, PyData.canLay0], by simp [pyD, PyData.intsShort], by simp [pyD, PyData.showable]⟩
  | .int i, h => by
    simp only [okP, Bool.and_eq_true, decide_eq_true_eq] at h
    exact ⟨by simp only [toPy, pyD], by simp [pyD, PyData.canLay0], by simp [pyD, PyData.intsShort, h.1], by simp [pyD, PyData.showable, h.2]⟩
  | .str x, h => by
    simp only [okP] at h
    exact ⟨by simp only [toPy, pyD], by simp [pyD, PyData.canLay0, h], by simp [pyD, PyData.intsShort], by simp [pyD, PyData.showable]⟩
  | .tup ds, h => by
    simp only [okP] at h
    obtain ⟨h1, h2, h3, h4⟩ := okPs_py ds h
    exact ⟨by simp only [toPy, pyD, h1, Option.map_some], by simp only [pyD, PyData.canLay0, h2], by simp only [pyD, PyData.intsShort, h3], by simp only [pyD, PyData.showable, h4]⟩
  | .tp ds, h => by
    simp only [okP] at h
    obtain ⟨h1, h2, h3, h4⟩ := okPs_py ds h
    exact ⟨by simp only [toPy, pyD, h1, Option.map_some], by simp only [pyD, PyData.canLay0, h2], by simp only [pyD, PyData.intsShort, h3], by simp only [pyD, PyData.showable, h4]⟩
  | .kt ds, h => by
    simp only [okP] at h
    obtain ⟨h1, h2, h3, h4⟩ := okPs_py ds h
    exact ⟨by simp only [toPy, pyD, h1, Option.map_some], by simp only [pyD, PyData.canLay0, h2], by simp only [pyD, PyData.intsShort, h3], by simp only [pyD, PyData.showable, h4]⟩
  | .lst ds, h => by
    simp only [okP] at h
    obtain ⟨h1, h2, h3, h4⟩ := okPs_py ds h
    exact ⟨by simp only [toPy, pyD, h1, Option.map_some], by simp only [pyD, PyData.canLay0, h2], by simp only [pyD, PyData.intsShort, h3], by simp only [pyD, PyData.showable, h4]⟩
  | .fz ds, h => by
    simp only [okP] at h
    obtain ⟨h1, h2, h3, h4⟩ := okPs_py ds h
    exact ⟨by simp only [toPy, pyD, h1, Option.map_some], by simp only [pyD, PyData.canLay0, h2], by simp only [pyD, PyData.intsShort, h3], by simp only [pyD, PyData.showable, h4]⟩
  | .dK _ _, h => by simp [okP] at h
  | .dT _ _, h => by simp [okP] at h
  | .ins _ _ _, h => by simp [okP] at h
  | .ref _, h => by simp [okP] at h
theorem okPs_py : ∀ ds : List D, okPs ds = true → toPys ds = some (pyDs ds) ∧ PyData.canLayAll0 (pyDs ds) = true ∧ PyData.intsShortAll 13 (pyDs ds) = true ∧ PyData.showableAll (pyDs ds) = true
  | [], _ => ⟨by simp only [toPys, pyDs], by simp [pyDs, PyData.canLayAll0], by simp [pyDs, PyData.intsShortAll], by simp [pyDs, PyData.showableAll]⟩
  | d :: ds, h => by
    simp only [okPs, Bool.and_eq_true] at h
    obtain ⟨h1, h2, h3, h4⟩ := okPs_py ds h.2
    obtain ⟨g1, g2, g3, g4⟩ := okP_py d h.1
    exact ⟨by simp only [toPys, pyDs, h1, g1], by simp only [pyDs, PyData.canLayAll0, h2, g2]; rfl, by simp only [pyDs, PyData.intsShortAll, h3, g3]; rfl, by simp only [pyDs, PyData.showableAll, h4, g4]; rfl⟩
end
section
variable {S : Sto} {P : D → Sto → Prop} {d e : D} {ds es : List D} {x : Str} {xs ys : List Str}
theorem pyOf_ok (h : okP d = true) (hd : (pyD d).depth ≤ 64) (ht : top S d = d) : pyOf S d = some (pyD d) := by
  obtain ⟨h1, h2, h3, h4⟩ := okP_py d h
  unfold pyOf
  rw [ht, h1]
  have : SeqAt.shaped (pyD d) = true := by unfold SeqAt.shaped; simp [h2, hd]
  simp [this]
theorem repr_l (h : okPs ds = true) (hd : (pyD (.lst ds)).depth ≤ 64) (hw : (pyD (.lst ds)).weight ≤ 2 ^ 20) : Okm (mRepr [.lst ds]) S P ↔ P (.str (pyD (.lst ds)).shown) S := by
  have hk : okP (.lst ds) = true := by simp only [okP]; exact h
  obtain ⟨h1, h2, h3, h4⟩ := okP_py (.lst ds) hk
  have hf : fits (pyD (.lst ds)).shown.length = true := by
    have : PyData.layable0 (pyD (.lst ds)) = true := by unfold PyData.layable0; simp only [h2, Bool.true_and, Bool.and_eq_true, decide_eq_true_eq]; exact ⟨hd, hw⟩
    exact fits_of (by have := PyProof.Rows.shown_le13 this h3; omega)
  refine opt1_some ?_
  show reprD S (.lst ds) = _
  have e : pyD (.lst ds) = .list (pyDs ds) := by simp only [pyD]
  have e0 := pyOf_ok (S := S) hk hd rfl
  rw [e] at h4 hf e0 ⊢
  unfold reprD
  simp only [e0, h4, hf]; rfl
theorem eq_tt (h : okPs ds = true) (h' : okPs es = true) (hd : (pyD (.tup ds)).depth ≤ 64) (hd' : (pyD (.tup es)).depth ≤ 64) : Okm (mEq (.tup ds) (.tup es)) S P ↔ P (.bl (PyData.eqvAll (pyDs ds) (pyDs es))) S := by
  refine opt1_some ?_
  show (eqD S (.tup ds) (.tup es)).map _ = _
  have hk : okP (.tup ds) = true := by simp only [okP]; exact h
  have hk' : okP (.tup es) = true := by simp only [okP]; exact h'
  unfold eqD
  simp only [pyOf_ok hk hd rfl, pyOf_ok hk' hd' rfl]
  simp only [pyD, PyData.eqv]; rfl
/-! ### tuples of texts -/
theorem pyDs_strs : ∀ xs : List Str, pyDs (xs.map D.str) = xs.map PyData.str
  | [] => by simp [pyDs]
  | x :: xs => by simp only [List.map_cons, pyDs, pyD, pyDs_strs xs]
theorem okPs_strs : ∀ {xs : List Str}, (∀ x ∈ xs, PyData.strOk x = true) → okPs (xs.map D.str) = true
  | [], _ => by simp [okPs]
  | x :: xs, h => by
    simp only [List.map_cons, okPs, okP, Bool.and_eq_true]
    exact ⟨h x (List.mem_cons_self ..), okPs_strs fun y hy => h y (List.mem_cons_of_mem _ hy)⟩
theorem depth_strs : ∀ xs : List Str, PyData.depthAll (xs.map PyData.str) = 0
  | [] => by simp [PyData.depthAll]
  | x :: xs => by simp [PyData.depthAll, PyData.depth, depth_strs xs]
theorem weight_strs {m : Nat} : ∀ {xs : List Str}, (∀ x ∈ xs, x.length ≤ m) → PyData.weightAll (xs.map PyData.str) ≤ xs.length * (m + 1)
  | [], _ => by simp [PyData.weightAll]
  | x :: xs, h => by
    have h1 := weight_strs (xs := xs) fun y hy => h y (List.mem_cons_of_mem _ hy)
    have h2 : x.cps.size ≤ m := h x (List.mem_cons_self ..)
    simp only [List.map_cons, PyData.weightAll, PyData.weight, List.length_cons, Nat.add_mul, Nat.one_mul]
    omega
theorem flatDs_strs : ∀ xs : List Str, flatDs (xs.map D.str) = some (xs.map V.str)
  | [] => rfl
  | x :: xs => by simp [flatDs, flatD, flatDs_strs xs]
theorem inV_strs {y : Str} : ∀ {xs : List Str}, inV (.str y) (xs.map V.str) = decide (y ∈ xs)
  | [] => rfl
  | x :: xs => by
    have ih := inV_strs (y := y) (xs := xs)
    unfold inV at ih ⊢
    rw [List.map_cons, List.any_cons, ih]
    show (x == y || _) = _
    by_cases e : y = x
    · subst e; simp
    · have : (x == y) = false := by simpa [beq_eq_false_iff_ne] using fun q : x = y => e q.symm
      simp [this, e]
theorem in_t {y : Str} : Okm (mIn (.str y) (.tup (xs.map D.str))) S P ↔ P (.bl (decide (y ∈ xs))) S := opt1_some (by
  show (inD S (.str y) (.tup (xs.map D.str))).map D.bl = _
  simp [inD, seqOf, CR.listOf, tupOf, flatD, flatDs_strs, inV_strs])
theorem notin_t {y : Str} : Okm (mNotIn (.str y) (.tup (xs.map D.str))) S P ↔ P (.bl (!decide (y ∈ xs))) S := opt1_some (by
  show (inD S (.str y) (.tup (xs.map D.str))).map (fun b => D.bl !b) = _
  simp [inD, seqOf, CR.listOf, tupOf, flatD, flatDs_strs, inV_strs])
/-- slices of tuples -/
theorem slt_l {k : Nat} : slD S (.tup ds) none (some (k : Int)) = some (.tup (ds.take k)) := by
  simp only [slD, cutD, HT.sIx_none, HT.sIx_nat]
  simp
theorem slt_r {k : Nat} : slD S (.tup ds) (some (k : Int)) none = some (.tup (ds.drop k)) := by
  simp only [slD, cutD, HT.sIx_none, HT.sIx_nat]
  by_cases h : k ≤ ds.length
  · rw [Nat.min_eq_left h, List.take_of_length_le (by simp)]
  · rw [Nat.min_eq_right (by omega), List.drop_length, List.drop_of_length_le (by omega)]; simp
theorem sll_l {k : Nat} : slD S (.lst ds) none (some (k : Int)) = some (.lst (ds.take k)) := by
  simp only [slD, CR.listOf, Option.map_some, cutD, HT.sIx_none, HT.sIx_nat]
  simp
end
end CR

/-! Printed by gen.py: the defs of a law, what they compute, how the walk shows it. -/
namespace K50
open PySem PySem.Spec PyProof.Rows L2 CR
abbrev pg : Program := PySem.Challenge.pw_closerow_k50_expanded
def top (i : Nat) : Stmt := pg.main.body.getD i (.Pass ⟨0, 0, 0, 0⟩)
structure Ms (c : Kx) (mg : Str → Option Value) : Prop where
  n_abs : mg "abs" = none
  n_all : mg "all" = none
  n_divmod : mg "divmod" = none
  n_int : mg "int" = none
  n_isinstance : mg "isinstance" = none
  n_len : mg "len" = none
  n_list : mg "list" = none
  n_max : mg "max" = none
  n_min : mg "min" = none
  n_range : mg "range" = none
  n_repr : mg "repr" = none
  n_set : mg "set" = none
  n_sorted : mg "sorted" = none
  n_str : mg "str" = none
  n_tuple : mg "tuple" = none
  c_LETTERS : GlD c mg "LETTERS" (.str "abcdefghijklmnopqrstuvwxyz")
  c_LONGEST_NAME : GlD c mg "LONGEST_NAME" (.int 6)
variable {c : Kx} {P : Program} {w : World} {mg : Str → Option Value} {base : Heap}
/-! ### is_name -/
def N_is_name : List Str := ["value", "letter"]
def sh_is_name : List (Nat × List Str × List Sr) := [(1, [], [.p 0])]
def dd_is_name : List D := []
noncomputable def d_is_name : MS := (sSeq (sIf (tOrM (tNotM (tTru mTru (eUn (isiD "str") (eVar 0)))) (tNotM (tOf (eChain mLe mLe (eCst (.int 1)) (eCallB mLen (aCons (eVar 0) aNil)) (eCst (.int 6)))))) (sRet (eCst (.bl false))) sNext)
    (sRet (eCallB mAll (aCons (eComp true false (iSeq (eVar 0)) [1] (gmName 1) tYesM (eOp mIn (eVar 1) (eCst (.str "abcdefghijklmnopqrstuvwxyz")))) aNil))))
noncomputable def f_is_name : List D → M D := runF false N_is_name 1 d_is_name
theorem w_is_name {X : Cx} {W : WX} (M : Ms c mg) (g : GX c P w mg base 0 N_is_name (defScope (top 7)) true X W) : PSs X (defBody (top 7)) (SvR c W d_is_name) :=
  (sv_cons (sv_if (tBool (tw_or (tv_not (tTruth g rfl (xIsi g M.n_isinstance (by kernel_rfl) M.n_str (by kernel_rfl) CR.boot_str rfl (xVar g (by kernel_rfl))))) (tw_or1 (tv_not (tChain cLe cLe rfl rfl (ev_int) (xLen g M.n_len (by kernel_rfl) rfl (xCons rfl (xVar g (by kernel_rfl)) av_nil)) (xGlob g (by kernel_rfl) M.c_LONGEST_NAME)))))) (sv_one (sv_ret (ev_bl))) sv_nil)
    (sv_one (sv_ret (xAll g M.n_all (by kernel_rfl) rfl (xCons rfl (xLc1 g (by kernel_rfl) rfl (by kernel_rfl) (iSeq_ g (xVar g (by kernel_rfl))) (fun X1 g_ => tvs_nil) (fun X1 g_ => (xCmp (cIn g_) rfl (xVar g_ (by kernel_rfl)) (xGlob g_ (by kernel_rfl) M.c_LETTERS)))) av_nil)))))
theorem sc_is_name : FnScope N_is_name ["value"] (defScope (top 7)) := ⟨by kernel_rfl, by kernel_rfl, by kernel_rfl, by decide +kernel, by kernel_rfl, by decide +kernel, by decide +kernel⟩
theorem o_is_name {fa : Addr} {fd : FuncData} (M : Ms c mg) (D : FunD c.K "is_name" "is_name" (defArgs (top 7)) (defBody (top 7)) (defScope (top 7)) [] [] fa fd) (hm : mg "is_name" = some (.ref fa)) : FnB c P w mg base 1 "is_name" sh_is_name dd_is_name f_is_name := by
  refine FnB.of (ps := ["value"]) D sc_is_name hm (fun _ _ => .nil) (fun X W g => w_is_name M g) ?_
  unfold sh_is_name
  refine List.forall_mem_cons.mpr ⟨?_, ?_⟩
  · exact bindP D fun _ _ _ _ _ _ us ws ls h1 h2 h3 => match us, ws, h1, h2, h3 with | [_], [], _, _, h3 => by cases h3; rfl
  exact fun _ h => nomatch h
/-! ### are_different -/
def N_are_different : List Str := ["value", "name"]
def sh_are_different : List (Nat × List Str × List Sr) := [(1, [], [.p 0])]
def dd_are_different : List D := []
noncomputable def d_are_different : MS := (sSeq (sIf (tOrM (tNotM (tTru mTru (eUn (isiD "tuple") (eVar 0)))) (tOrM (tOf (eOp mEq (eVar 0) (eTup aNil))) (tNotM (tTru mTru (eCallB mAll (aCons (eComp true false (iSeq (eVar 0)) [1] (gmName 1) tYesM (eCallF f_is_name 1 0 [.p 0] dd_is_name (aCons (eVar 1) aNil) aNil)) aNil)))))) (sRet (eCst (.bl false))) sNext)
    (sRet (eOp mEq (eLenSet (eVar 0)) (eCallB mLen (aCons (eVar 0) aNil)))))
noncomputable def f_are_different : List D → M D := runF false N_are_different 1 d_are_different
theorem w_are_different {X : Cx} {W : WX} (M : Ms c mg) (F_is_name : FnB c P w mg base 1 "is_name" sh_is_name dd_is_name f_is_name) (g : GX c P w mg base 1 N_are_different (defScope (top 9)) true X W) : PSs X (defBody (top 9)) (SvR c W d_are_different) :=
  (sv_cons (sv_if (tBool (tw_or (tv_not (tTruth g rfl (xIsi g M.n_isinstance (by kernel_rfl) M.n_tuple (by kernel_rfl) CR.boot_tuple rfl (xVar g (by kernel_rfl))))) (tw_or (tCmp (cEq g) rfl (xVar g (by kernel_rfl)) (ev_tup av_nil)) (tw_or1 (tv_not (tTruth g rfl (xAll g M.n_all (by kernel_rfl) rfl (xCons rfl (xLc1 g (by kernel_rfl) rfl (by kernel_rfl) (iSeq_ g (xVar g (by kernel_rfl))) (fun X1 g_ => tvs_nil) (fun X1 g_ => (xCall g_ F_is_name (by decide) (.head _) (by kernel_rfl) rfl (xCons rfl (xVar g_ (by kernel_rfl)) av_nil)))) av_nil)))))))) (sv_one (sv_ret (ev_bl))) sv_nil)
    (sv_one (sv_ret (xCmp (cEq g) rfl (xLenSet g M.n_len (by kernel_rfl) M.n_set (by kernel_rfl) rfl (xVar g (by kernel_rfl))) (xLen g M.n_len (by kernel_rfl) rfl (xCons rfl (xVar g (by kernel_rfl)) av_nil))))))
theorem sc_are_different : FnScope N_are_different ["value"] (defScope (top 9)) := ⟨by kernel_rfl, by kernel_rfl, by kernel_rfl, by decide +kernel, by kernel_rfl, by decide +kernel, by decide +kernel⟩
theorem o_are_different {fa : Addr} {fd : FuncData} (M : Ms c mg) (F_is_name : FnB c P w mg base 1 "is_name" sh_is_name dd_is_name f_is_name) (D : FunD c.K "are_different" "are_different" (defArgs (top 9)) (defBody (top 9)) (defScope (top 9)) [] [] fa fd) (hm : mg "are_different" = some (.ref fa)) : FnB c P w mg base 2 "are_different" sh_are_different dd_are_different f_are_different := by
  refine FnB.of (ps := ["value"]) D sc_are_different hm (fun _ _ => .nil) (fun X W g => w_are_different M F_is_name g) ?_
  unfold sh_are_different
  refine List.forall_mem_cons.mpr ⟨?_, ?_⟩
  · exact bindP D fun _ _ _ _ _ _ us ws ls h1 h2 h3 => match us, ws, h1, h2, h3 with | [_], [], _, _, h3 => by cases h3; rfl
  exact fun _ h => nomatch h
/-! ### expanded -/
def N_expanded : List Str := ["row", "inner", "found", "name"]
def sh_expanded : List (Nat × List Str × List Sr) := [(0, ["inner", "row"], [.k 1, .k 0]), (2, [], [.p 0, .p 1])]
def dd_expanded : List D := []
noncomputable def d_expanded : MS := (sSeq (sIf (tNotM (tTru mTru (eCallF f_are_different 1 0 [.p 0] dd_are_different (aCons (eVar 0) aNil) aNil))) (sBad) sNext)
    (sSeq (sIf (tOrM (tNotM (tTru mTru (eCallF f_are_different 1 0 [.p 0] dd_are_different (aCons (eVar 1) aNil) aNil))) (tOf (eOp mNe (eCallB mLen (aCons (eComp true false (iSeq (eVar 1)) [3] (gmName 3) (tOf (eOp mIn (eVar 3) (eVar 0))) (eVar 3)) aNil)) (eCst (.int 1))))) (sBad) sNext)
    (sSeq (sAsg (eLstM aNil) (gNameM 2))
    (sSeq (sFor (iSeq (eVar 0)) (gNameM 3) (sAug 2 iaddM (eIfM (tOf (eOp mIn (eVar 3) (eVar 1))) (eCallB (opt1 listG) (aCons (eVar 1) aNil)) (eLst (aCons (eVar 3) aNil)))))
    (sRet (eCallB (opt1 tupleF) (aCons (eVar 2) aNil)))))))
noncomputable def f_expanded : List D → M D := runF false N_expanded 2 d_expanded
theorem w_expanded {X : Cx} {W : WX} (M : Ms c mg) (F_are_different : FnB c P w mg base 2 "are_different" sh_are_different dd_are_different f_are_different) (g : GX c P w mg base 2 N_expanded (defScope (top 10)) true X W) : PSs X (defBody (top 10)) (SvR c W d_expanded) :=
  (sv_cons (sv_if (tv_not (tTruth g rfl (xCall g F_are_different (by decide) (.head _) (by kernel_rfl) rfl (xCons rfl (xVar g (by kernel_rfl)) av_nil)))) (sv_one (sv_bad)) sv_nil)
    (sv_cons (sv_if (tBool (tw_or (tv_not (tTruth g rfl (xCall g F_are_different (by decide) (.head _) (by kernel_rfl) rfl (xCons rfl (xVar g (by kernel_rfl)) av_nil)))) (tw_or1 (tCmp (cNe g) rfl (xLen g M.n_len (by kernel_rfl) rfl (xCons rfl (xLc1 g (by kernel_rfl) rfl (by kernel_rfl) (iSeq_ g (xVar g (by kernel_rfl))) (fun X1 g_ => (tvs_one (tCmp (cIn g_) rfl (xVar g_ (by kernel_rfl)) (xVar g_ (by kernel_rfl))))) (fun X1 g_ => (xVar g_ (by kernel_rfl)))) av_nil)) (ev_int))))) (sv_one (sv_bad)) sv_nil)
    (sv_cons (yAsg rfl rfl rfl (ev_lstM av_nil) (gName_ g (by kernel_rfl)))
    (sv_cons (yFor g rfl (iSeq_ g (xVar g (by kernel_rfl))) (gName_ g (by kernel_rfl)) (sv_one (yAug g (by kernel_rfl) (ev_if (tCmp (cIn g) rfl (xVar g (by kernel_rfl)) (xVar g (by kernel_rfl))) (xList g M.n_list (by kernel_rfl) rfl (xCons rfl (xVar g (by kernel_rfl)) av_nil)) (ev_lst (xCons rfl (xVar g (by kernel_rfl)) av_nil))))))
    (sv_one (sv_ret (xTuple g M.n_tuple (by kernel_rfl) rfl (xCons rfl (xVar g (by kernel_rfl)) av_nil))))))))
theorem sc_expanded : FnScope N_expanded ["row", "inner"] (defScope (top 10)) := ⟨by kernel_rfl, by kernel_rfl, by kernel_rfl, by decide +kernel, by kernel_rfl, by decide +kernel, by decide +kernel⟩
theorem o_expanded {fa : Addr} {fd : FuncData} (M : Ms c mg) (F_are_different : FnB c P w mg base 2 "are_different" sh_are_different dd_are_different f_are_different) (D : FunD c.K "expanded" "expanded" (defArgs (top 10)) (defBody (top 10)) (defScope (top 10)) [] [] fa fd) (hm : mg "expanded" = some (.ref fa)) : FnB c P w mg base 3 "expanded" sh_expanded dd_expanded f_expanded := by
  refine FnB.of (ps := ["row", "inner"]) D sc_expanded hm (fun _ _ => .nil) (fun X W g => w_expanded M F_are_different g) ?_
  unfold sh_expanded
  refine List.forall_mem_cons.mpr ⟨?_, ?_⟩
  · exact bindP D fun _ _ _ _ _ _ us ws ls h1 h2 h3 => match us, ws, h1, h2, h3 with | [], [_, _], _, _, h3 => by cases h3; rfl
  refine List.forall_mem_cons.mpr ⟨?_, ?_⟩
  · exact bindP D fun _ _ _ _ _ _ us ws ls h1 h2 h3 => match us, ws, h1, h2, h3 with | [_, _], [], _, _, h3 => by cases h3; rfl
  exact fun _ h => nomatch h
/-! ### _law_told_right -/
def N__law_told_right : List Str := ["_law_order", "_law_more", "_law_at", "_law_due", "_law_shown", "_law_k"]
def sh__law_told_right : List (Nat × List Str × List Sr) := [(2, [], [.p 0, .p 1])]
def dd__law_told_right : List D := []
noncomputable def d__law_told_right : MS := (sSeq (sAsg (eOp mIx (eComp true false (iRg rng1 (aCons (eCallB mLen (aCons (eVar 0) aNil)) aNil)) [5] (gmName 5) (tOf (eOp mIn (eOp mIx (eVar 0) (eVar 5)) (eVar 1))) (eVar 5)) (eCst (.int 0))) (gNameM 2))
    (sSeq (sPar 3 4 (aCons (eOp mAdd (eOp mAdd (eSl (eVar 0) oNone (oSome (eVar 2))) (eVar 1)) (eSl (eVar 0) (oSome (eOp mAdd (eVar 2) (eCst (.int 1)))) oNone)) (aCons (eCallB mRepr (aCons (eLst (aCons (eVar 0) (aCons (eVar 1) aNil))) aNil)) aNil)))
    (sSeq (sIf (tOf (eOp mNe (eCallB mRepr (aCons (eLst (aCons (eCallF f_expanded 2 0 [.p 0, .p 1] dd_expanded (aCons (eVar 0) (aCons (eVar 1) aNil)) aNil) (aCons (eCallF f_expanded 0 2 [.k 1, .k 0] dd_expanded aNil (aCons (eVar 1) (aCons (eVar 0) aNil))) aNil))) aNil)) (eCallB mRepr (aCons (eLst (aCons (eVar 3) (aCons (eVar 3) aNil))) aNil)))) (sRet (eCst (.bl false))) sNext)
    (sRet (eAndM (eOp mEq (eCallB mRepr (aCons (eLst (aCons (eVar 0) (aCons (eVar 1) aNil))) aNil)) (eVar 4)) (eOp mEq (eCallB mLen (aCons (eCallF f_expanded 2 0 [.p 0, .p 1] dd_expanded (aCons (eVar 0) (aCons (eVar 1) aNil)) aNil) aNil)) (eOp mSub (eOp mAdd (eCallB mLen (aCons (eVar 0) aNil)) (eCallB mLen (aCons (eVar 1) aNil))) (eCst (.int 1)))))))))
noncomputable def f__law_told_right : List D → M D := runF false N__law_told_right 2 d__law_told_right
theorem w__law_told_right {X : Cx} {W : WX} (M : Ms c mg) (F_expanded : FnB c P w mg base 3 "expanded" sh_expanded dd_expanded f_expanded) (g : GX c P w mg base 3 N__law_told_right (defScope (top 17)) true X W) : PSs X (defBody (top 17)) (SvR c W d__law_told_right) :=
  (sv_cons (yAsg rfl rfl rfl (xIx g rfl (xLc1 g (by kernel_rfl) rfl (by kernel_rfl) (iRange1_ g M.n_range (by kernel_rfl) rfl (xCons rfl (xLen g M.n_len (by kernel_rfl) rfl (xCons rfl (xVar g (by kernel_rfl)) av_nil)) av_nil)) (fun X1 g_ => (tvs_one (tCmp (cIn g_) rfl (xIx g_ rfl (xVar g_ (by kernel_rfl)) (xVar g_ (by kernel_rfl))) (xVar g_ (by kernel_rfl))))) (fun X1 g_ => (xVar g_ (by kernel_rfl)))) (ev_int)) (gName_ g (by kernel_rfl)))
    (sv_cons (yPar g (by kernel_rfl) (by kernel_rfl) (by decide) (by kernel_rfl) (by kernel_rfl) (by kernel_rfl) (xCons rfl (xAdd g (xAdd g (xSl g (xVar g (by kernel_rfl)) ov_none (ov_some (xVar g (by kernel_rfl)))) (xVar g (by kernel_rfl))) (xSl g (xVar g (by kernel_rfl)) (ov_some (xAdd g (xVar g (by kernel_rfl)) (ev_int))) ov_none)) (xCons rfl (xRepr g M.n_repr (by kernel_rfl) rfl (xCons rfl (ev_lst (xCons rfl (xVar g (by kernel_rfl)) (xCons rfl (xVar g (by kernel_rfl)) av_nil))) av_nil)) av_nil)))
    (sv_cons (sv_if (tCmp (cNe g) rfl (xRepr g M.n_repr (by kernel_rfl) rfl (xCons rfl (ev_lst (xCons rfl (xCall g F_expanded (by decide) (.tail _ (.head _)) (by kernel_rfl) rfl (xCons rfl (xVar g (by kernel_rfl)) (xCons rfl (xVar g (by kernel_rfl)) av_nil))) (xCons rfl (xCallK0 g F_expanded (by decide) (.head _) (by kernel_rfl) (by kernel_rfl) (kv_cons (xVar g (by kernel_rfl)) (kv_cons (xVar g (by kernel_rfl)) kv_nil))) av_nil))) av_nil)) (xRepr g M.n_repr (by kernel_rfl) rfl (xCons rfl (ev_lst (xCons rfl (xVar g (by kernel_rfl)) (xCons rfl (xVar g (by kernel_rfl)) av_nil))) av_nil))) (sv_one (sv_ret (ev_bl))) sv_nil)
    (sv_one (sv_ret (ev_and (xCmp (cEq g) rfl (xRepr g M.n_repr (by kernel_rfl) rfl (xCons rfl (ev_lst (xCons rfl (xVar g (by kernel_rfl)) (xCons rfl (xVar g (by kernel_rfl)) av_nil))) av_nil)) (xVar g (by kernel_rfl))) (ev_one (xCmp (cEq g) rfl (xLen g M.n_len (by kernel_rfl) rfl (xCons rfl (xCall g F_expanded (by decide) (.tail _ (.head _)) (by kernel_rfl) rfl (xCons rfl (xVar g (by kernel_rfl)) (xCons rfl (xVar g (by kernel_rfl)) av_nil))) av_nil)) (xSub (xAdd g (xLen g M.n_len (by kernel_rfl) rfl (xCons rfl (xVar g (by kernel_rfl)) av_nil)) (xLen g M.n_len (by kernel_rfl) rfl (xCons rfl (xVar g (by kernel_rfl)) av_nil))) (ev_int))))))))))
theorem sc__law_told_right : FnScope N__law_told_right ["_law_order", "_law_more"] (defScope (top 17)) := ⟨by kernel_rfl, by kernel_rfl, by kernel_rfl, by decide +kernel, by kernel_rfl, by decide +kernel, by decide +kernel⟩
theorem o__law_told_right {fa : Addr} {fd : FuncData} (M : Ms c mg) (F_expanded : FnB c P w mg base 3 "expanded" sh_expanded dd_expanded f_expanded) (D : FunD c.K "_law_told_right" "_law_told_right" (defArgs (top 17)) (defBody (top 17)) (defScope (top 17)) [] [] fa fd) (hm : mg "_law_told_right" = some (.ref fa)) : FnB c P w mg base 4 "_law_told_right" sh__law_told_right dd__law_told_right f__law_told_right := by
  refine FnB.of (ps := ["_law_order", "_law_more"]) D sc__law_told_right hm (fun _ _ => .nil) (fun X W g => w__law_told_right M F_expanded g) ?_
  unfold sh__law_told_right
  refine List.forall_mem_cons.mpr ⟨?_, ?_⟩
  · exact bindP D fun _ _ _ _ _ _ us ws ls h1 h2 h3 => match us, ws, h1, h2, h3 with | [_, _], [], _, _, h3 => by cases h3; rfl
  exact fun _ h => nomatch h
/-! ### _law_draw -/
def N__law_draw : List Str := ["_law_pool_here", "_law_most", "_law_state", "_law_digit"]
def sh__law_draw : List (Nat × List Str × List Sr) := [(2, [], [.p 0, .p 1])]
def dd__law_draw : List D := []
noncomputable def d__law_draw : MS := (sSeq (sAsg (eOp mAdd (eOp mIx (eVar 0) (eCst (.int 2))) (eCst (.int 1))) (gSubM (eVar 0) (eCst (.int 2)) mSetL))
    (sSeq (sAsg (eOp mIx (eVar 0) (eCst (.int 0))) (gNameM 2))
    (sSeq (sAsg (eOp mMod (eOp mAdd (eOp mMul (eVar 2) (eOp mAdd (eOp mMod (eVar 2) (eCst (.int 46021))) (eCst (.int 29027)))) (eOp mMul (eCst (.int 90011)) (eOp mIx (eVar 0) (eCst (.int 2))))) (eCst (.int 2147483053))) (gSubM (eVar 0) (eCst (.int 0)) mSetL))
    (sSeq (sIf (tOf (eOp mGt (eOp mIx (eVar 0) (eCst (.int 1))) (eCst (.int 0)))) (sSeq (sAsg (eCallB (opt2 divmodD) (aCons (eOp mIx (eVar 0) (eCst (.int 1))) (aCons (eVar 1) aNil))) (gTupM 2 (gsCons (gSubM (eVar 0) (eCst (.int 1)) mSetL) (gsCons (gNameM 3) gsNil))))
    (sRet (eVar 3))) sNext)
    (sRet (eOp mMod (eOp mFdiv (eOp mIx (eVar 0) (eCst (.int 0))) (eCst (.int 64))) (eVar 1)))))))
noncomputable def f__law_draw : List D → M D := runF false N__law_draw 2 d__law_draw
theorem w__law_draw {X : Cx} {W : WX} (M : Ms c mg) (g : GX c P w mg base 0 N__law_draw (defScope (top 14)) true X W) : PSs X (defBody (top 14)) (SvR c W d__law_draw) :=
  (sv_cons (yAsg rfl rfl rfl (xAdd g (xIx g rfl (xVar g (by kernel_rfl)) (ev_int)) (ev_int)) (gSub_ set_mSetL NoX.setL rfl (xVar g.calm0 (by kernel_rfl)) (ev_int)))
    (sv_cons (yAsg rfl rfl rfl (xIx g rfl (xVar g (by kernel_rfl)) (ev_int)) (gName_ g (by kernel_rfl)))
    (sv_cons (yAsg rfl rfl rfl (xMod (xAdd g (xMul g (xVar g (by kernel_rfl)) (xAdd g (xMod (xVar g (by kernel_rfl)) (ev_int)) (ev_int))) (xMul g (ev_int) (xIx g rfl (xVar g (by kernel_rfl)) (ev_int)))) (ev_int)) (gSub_ set_mSetL NoX.setL rfl (xVar g.calm0 (by kernel_rfl)) (ev_int)))
    (sv_cons (sv_if (tCmp cGt rfl (xIx g rfl (xVar g (by kernel_rfl)) (ev_int)) (ev_int)) (sv_cons (yAsg2 rfl rfl rfl (xDivmod g M.n_divmod (by kernel_rfl) rfl (xCons rfl (xIx g rfl (xVar g (by kernel_rfl)) (ev_int)) (xCons rfl (xVar g (by kernel_rfl)) av_nil))) (gTup_ g rfl rfl (gCons_ rfl (gSub_ set_mSetL NoX.setL rfl (xVar g.calm0 (by kernel_rfl)) (ev_int)) (gCons_ rfl (gName_ g (by kernel_rfl)) gv_nil))))
    (sv_one (sv_ret (xVar g (by kernel_rfl))))) sv_nil)
    (sv_one (sv_ret (xMod (xFdiv (xIx g rfl (xVar g (by kernel_rfl)) (ev_int)) (ev_int)) (xVar g (by kernel_rfl)))))))))
theorem sc__law_draw : FnScope N__law_draw ["_law_pool_here", "_law_most"] (defScope (top 14)) := ⟨by kernel_rfl, by kernel_rfl, by kernel_rfl, by decide +kernel, by kernel_rfl, by decide +kernel, by decide +kernel⟩
theorem o__law_draw {fa : Addr} {fd : FuncData} (M : Ms c mg) (D : FunD c.K "_law_draw" "_law_draw" (defArgs (top 14)) (defBody (top 14)) (defScope (top 14)) [] [] fa fd) (hm : mg "_law_draw" = some (.ref fa)) : FnB c P w mg base 1 "_law_draw" sh__law_draw dd__law_draw f__law_draw := by
  refine FnB.of (ps := ["_law_pool_here", "_law_most"]) D sc__law_draw hm (fun _ _ => .nil) (fun X W g => w__law_draw M g) ?_
  unfold sh__law_draw
  refine List.forall_mem_cons.mpr ⟨?_, ?_⟩
  · exact bindP D fun _ _ _ _ _ _ us ws ls h1 h2 h3 => match us, ws, h1, h2, h3 with | [_, _], [], _, _, h3 => by cases h3; rfl
  exact fun _ h => nomatch h
/-! ### _law_things -/
def N__law_things : List Str := ["_law_pool_here", "_law_many", "_law_own", "_law_stem", "_law_k", "_law_first", "_law_pace", "_law_letters", "_law_found", "_law_cut", "_law_begin", "_law_letter"]
def sh__law_things : List (Nat × List Str × List Sr) := [(2, [], [.p 0, .p 1])]
def dd__law_things : List D := []
noncomputable def d__law_things : MS := (sSeq (sAsg (eLst (aCons (eCst (.str "add")) (aCons (eCst (.str "remove")) (aCons (eCst (.str "change")) (aCons (eCst (.str "rename")) (aCons (eCst (.str "merge")) (aCons (eCst (.str "undo")) (aCons (eCst (.str "names")) (aCons (eCst (.str "table")) (aCons (eCst (.str "row")) (aCons (eCst (.str "count")) aNil))))))))))) (gNameM 2))
    (sSeq (sAsg (eTup (aCons (eCallF f__law_draw 2 0 [.p 0, .p 1] dd__law_draw (aCons (eVar 0) (aCons (eCst (.int 10)) aNil)) aNil) (aCons (eOp mIx (eLst (aCons (eCst (.int 1)) (aCons (eCst (.int 3)) (aCons (eCst (.int 7)) (aCons (eCst (.int 9)) aNil))))) (eCallF f__law_draw 2 0 [.p 0, .p 1] dd__law_draw (aCons (eVar 0) (aCons (eCst (.int 4)) aNil)) aNil)) aNil))) (gTupM 2 (gsCons (gNameM 5) (gsCons (gNameM 6) gsNil))))
    (sSeq (sIf (tOf (eOp mEq (eCallF f__law_draw 2 0 [.p 0, .p 1] dd__law_draw (aCons (eVar 0) (aCons (eCst (.int 4)) aNil)) aNil) (eCst (.int 1)))) (sRet (eCallB (opt1 tupleF) (aCons (eCallB (opt1 sortD) (aCons (eComp true false (iRg rng1 (aCons (eVar 1) aNil)) [4] (gmName 4) tYesM (eOp mIx (eVar 2) (eOp mMod (eOp mAdd (eVar 5) (eOp mMul (eVar 6) (eVar 4))) (eCst (.int 10))))) aNil)) aNil))) sNext)
    (sSeq (sAsg (eTup (aCons (eCst (.str "abcdefghijklmnopqrstuvwxyz")) (aCons (eLstM aNil) aNil))) (gTupM 2 (gsCons (gNameM 7) (gsCons (gNameM 8) gsNil))))
    (sSeq (sAsg (eMeth isS mJoin (eCst (.str "")) (aCons (eComp true false (iRg rng1 (aCons (eCallF f__law_draw 2 0 [.p 0, .p 1] dd__law_draw (aCons (eVar 0) (aCons (eCst (.int 6)) aNil)) aNil) aNil)) [4] (gmName 4) tYesM (eOp mIx (eVar 7) (eCallF f__law_draw 2 0 [.p 0, .p 1] dd__law_draw (aCons (eVar 0) (aCons (eCst (.int 26)) aNil)) aNil))) aNil)) (gNameM 3))
    (sSeq (sPar 9 10 (aCons (eCallF f__law_draw 2 0 [.p 0, .p 1] dd__law_draw (aCons (eVar 0) (aCons (eOp mAdd (eCallB mLen (aCons (eVar 3) aNil)) (eCst (.int 1))) aNil)) aNil) (aCons (eCallF f__law_draw 2 0 [.p 0, .p 1] dd__law_draw (aCons (eVar 0) (aCons (eCst (.int 26)) aNil)) aNil) aNil)))
    (sSeq (sFor (iRg rng1 (aCons (eVar 1) aNil)) (gNameM 4) (sSeq (sAsg (eOp mIx (eVar 7) (eOp mMod (eOp mAdd (eVar 10) (eOp mMul (eVar 6) (eVar 4))) (eCst (.int 26)))) (gNameM 11))
    (sExpr (eMeth isL mAppend (eVar 8) (aCons (eOp mAdd (eOp mAdd (eSl (eVar 3) oNone (oSome (eVar 9))) (eVar 11)) (eSl (eVar 3) (oSome (eVar 9)) oNone)) aNil)))))
    (sRet (eCallB (opt1 tupleF) (aCons (eCallB (opt1 sortD) (aCons (eVar 8) aNil)) aNil))))))))))
noncomputable def f__law_things : List D → M D := runF false N__law_things 2 d__law_things
theorem w__law_things {X : Cx} {W : WX} (M : Ms c mg) (F__law_draw : FnB c P w mg base 1 "_law_draw" sh__law_draw dd__law_draw f__law_draw) (g : GX c P w mg base 1 N__law_things (defScope (top 16)) true X W) : PSs X (defBody (top 16)) (SvR c W d__law_things) :=
  (sv_cons (yAsg rfl rfl rfl (ev_lst (xCons rfl (ev_str) (xCons rfl (ev_str) (xCons rfl (ev_str) (xCons rfl (ev_str) (xCons rfl (ev_str) (xCons rfl (ev_str) (xCons rfl (ev_str) (xCons rfl (ev_str) (xCons rfl (ev_str) (xCons rfl (ev_str) av_nil))))))))))) (gName_ g (by kernel_rfl)))
    (sv_cons (yAsg3 g rfl rfl (by kernel_rfl) (ev_tup (xCons rfl (xCall g F__law_draw (by decide) (.head _) (by kernel_rfl) rfl (xCons rfl (xVar g (by kernel_rfl)) (xCons rfl (ev_int) av_nil))) (xCons rfl (xIx g rfl (ev_lst (xCons rfl (ev_int) (xCons rfl (ev_int) (xCons rfl (ev_int) (xCons rfl (ev_int) av_nil))))) (xCall g F__law_draw (by decide) (.head _) (by kernel_rfl) rfl (xCons rfl (xVar g (by kernel_rfl)) (xCons rfl (ev_int) av_nil)))) av_nil))) (gTup_ g rfl rfl (gCons_ rfl (gName_ g (by kernel_rfl)) (gCons_ rfl (gName_ g (by kernel_rfl)) gv_nil))))
    (sv_cons (sv_if (tCmp (cEq g) rfl (xCall g F__law_draw (by decide) (.head _) (by kernel_rfl) rfl (xCons rfl (xVar g (by kernel_rfl)) (xCons rfl (ev_int) av_nil))) (ev_int)) (sv_one (sv_ret (xTuple g M.n_tuple (by kernel_rfl) rfl (xCons rfl (xSorted g M.n_sorted (by kernel_rfl) rfl (xCons rfl (xLc1 g (by kernel_rfl) rfl (by kernel_rfl) (iRange1_ g M.n_range (by kernel_rfl) rfl (xCons rfl (xVar g (by kernel_rfl)) av_nil)) (fun X1 g_ => tvs_nil) (fun X1 g_ => (xIx g_ rfl (xVar g_ (by kernel_rfl)) (xMod (xAdd g_ (xVar g_ (by kernel_rfl)) (xMul g_ (xVar g_ (by kernel_rfl)) (xVar g_ (by kernel_rfl)))) (ev_int))))) av_nil)) av_nil)))) sv_nil)
    (sv_cons (yAsg3 g rfl rfl (by kernel_rfl) (ev_tup (xCons rfl (ev_str) (xCons rfl (ev_lstM av_nil) av_nil))) (gTup_ g rfl rfl (gCons_ rfl (gName_ g (by kernel_rfl)) (gCons_ rfl (gName_ g (by kernel_rfl)) gv_nil))))
    (sv_cons (yAsg rfl rfl rfl (xJoin rfl rfl rfl g (ev_str) (xCons rfl (xLc1 g (by kernel_rfl) rfl (by kernel_rfl) (iRange1_ g M.n_range (by kernel_rfl) rfl (xCons rfl (xCall g F__law_draw (by decide) (.head _) (by kernel_rfl) rfl (xCons rfl (xVar g (by kernel_rfl)) (xCons rfl (ev_int) av_nil))) av_nil)) (fun X1 g_ => tvs_nil) (fun X1 g_ => (xIx g_ rfl (xVar g_ (by kernel_rfl)) (xCall g_ F__law_draw (by decide) (.head _) (by kernel_rfl) rfl (xCons rfl (xVar g_ (by kernel_rfl)) (xCons rfl (ev_int) av_nil)))))) av_nil)) (gName_ g (by kernel_rfl)))
    (sv_cons (yPar g (by kernel_rfl) (by kernel_rfl) (by decide) (by kernel_rfl) (by kernel_rfl) (by kernel_rfl) (xCons rfl (xCall g F__law_draw (by decide) (.head _) (by kernel_rfl) rfl (xCons rfl (xVar g (by kernel_rfl)) (xCons rfl (xAdd g (xLen g M.n_len (by kernel_rfl) rfl (xCons rfl (xVar g (by kernel_rfl)) av_nil)) (ev_int)) av_nil))) (xCons rfl (xCall g F__law_draw (by decide) (.head _) (by kernel_rfl) rfl (xCons rfl (xVar g (by kernel_rfl)) (xCons rfl (ev_int) av_nil))) av_nil)))
    (sv_cons (yFor g rfl (iRange1_ g M.n_range (by kernel_rfl) rfl (xCons rfl (xVar g (by kernel_rfl)) av_nil)) (gName_ g (by kernel_rfl)) (sv_cons (yAsg rfl rfl rfl (xIx g rfl (xVar g (by kernel_rfl)) (xMod (xAdd g (xVar g (by kernel_rfl)) (xMul g (xVar g (by kernel_rfl)) (xVar g (by kernel_rfl)))) (ev_int))) (gName_ g (by kernel_rfl)))
    (sv_one (yExpr rfl (xAppend rfl rfl rfl g (xVar g (by kernel_rfl)) (xCons rfl (xAdd g (xAdd g (xSl g (xVar g (by kernel_rfl)) ov_none (ov_some (xVar g (by kernel_rfl)))) (xVar g (by kernel_rfl))) (xSl g (xVar g (by kernel_rfl)) (ov_some (xVar g (by kernel_rfl))) ov_none)) av_nil))))))
    (sv_one (sv_ret (xTuple g M.n_tuple (by kernel_rfl) rfl (xCons rfl (xSorted g M.n_sorted (by kernel_rfl) rfl (xCons rfl (xVar g (by kernel_rfl)) av_nil)) av_nil)))))))))))
theorem sc__law_things : FnScope N__law_things ["_law_pool_here", "_law_many"] (defScope (top 16)) := ⟨by kernel_rfl, by kernel_rfl, by kernel_rfl, by decide +kernel, by kernel_rfl, by decide +kernel, by decide +kernel⟩
theorem o__law_things {fa : Addr} {fd : FuncData} (M : Ms c mg) (F__law_draw : FnB c P w mg base 1 "_law_draw" sh__law_draw dd__law_draw f__law_draw) (D : FunD c.K "_law_things" "_law_things" (defArgs (top 16)) (defBody (top 16)) (defScope (top 16)) [] [] fa fd) (hm : mg "_law_things" = some (.ref fa)) : FnB c P w mg base 2 "_law_things" sh__law_things dd__law_things f__law_things := by
  refine FnB.of (ps := ["_law_pool_here", "_law_many"]) D sc__law_things hm (fun _ _ => .nil) (fun X W g => w__law_things M F__law_draw g) ?_
  unfold sh__law_things
  refine List.forall_mem_cons.mpr ⟨?_, ?_⟩
  · exact bindP D fun _ _ _ _ _ _ us ws ls h1 h2 h3 => match us, ws, h1, h2, h3 with | [_, _], [], _, _, h3 => by cases h3; rfl
  exact fun _ h => nomatch h
/-! ### _law_mixed -/
def N__law_mixed : List Str := ["_law_pool_here", "_law_some", "_law_turn", "_law_left", "_law_found"]
def sh__law_mixed : List (Nat × List Str × List Sr) := [(2, [], [.p 0, .p 1])]
def dd__law_mixed : List D := []
noncomputable def d__law_mixed : MS := (sSeq (sPar 3 4 (aCons (eCallB (allocL listF) (aCons (eVar 1) aNil)) (aCons (eLstM aNil) aNil)))
    (sSeq (sFor (iRg rng1 (aCons (eCallB mLen (aCons (eVar 1) aNil)) aNil)) (gNameM 2) (sExpr (eMeth isL mAppend (eVar 4) (aCons (eMeth isL mPop (eVar 3) (aCons (eCallF f__law_draw 2 0 [.p 0, .p 1] dd__law_draw (aCons (eVar 0) (aCons (eCallB mLen (aCons (eVar 3) aNil)) aNil)) aNil) aNil)) aNil))))
    (sRet (eCallB (opt1 tupleF) (aCons (eVar 4) aNil)))))
noncomputable def f__law_mixed : List D → M D := runF false N__law_mixed 2 d__law_mixed
theorem w__law_mixed {X : Cx} {W : WX} (M : Ms c mg) (F__law_draw : FnB c P w mg base 1 "_law_draw" sh__law_draw dd__law_draw f__law_draw) (g : GX c P w mg base 1 N__law_mixed (defScope (top 15)) true X W) : PSs X (defBody (top 15)) (SvR c W d__law_mixed) :=
  (sv_cons (yPar g (by kernel_rfl) (by kernel_rfl) (by decide) (by kernel_rfl) (by kernel_rfl) (by kernel_rfl) (xCons rfl (xListM g M.n_list (by kernel_rfl) rfl (xCons rfl (xVar g (by kernel_rfl)) av_nil)) (xCons rfl (ev_lstM av_nil) av_nil)))
    (sv_cons (yFor g rfl (iRange1_ g M.n_range (by kernel_rfl) rfl (xCons rfl (xLen g M.n_len (by kernel_rfl) rfl (xCons rfl (xVar g (by kernel_rfl)) av_nil)) av_nil)) (gName_ g (by kernel_rfl)) (sv_one (yExpr rfl (xAppend rfl rfl rfl g (xVar g (by kernel_rfl)) (xCons rfl (xPop rfl rfl rfl g (xVar g (by kernel_rfl)) (xCons rfl (xCall g F__law_draw (by decide) (.head _) (by kernel_rfl) rfl (xCons rfl (xVar g (by kernel_rfl)) (xCons rfl (xLen g M.n_len (by kernel_rfl) rfl (xCons rfl (xVar g (by kernel_rfl)) av_nil)) av_nil))) av_nil)) av_nil)))))
    (sv_one (sv_ret (xTuple g M.n_tuple (by kernel_rfl) rfl (xCons rfl (xVar g (by kernel_rfl)) av_nil))))))
theorem sc__law_mixed : FnScope N__law_mixed ["_law_pool_here", "_law_some"] (defScope (top 15)) := ⟨by kernel_rfl, by kernel_rfl, by kernel_rfl, by decide +kernel, by kernel_rfl, by decide +kernel, by decide +kernel⟩
theorem o__law_mixed {fa : Addr} {fd : FuncData} (M : Ms c mg) (F__law_draw : FnB c P w mg base 1 "_law_draw" sh__law_draw dd__law_draw f__law_draw) (D : FunD c.K "_law_mixed" "_law_mixed" (defArgs (top 15)) (defBody (top 15)) (defScope (top 15)) [] [] fa fd) (hm : mg "_law_mixed" = some (.ref fa)) : FnB c P w mg base 2 "_law_mixed" sh__law_mixed dd__law_mixed f__law_mixed := by
  refine FnB.of (ps := ["_law_pool_here", "_law_some"]) D sc__law_mixed hm (fun _ _ => .nil) (fun X W g => w__law_mixed M F__law_draw g) ?_
  unfold sh__law_mixed
  refine List.forall_mem_cons.mpr ⟨?_, ?_⟩
  · exact bindP D fun _ _ _ _ _ _ us ws ls h1 h2 h3 => match us, ws, h1, h2, h3 with | [_, _], [], _, _, h3 => by cases h3; rfl
  exact fun _ h => nomatch h
/-! ### _law_right -/
def N__law_right : List Str := ["_law_pool_here", "_law_things_here", "_law_letter", "_law_at", "_law_order", "_law_others", "_law_mates", "_law_cut", "_law_thing", "_law_more"]
def sh__law_right : List (Nat × List Str × List Sr) := [(1, [], [.p 0])]
def dd__law_right : List D := []
noncomputable def d__law_right : MS := (sSeq (sAsg (eCallF f__law_things 2 0 [.p 0, .p 1] dd__law_things (aCons (eVar 0) (aCons (eOp mAdd (eCst (.int 1)) (eCallF f__law_draw 2 0 [.p 0, .p 1] dd__law_draw (aCons (eVar 0) (aCons (eCst (.int 10)) aNil)) aNil)) aNil)) aNil) (gNameM 1))
    (sSeq (sPar 4 5 (aCons (eCallF f__law_mixed 2 0 [.p 0, .p 1] dd__law_mixed (aCons (eVar 0) (aCons (eVar 1) aNil)) aNil) (aCons (eLst aNil) aNil)))
    (sSeq (sFor (iSeq (eCallF f__law_mixed 2 0 [.p 0, .p 1] dd__law_mixed (aCons (eVar 0) (aCons (eCst (.str "abcdefgh")) aNil)) aNil)) (gNameM 2) (sAsg (eOp mAdd (eVar 5) (eOp mMul (eLst (aCons (eOp mAdd (eCst (.str "q")) (eVar 2)) aNil)) (eCallB (opt1 intD) (aCons (eOp mNotIn (eOp mAdd (eCst (.str "q")) (eVar 2)) (eVar 1)) aNil)))) (gNameM 5)))
    (sSeq (sFor (iSeq (eLst (aCons (eCst (.int 0)) (aCons (eOp mSub (eCallB mLen (aCons (eVar 4) aNil)) (eCst (.int 1))) (aCons (eCallF f__law_draw 2 0 [.p 0, .p 1] dd__law_draw (aCons (eVar 0) (aCons (eCallB mLen (aCons (eVar 4) aNil)) aNil)) aNil) aNil))))) (gNameM 3) (sSeq (sAsg (eCallB (opt1 tupleF) (aCons (eSl (eVar 5) oNone (oSome (eCallF f__law_draw 2 0 [.p 0, .p 1] dd__law_draw (aCons (eVar 0) (aCons (eOp mAdd (eCallB mLen (aCons (eVar 5) aNil)) (eCst (.int 1))) aNil)) aNil))) aNil)) (gNameM 6))
    (sSeq (sAsg (eCallF f__law_draw 2 0 [.p 0, .p 1] dd__law_draw (aCons (eVar 0) (aCons (eOp mAdd (eCallB mLen (aCons (eVar 6) aNil)) (eCst (.int 1))) aNil)) aNil) (gNameM 7))
    (sSeq (sAsg (eTup (aCons (eOp mIx (eVar 4) (eVar 3)) aNil)) (gNameM 8))
    (sFor (iSeq (eLst (aCons (eVar 8) (aCons (eOp mAdd (eVar 8) (eVar 6)) (aCons (eOp mAdd (eVar 6) (eVar 8)) (aCons (eOp mAdd (eOp mAdd (eSl (eVar 6) oNone (oSome (eVar 7))) (eVar 8)) (eSl (eVar 6) (oSome (eVar 7)) oNone)) aNil)))))) (gNameM 9) (sIf (tOrM (tNotM (tTru mTru (eCallF f__law_told_right 2 0 [.p 0, .p 1] dd__law_told_right (aCons (eVar 4) (aCons (eVar 9) aNil)) aNil))) (tNotM (tTru mTru (eCallF f__law_told_right 2 0 [.p 0, .p 1] dd__law_told_right (aCons (eVar 9) (aCons (eVar 4) aNil)) aNil)))) (sRet (eCst (.bl false))) sNext))))))
    (sRet (eCst (.bl true)))))))
noncomputable def f__law_right : List D → M D := runF false N__law_right 1 d__law_right
theorem w__law_right {X : Cx} {W : WX} (M : Ms c mg) (F__law_things : FnB c P w mg base 2 "_law_things" sh__law_things dd__law_things f__law_things) (F__law_draw : FnB c P w mg base 1 "_law_draw" sh__law_draw dd__law_draw f__law_draw) (F__law_mixed : FnB c P w mg base 2 "_law_mixed" sh__law_mixed dd__law_mixed f__law_mixed) (F__law_told_right : FnB c P w mg base 4 "_law_told_right" sh__law_told_right dd__law_told_right f__law_told_right) (g : GX c P w mg base 4 N__law_right (defScope (top 18)) true X W) : PSs X (defBody (top 18)) (SvR c W d__law_right) :=
  (sv_cons (yAsg rfl rfl rfl (xCall g F__law_things (by decide) (.head _) (by kernel_rfl) rfl (xCons rfl (xVar g (by kernel_rfl)) (xCons rfl (xAdd g (ev_int) (xCall g F__law_draw (by decide) (.head _) (by kernel_rfl) rfl (xCons rfl (xVar g (by kernel_rfl)) (xCons rfl (ev_int) av_nil)))) av_nil))) (gName_ g (by kernel_rfl)))
    (sv_cons (yPar g (by kernel_rfl) (by kernel_rfl) (by decide) (by kernel_rfl) (by kernel_rfl) (by kernel_rfl) (xCons rfl (xCall g F__law_mixed (by decide) (.head _) (by kernel_rfl) rfl (xCons rfl (xVar g (by kernel_rfl)) (xCons rfl (xVar g (by kernel_rfl)) av_nil))) (xCons rfl (ev_lst av_nil) av_nil)))
    (sv_cons (yFor g rfl (iSeq_ g (xCall g F__law_mixed (by decide) (.head _) (by kernel_rfl) rfl (xCons rfl (xVar g (by kernel_rfl)) (xCons rfl (ev_str) av_nil)))) (gName_ g (by kernel_rfl)) (sv_one (yAsg rfl rfl rfl (xAdd g (xVar g (by kernel_rfl)) (xMul g (ev_lst (xCons rfl (xAdd g (ev_str) (xVar g (by kernel_rfl))) av_nil)) (xInt g M.n_int (by kernel_rfl) rfl (xCons rfl (xCmp (cNotIn g) rfl (xAdd g (ev_str) (xVar g (by kernel_rfl))) (xVar g (by kernel_rfl))) av_nil)))) (gName_ g (by kernel_rfl)))))
    (sv_cons (yFor g rfl (iSeq_ g (ev_lst (xCons rfl (ev_int) (xCons rfl (xSub (xLen g M.n_len (by kernel_rfl) rfl (xCons rfl (xVar g (by kernel_rfl)) av_nil)) (ev_int)) (xCons rfl (xCall g F__law_draw (by decide) (.head _) (by kernel_rfl) rfl (xCons rfl (xVar g (by kernel_rfl)) (xCons rfl (xLen g M.n_len (by kernel_rfl) rfl (xCons rfl (xVar g (by kernel_rfl)) av_nil)) av_nil))) av_nil))))) (gName_ g (by kernel_rfl)) (sv_cons (yAsg rfl rfl rfl (xTuple g M.n_tuple (by kernel_rfl) rfl (xCons rfl (xSl g (xVar g (by kernel_rfl)) ov_none (ov_some (xCall g F__law_draw (by decide) (.head _) (by kernel_rfl) rfl (xCons rfl (xVar g (by kernel_rfl)) (xCons rfl (xAdd g (xLen g M.n_len (by kernel_rfl) rfl (xCons rfl (xVar g (by kernel_rfl)) av_nil)) (ev_int)) av_nil))))) av_nil)) (gName_ g (by kernel_rfl)))
    (sv_cons (yAsg rfl rfl rfl (xCall g F__law_draw (by decide) (.head _) (by kernel_rfl) rfl (xCons rfl (xVar g (by kernel_rfl)) (xCons rfl (xAdd g (xLen g M.n_len (by kernel_rfl) rfl (xCons rfl (xVar g (by kernel_rfl)) av_nil)) (ev_int)) av_nil))) (gName_ g (by kernel_rfl)))
    (sv_cons (yAsg rfl rfl rfl (ev_tup (xCons rfl (xIx g rfl (xVar g (by kernel_rfl)) (xVar g (by kernel_rfl))) av_nil)) (gName_ g (by kernel_rfl)))
    (sv_one (yFor g rfl (iSeq_ g (ev_lst (xCons rfl (xVar g (by kernel_rfl)) (xCons rfl (xAdd g (xVar g (by kernel_rfl)) (xVar g (by kernel_rfl))) (xCons rfl (xAdd g (xVar g (by kernel_rfl)) (xVar g (by kernel_rfl))) (xCons rfl (xAdd g (xAdd g (xSl g (xVar g (by kernel_rfl)) ov_none (ov_some (xVar g (by kernel_rfl)))) (xVar g (by kernel_rfl))) (xSl g (xVar g (by kernel_rfl)) (ov_some (xVar g (by kernel_rfl))) ov_none)) av_nil)))))) (gName_ g (by kernel_rfl)) (sv_one (sv_if (tBool (tw_or (tv_not (tTruth g rfl (xCall g F__law_told_right (by decide) (.head _) (by kernel_rfl) rfl (xCons rfl (xVar g (by kernel_rfl)) (xCons rfl (xVar g (by kernel_rfl)) av_nil))))) (tw_or1 (tv_not (tTruth g rfl (xCall g F__law_told_right (by decide) (.head _) (by kernel_rfl) rfl (xCons rfl (xVar g (by kernel_rfl)) (xCons rfl (xVar g (by kernel_rfl)) av_nil)))))))) (sv_one (sv_ret (ev_bl))) sv_nil))))))))
    (sv_one (sv_ret (ev_bl)))))))
theorem sc__law_right : FnScope N__law_right ["_law_pool_here"] (defScope (top 18)) := ⟨by kernel_rfl, by kernel_rfl, by kernel_rfl, by decide +kernel, by kernel_rfl, by decide +kernel, by decide +kernel⟩
theorem o__law_right {fa : Addr} {fd : FuncData} (M : Ms c mg) (F__law_things : FnB c P w mg base 2 "_law_things" sh__law_things dd__law_things f__law_things) (F__law_draw : FnB c P w mg base 1 "_law_draw" sh__law_draw dd__law_draw f__law_draw) (F__law_mixed : FnB c P w mg base 2 "_law_mixed" sh__law_mixed dd__law_mixed f__law_mixed) (F__law_told_right : FnB c P w mg base 4 "_law_told_right" sh__law_told_right dd__law_told_right f__law_told_right) (D : FunD c.K "_law_right" "_law_right" (defArgs (top 18)) (defBody (top 18)) (defScope (top 18)) [] [] fa fd) (hm : mg "_law_right" = some (.ref fa)) : FnB c P w mg base 5 "_law_right" sh__law_right dd__law_right f__law_right := by
  refine FnB.of (ps := ["_law_pool_here"]) D sc__law_right hm (fun _ _ => .nil) (fun X W g => w__law_right M F__law_things F__law_draw F__law_mixed F__law_told_right g) ?_
  unfold sh__law_right
  refine List.forall_mem_cons.mpr ⟨?_, ?_⟩
  · exact bindP D fun _ _ _ _ _ _ us ws ls h1 h2 h3 => match us, ws, h1, h2, h3 with | [_], [], _, _, h3 => by cases h3; rfl
  exact fun _ h => nomatch h
/-! ### _law_pool -/
def N__law_pool : List Str := ["_law_item", "_law_digits"]
def sh__law_pool : List (Nat × List Str × List Sr) := [(1, [], [.p 0])]
def dd__law_pool : List D := []
noncomputable def d__law_pool : MS := (sSeq (sAsg (eIfM (tOrM (tOf (eOp mLt (eVar 0) (eCst (.int 0)))) (tOf (eOp mGe (eVar 0) (eOp mPow (eCst (.int 10)) (eCst (.int 18)))))) (eCallB mAbs (aCons (eVar 0) aNil)) (eCst (.int 0))) (gNameM 1))
    (sRet (eLstM (aCons (eOp mMod (eVar 0) (eCst (.int 2147483053))) (aCons (eVar 1) (aCons (eCst (.int 0)) aNil))))))
noncomputable def f__law_pool : List D → M D := runF true N__law_pool 1 d__law_pool
theorem w__law_pool {X : Cx} {W : WX} (M : Ms c mg) (g : GX c P w mg base 0 N__law_pool (defScope (top 13)) true X W) : PSs X (defBody (top 13)) (SvR c W d__law_pool) :=
  (sv_cons (yAsg rfl rfl rfl (ev_if (tBool (tw_or (tCmp cLt rfl (xVar g (by kernel_rfl)) (ev_int)) (tw_or1 (tCmp cGe rfl (xVar g (by kernel_rfl)) (xPow (ev_int) (ev_int)))))) (xAbs g M.n_abs (by kernel_rfl) rfl (xCons rfl (xVar g (by kernel_rfl)) av_nil)) (ev_int)) (gName_ g (by kernel_rfl)))
    (sv_one (sv_ret (ev_lstM (xCons rfl (xMod (xVar g (by kernel_rfl)) (ev_int)) (xCons rfl (xVar g (by kernel_rfl)) (xCons rfl (ev_int) av_nil)))))))
theorem sc__law_pool : FnScope N__law_pool ["_law_item"] (defScope (top 13)) := ⟨by kernel_rfl, by kernel_rfl, by kernel_rfl, by decide +kernel, by kernel_rfl, by decide +kernel, by decide +kernel⟩
theorem o__law_pool {fa : Addr} {fd : FuncData} (M : Ms c mg) (D : FunD c.K "_law_pool" "_law_pool" (defArgs (top 13)) (defBody (top 13)) (defScope (top 13)) [] [] fa fd) (hm : mg "_law_pool" = some (.ref fa)) : FnB c P w mg base 1 "_law_pool" sh__law_pool dd__law_pool f__law_pool := by
  refine FnB.of (ps := ["_law_item"]) D sc__law_pool hm (fun _ _ => .nil) (fun X W g => w__law_pool M g) ?_
  unfold sh__law_pool
  refine List.forall_mem_cons.mpr ⟨?_, ?_⟩
  · exact bindP D fun _ _ _ _ _ _ us ws ls h1 h2 h3 => match us, ws, h1, h2, h3 with | [_], [], _, _, h3 => by cases h3; rfl
  exact fun _ h => nomatch h
/-! ### _law_cell -/
def N__law_cell : List Str := ["_law_script", "_law_k", "_law_state", "_law_item"]
def sh__law_cell : List (Nat × List Str × List Sr) := [(2, [], [.p 0, .p 1])]
def dd__law_cell : List D := []
noncomputable def d__law_cell : MS := (sSeq (sIf (tOf (eOp mLt (eVar 1) (eCallB mLen (aCons (eVar 0) aNil)))) (sRet (eOp mIx (eVar 0) (eVar 1))) sNext)
    (sSeq (sAsg (eOp mMod (eOp mMul (eCst (.int 80021)) (eOp mAdd (eOp mAdd (eOp mMul (eVar 1) (eVar 1)) (eOp mMul (eCst (.int 7)) (eVar 1))) (eCst (.int 11)))) (eCst (.int 2147483053))) (gNameM 2))
    (sSeq (sFor (iSeq (eSl (eVar 0) oNone (oSome (eCst (.int 3))))) (gNameM 3) (sAsg (eOp mMod (eOp mAdd (eOp mMul (eVar 2) (eCst (.int 43261))) (eVar 3)) (eCst (.int 2147483053))) (gNameM 2)))
    (sRet (eVar 2)))))
noncomputable def f__law_cell : List D → M D := runF false N__law_cell 2 d__law_cell
theorem w__law_cell {X : Cx} {W : WX} (M : Ms c mg) (g : GX c P w mg base 0 N__law_cell (defScope (top 12)) true X W) : PSs X (defBody (top 12)) (SvR c W d__law_cell) :=
  (sv_cons (sv_if (tCmp cLt rfl (xVar g (by kernel_rfl)) (xLen g M.n_len (by kernel_rfl) rfl (xCons rfl (xVar g (by kernel_rfl)) av_nil))) (sv_one (sv_ret (xIx g rfl (xVar g (by kernel_rfl)) (xVar g (by kernel_rfl))))) sv_nil)
    (sv_cons (yAsg rfl rfl rfl (xMod (xMul g (ev_int) (xAdd g (xAdd g (xMul g (xVar g (by kernel_rfl)) (xVar g (by kernel_rfl))) (xMul g (ev_int) (xVar g (by kernel_rfl)))) (ev_int))) (ev_int)) (gName_ g (by kernel_rfl)))
    (sv_cons (yFor g rfl (iSeq_ g (xSl g (xVar g (by kernel_rfl)) ov_none (ov_some (ev_int)))) (gName_ g (by kernel_rfl)) (sv_one (yAsg rfl rfl rfl (xMod (xAdd g (xMul g (xVar g (by kernel_rfl)) (ev_int)) (xVar g (by kernel_rfl))) (ev_int)) (gName_ g (by kernel_rfl)))))
    (sv_one (sv_ret (xVar g (by kernel_rfl)))))))
theorem sc__law_cell : FnScope N__law_cell ["_law_script", "_law_k"] (defScope (top 12)) := ⟨by kernel_rfl, by kernel_rfl, by kernel_rfl, by decide +kernel, by kernel_rfl, by decide +kernel, by decide +kernel⟩
theorem o__law_cell {fa : Addr} {fd : FuncData} (M : Ms c mg) (D : FunD c.K "_law_cell" "_law_cell" (defArgs (top 12)) (defBody (top 12)) (defScope (top 12)) [] [] fa fd) (hm : mg "_law_cell" = some (.ref fa)) : FnB c P w mg base 1 "_law_cell" sh__law_cell dd__law_cell f__law_cell := by
  refine FnB.of (ps := ["_law_script", "_law_k"]) D sc__law_cell hm (fun _ _ => .nil) (fun X W g => w__law_cell M g) ?_
  unfold sh__law_cell
  refine List.forall_mem_cons.mpr ⟨?_, ?_⟩
  · exact bindP D fun _ _ _ _ _ _ us ws ls h1 h2 h3 => match us, ws, h1, h2, h3 with | [_, _], [], _, _, h3 => by cases h3; rfl
  exact fun _ h => nomatch h
/-! ### law -/
def N_law : List Str := ["_law_script", "_law_letters", "_law_pairs", "_law_k", "_law_order", "_law_more"]
def sh_law : List (Nat × List Str × List Sr) := []
def dd_law : List D := []
noncomputable def d_law : MS := (sSeq (sAsg (eCallB (opt1 tupleF) (aCons (eCst (.str "abcdefghijklmnopqrstuvwxyz")) aNil)) (gNameM 1))
    (sSeq (sAsg (eLstM (aCons (eTup (aCons (eTup (aCons (eCst (.str "c")) (aCons (eCst (.str "a")) aNil))) (aCons (eTup (aCons (eCst (.str "b")) (aCons (eCst (.str "a")) aNil))) aNil))) (aCons (eTup (aCons (eTup (aCons (eCst (.str "a")) aNil)) (aCons (eTup (aCons (eCst (.str "a")) aNil)) aNil))) (aCons (eTup (aCons (eTup (aCons (eCst (.str "a")) aNil)) (aCons (eTup (aCons (eCst (.str "b")) (aCons (eCst (.str "a")) (aCons (eCst (.str "c")) aNil)))) aNil))) (aCons (eTup (aCons (eVar 1) (aCons (eTup (aCons (eCst (.str "m")) (aCons (eCst (.str "zzzzzz")) (aCons (eCst (.str "aa")) aNil)))) aNil))) aNil))))) (gNameM 2))
    (sSeq (sExpr (eMeth isL mAppend (eVar 2) (aCons (eTup (aCons (eOp mAdd (eTup (aCons (eCst (.str "aa")) (aCons (eCst (.str "bb")) aNil))) (eSl (eVar 1) oNone (oSome (eCst (.int 3))))) (aCons (eOp mAdd (eTup (aCons (eCst (.str "cc")) (aCons (eCst (.str "bb")) (aCons (eCst (.str "dd")) aNil)))) (eSl (eVar 1) (oSome (eCst (.int 20))) oNone)) aNil))) aNil)))
    (sSeq (sIf (tNotM (tTru mTru (eCallB mAll (aCons (eComp true false (iSeq (eVar 2)) [4, 5] (gmTup [4, 5]) tYesM (eCallF f__law_told_right 2 0 [.p 0, .p 1] dd__law_told_right (aCons (eVar 4) (aCons (eVar 5) aNil)) aNil)) aNil)))) (sRet (eCst (.bl false))) sNext)
    (sRet (eCallB mAll (aCons (eComp true false (iRg rng1 (aCons (eCallB (opt2 max2D) (aCons (eCst (.int 2)) (aCons (eCallB (opt2 min2D) (aCons (eCallB mLen (aCons (eVar 0) aNil)) (aCons (eCst (.int 6)) aNil))) aNil))) aNil)) [3] (gmName 3) tYesM (eCallF f__law_right 1 0 [.p 0] dd__law_right (aCons (eCallF f__law_pool 1 0 [.p 0] dd__law_pool (aCons (eCallF f__law_cell 2 0 [.p 0, .p 1] dd__law_cell (aCons (eVar 0) (aCons (eVar 3) aNil)) aNil) aNil) aNil) aNil) aNil)) aNil)))))))
noncomputable def f_law : List D → M D := runF false N_law 1 d_law
theorem w_law {X : Cx} {W : WX} (M : Ms c mg) (F__law_told_right : FnB c P w mg base 4 "_law_told_right" sh__law_told_right dd__law_told_right f__law_told_right) (F__law_right : FnB c P w mg base 5 "_law_right" sh__law_right dd__law_right f__law_right) (F__law_pool : FnB c P w mg base 1 "_law_pool" sh__law_pool dd__law_pool f__law_pool) (F__law_cell : FnB c P w mg base 1 "_law_cell" sh__law_cell dd__law_cell f__law_cell) (g : GX c P w mg base 5 N_law (defScope (top 19)) true X W) : PSs X (defBody (top 19)) (SvR c W d_law) :=
  (sv_cons (yAsg rfl rfl rfl (xTuple g M.n_tuple (by kernel_rfl) rfl (xCons rfl (ev_str) av_nil)) (gName_ g (by kernel_rfl)))
    (sv_cons (yAsg rfl rfl rfl (ev_lstM (xCons rfl (ev_tup (xCons rfl (ev_tup (xCons rfl (ev_str) (xCons rfl (ev_str) av_nil))) (xCons rfl (ev_tup (xCons rfl (ev_str) (xCons rfl (ev_str) av_nil))) av_nil))) (xCons rfl (ev_tup (xCons rfl (ev_tup (xCons rfl (ev_str) av_nil)) (xCons rfl (ev_tup (xCons rfl (ev_str) av_nil)) av_nil))) (xCons rfl (ev_tup (xCons rfl (ev_tup (xCons rfl (ev_str) av_nil)) (xCons rfl (ev_tup (xCons rfl (ev_str) (xCons rfl (ev_str) (xCons rfl (ev_str) av_nil)))) av_nil))) (xCons rfl (ev_tup (xCons rfl (xVar g (by kernel_rfl)) (xCons rfl (ev_tup (xCons rfl (ev_str) (xCons rfl (ev_str) (xCons rfl (ev_str) av_nil)))) av_nil))) av_nil))))) (gName_ g (by kernel_rfl)))
    (sv_cons (yExpr rfl (xAppend rfl rfl rfl g (xVar g (by kernel_rfl)) (xCons rfl (ev_tup (xCons rfl (xAdd g (ev_tup (xCons rfl (ev_str) (xCons rfl (ev_str) av_nil))) (xSl g (xVar g (by kernel_rfl)) ov_none (ov_some (ev_int)))) (xCons rfl (xAdd g (ev_tup (xCons rfl (ev_str) (xCons rfl (ev_str) (xCons rfl (ev_str) av_nil)))) (xSl g (xVar g (by kernel_rfl)) (ov_some (ev_int)) ov_none)) av_nil))) av_nil)))
    (sv_cons (sv_if (tv_not (tTruth g rfl (xAll g M.n_all (by kernel_rfl) rfl (xCons rfl (xLc2 g (by kernel_rfl) rfl (by kernel_rfl) (by kernel_rfl) (iSeq_ g (xVar g (by kernel_rfl))) (fun X1 g_ => tvs_nil) (fun X1 g_ => (xCall g_ F__law_told_right (by decide) (.head _) (by kernel_rfl) rfl (xCons rfl (xVar g_ (by kernel_rfl)) (xCons rfl (xVar g_ (by kernel_rfl)) av_nil))))) av_nil)))) (sv_one (sv_ret (ev_bl))) sv_nil)
    (sv_one (sv_ret (xAll g M.n_all (by kernel_rfl) rfl (xCons rfl (xLc1 g (by kernel_rfl) rfl (by kernel_rfl) (iRange1_ g M.n_range (by kernel_rfl) rfl (xCons rfl (xMax2 g M.n_max (by kernel_rfl) rfl (xCons rfl (ev_int) (xCons rfl (xMin2 g M.n_min (by kernel_rfl) rfl (xCons rfl (xLen g M.n_len (by kernel_rfl) rfl (xCons rfl (xVar g (by kernel_rfl)) av_nil)) (xCons rfl (ev_int) av_nil))) av_nil))) av_nil)) (fun X1 g_ => tvs_nil) (fun X1 g_ => (xCall g_ F__law_right (by decide) (.head _) (by kernel_rfl) rfl (xCons rfl (xCall g_ F__law_pool (by decide) (.head _) (by kernel_rfl) rfl (xCons rfl (xCall g_ F__law_cell (by decide) (.head _) (by kernel_rfl) rfl (xCons rfl (xVar g_ (by kernel_rfl)) (xCons rfl (xVar g_ (by kernel_rfl)) av_nil))) av_nil)) av_nil)))) av_nil))))))))
theorem sc_law : FnScope N_law ["_law_script"] (defScope (top 19)) := ⟨by kernel_rfl, by kernel_rfl, by kernel_rfl, by decide +kernel, by kernel_rfl, by decide +kernel, by decide +kernel⟩
theorem o_law {fa : Addr} {fd : FuncData} (M : Ms c mg) (F__law_told_right : FnB c P w mg base 4 "_law_told_right" sh__law_told_right dd__law_told_right f__law_told_right) (F__law_right : FnB c P w mg base 5 "_law_right" sh__law_right dd__law_right f__law_right) (F__law_pool : FnB c P w mg base 1 "_law_pool" sh__law_pool dd__law_pool f__law_pool) (F__law_cell : FnB c P w mg base 1 "_law_cell" sh__law_cell dd__law_cell f__law_cell) (D : FunD c.K "law" "law" (defArgs (top 19)) (defBody (top 19)) (defScope (top 19)) [] [] fa fd) : FnG P w c.K mg base 6 fa fd ["_law_script"] (spD c f_law) :=
  FnG.of D sc_law fun X W g => w_law M F__law_told_right F__law_right F__law_pool F__law_cell g
/-! ### the head -/
def D_is_name : He.DefD := ⟨("is_name", none), "is_name", "is_name", defArgs (top 7), defBody (top 7), defScope (top 7), [], []⟩
def D_are_different : He.DefD := ⟨("are_different", none), "are_different", "are_different", defArgs (top 9), defBody (top 9), defScope (top 9), [], []⟩
def D_expanded : He.DefD := ⟨("expanded", none), "expanded", "expanded", defArgs (top 10), defBody (top 10), defScope (top 10), [], []⟩
def D__law_told_right : He.DefD := ⟨("_law_told_right", none), "_law_told_right", "_law_told_right", defArgs (top 17), defBody (top 17), defScope (top 17), [], []⟩
def D__law_draw : He.DefD := ⟨("_law_draw", none), "_law_draw", "_law_draw", defArgs (top 14), defBody (top 14), defScope (top 14), [], []⟩
def D__law_things : He.DefD := ⟨("_law_things", none), "_law_things", "_law_things", defArgs (top 16), defBody (top 16), defScope (top 16), [], []⟩
def D__law_mixed : He.DefD := ⟨("_law_mixed", none), "_law_mixed", "_law_mixed", defArgs (top 15), defBody (top 15), defScope (top 15), [], []⟩
def D__law_right : He.DefD := ⟨("_law_right", none), "_law_right", "_law_right", defArgs (top 18), defBody (top 18), defScope (top 18), [], []⟩
def D__law_pool : He.DefD := ⟨("_law_pool", none), "_law_pool", "_law_pool", defArgs (top 13), defBody (top 13), defScope (top 13), [], []⟩
def D__law_cell : He.DefD := ⟨("_law_cell", none), "_law_cell", "_law_cell", defArgs (top 12), defBody (top 12), defScope (top 12), [], []⟩
def D_law : He.DefD := ⟨("law", none), "law", "law", defArgs (top 19), defBody (top 19), defScope (top 19), [], []⟩
def fn : List He.DefD := [D_is_name, D_are_different, D_expanded, D__law_told_right, D__law_draw, D__law_things, D__law_mixed, D__law_right, D__law_pool, D__law_cell, D_law]
def fa : List He.Fa := [.glo "is_name", .glo "are_different", .glo "expanded", .glo "_law_told_right", .glo "_law_draw", .glo "_law_things", .glo "_law_mixed", .glo "_law_right", .glo "_law_pool", .glo "_law_cell", .glo "law", .free "abs", .free "all", .free "divmod", .free "int", .free "isinstance", .free "len", .free "list", .free "max", .free "min", .free "range", .free "repr", .free "set", .free "sorted", .free "str", .free "tuple", .str "LETTERS" "abcdefghijklmnopqrstuvwxyz", .int "LONGEST_NAME" 6]
abbrev R : PySem.W.OpenRow := PySem.W.OpenLaw.row PySem.Challenge.rw_closerow_k50_expanded
abbrev hk : PySem.W.Hook := He.hookD 4 fa fn
def ob (s : PySem.W.SharedT) : He.AlD := He.obsDG 4 fa fn (HandSHeadRun.getT s)
theorem ob_eq (s : PySem.W.SharedT) : ob s = hk.obs s.abs := He.obsDG_eq (HandSHeadRun.getT_eq s)
theorem run (w : World) : HandSHeadRun.RunEq R (PySem.W.view R.prog [19]) hk ob 3000 ["InvalidInput", "InvalidRow", "InvalidInner", "LETTERS", "LONGEST_NAME", "is_name", "are_different", "expanded", "_law_cell", "_law_pool", "_law_draw", "_law_mixed", "_law_things", "_law_told_right", "_law_right"] w := by
  intro os
  kernel_rfl
theorem facts {P : Program} {w : World} {K : PySem.W.Frag} {h : Heap} {mg : Str → Option Value} {f : Addr} (X : K.In h) (G : h.Ns mainGlobals mg) (hfa : mg ("law" : Str) = some (.ref f)) (q : He.SaysD fa fn K) :
    ∃ fd : FuncData, (∀ (s : Shared) (v : Value), BindsTo s fd ⟨[v], []⟩ [("_law_script", v)]) ∧ ∀ base : Heap, K.In base → base.Ns mainGlobals mg → FnG P w K mg base 6 f fd ["_law_script"] (spD ⟨K, fun _ => none⟩ f_law) := by
  obtain ⟨fd_is_name, A_is_name⟩ := q.def_ 0 (d := D_is_name) rfl
  obtain ⟨fd_are_different, A_are_different⟩ := q.def_ 1 (d := D_are_different) rfl
  obtain ⟨fd_expanded, A_expanded⟩ := q.def_ 2 (d := D_expanded) rfl
  obtain ⟨fd__law_told_right, A__law_told_right⟩ := q.def_ 3 (d := D__law_told_right) rfl
  obtain ⟨fd__law_draw, A__law_draw⟩ := q.def_ 4 (d := D__law_draw) rfl
  obtain ⟨fd__law_things, A__law_things⟩ := q.def_ 5 (d := D__law_things) rfl
  obtain ⟨fd__law_mixed, A__law_mixed⟩ := q.def_ 6 (d := D__law_mixed) rfl
  obtain ⟨fd__law_right, A__law_right⟩ := q.def_ 7 (d := D__law_right) rfl
  obtain ⟨fd__law_pool, A__law_pool⟩ := q.def_ 8 (d := D__law_pool) rfl
  obtain ⟨fd__law_cell, A__law_cell⟩ := q.def_ 9 (d := D__law_cell) rfl
  obtain ⟨fd_law, A_law⟩ := q.def_ 10 (d := D_law) rfl
  have e := hfa.symm.trans (He.glo_ok X G (q.fact 10 (f := .glo "law") rfl))
  cases e
  have M : Ms ⟨K, fun _ => none⟩ mg := by
    exact ⟨He.free_ok X G (q.fact 11 (f := .free "abs") rfl),
      He.free_ok X G (q.fact 12 (f := .free "all") rfl),
      He.free_ok X G (q.fact 13 (f := .free "divmod") rfl),
      He.free_ok X G (q.fact 14 (f := .free "int") rfl),
      He.free_ok X G (q.fact 15 (f := .free "isinstance") rfl),
      He.free_ok X G (q.fact 16 (f := .free "len") rfl),
      He.free_ok X G (q.fact 17 (f := .free "list") rfl),
      He.free_ok X G (q.fact 18 (f := .free "max") rfl),
      He.free_ok X G (q.fact 19 (f := .free "min") rfl),
      He.free_ok X G (q.fact 20 (f := .free "range") rfl),
      He.free_ok X G (q.fact 21 (f := .free "repr") rfl),
      He.free_ok X G (q.fact 22 (f := .free "set") rfl),
      He.free_ok X G (q.fact 23 (f := .free "sorted") rfl),
      He.free_ok X G (q.fact 24 (f := .free "str") rfl),
      He.free_ok X G (q.fact 25 (f := .free "tuple") rfl),
      (let ⟨t, h⟩ := He.str_ok X G (q.fact 26 (f := .str "LETTERS" "abcdefghijklmnopqrstuvwxyz") rfl); ⟨.str "abcdefghijklmnopqrstuvwxyz", _, h, ⟨t, rfl⟩, fun _ _ => .mkS _⟩),
      (let ⟨t, h⟩ := He.int_ok X G (q.fact 27 (f := .int "LONGEST_NAME" 6) rfl); ⟨.int 6, _, h, ⟨t, rfl⟩, fun _ _ => .mkI _⟩)⟩
  have b := FunD.bindsA (ps := ["_law_script"]) A_law fun _ _ _ _ _ _ us hl => match us, hl with | [_], _ => rfl
  refine ⟨fd_law, fun s v => b s [v] rfl, fun base _ _ => ?_⟩
  have F_is_name : FnB ⟨K, fun _ => none⟩ P w mg base 1 "is_name" sh_is_name dd_is_name f_is_name := o_is_name M A_is_name (He.glo_ok X G (q.fact 0 (f := .glo "is_name") rfl))
  have F_are_different : FnB ⟨K, fun _ => none⟩ P w mg base 2 "are_different" sh_are_different dd_are_different f_are_different := o_are_different M F_is_name A_are_different (He.glo_ok X G (q.fact 1 (f := .glo "are_different") rfl))
  have F_expanded : FnB ⟨K, fun _ => none⟩ P w mg base 3 "expanded" sh_expanded dd_expanded f_expanded := o_expanded M F_are_different A_expanded (He.glo_ok X G (q.fact 2 (f := .glo "expanded") rfl))
  have F__law_told_right : FnB ⟨K, fun _ => none⟩ P w mg base 4 "_law_told_right" sh__law_told_right dd__law_told_right f__law_told_right := o__law_told_right M F_expanded A__law_told_right (He.glo_ok X G (q.fact 3 (f := .glo "_law_told_right") rfl))
  have F__law_draw : FnB ⟨K, fun _ => none⟩ P w mg base 1 "_law_draw" sh__law_draw dd__law_draw f__law_draw := o__law_draw M A__law_draw (He.glo_ok X G (q.fact 4 (f := .glo "_law_draw") rfl))
  have F__law_things : FnB ⟨K, fun _ => none⟩ P w mg base 2 "_law_things" sh__law_things dd__law_things f__law_things := o__law_things M F__law_draw A__law_things (He.glo_ok X G (q.fact 5 (f := .glo "_law_things") rfl))
  have F__law_mixed : FnB ⟨K, fun _ => none⟩ P w mg base 2 "_law_mixed" sh__law_mixed dd__law_mixed f__law_mixed := o__law_mixed M F__law_draw A__law_mixed (He.glo_ok X G (q.fact 6 (f := .glo "_law_mixed") rfl))
  have F__law_right : FnB ⟨K, fun _ => none⟩ P w mg base 5 "_law_right" sh__law_right dd__law_right f__law_right := o__law_right M F__law_things F__law_draw F__law_mixed F__law_told_right A__law_right (He.glo_ok X G (q.fact 7 (f := .glo "_law_right") rfl))
  have F__law_pool : FnB ⟨K, fun _ => none⟩ P w mg base 1 "_law_pool" sh__law_pool dd__law_pool f__law_pool := o__law_pool M A__law_pool (He.glo_ok X G (q.fact 8 (f := .glo "_law_pool") rfl))
  have F__law_cell : FnB ⟨K, fun _ => none⟩ P w mg base 1 "_law_cell" sh__law_cell dd__law_cell f__law_cell := o__law_cell M A__law_cell (He.glo_ok X G (q.fact 9 (f := .glo "_law_cell") rfl))
  exact o_law M F__law_told_right F__law_right F__law_pool F__law_cell A_law
end K50


/-! K50: the plain law. -/
namespace K50
open PySem PySem.Spec CR L2 CL
abbrev T (xs : List Str) : D := .tup (xs.map D.str)
structure Row (xs : List Str) : Prop where
  ne : xs ≠ []
  nd : xs.Nodup
  nm : ∀ x ∈ xs, Nm x
  sz : xs.length ≤ 60
theorem e_name : f_is_name = CL.f_is_name := rfl
theorem e_draw : f__law_draw = CL.f__law_draw := rfl
theorem e_mixed : f__law_mixed = CL.f__law_mixed := rfl
theorem e_things : f__law_things = CL.f__law_things := rfl
theorem e_pool : f__law_pool = CL.f__law_pool := rfl
theorem e_cell : f__law_cell = CL.f__law_cell := rfl
theorem nm_ok {x : Str} (h : Nm x) : PyData.strOk x = true := by
  unfold PyData.strOk
  rw [Array.all_eq_true']
  intro k hk
  have := h.2.2 k (by simpa using hk)
  simp; omega
theorem Row.okPs {xs : List Str} (h : Row xs) : okPs (xs.map D.str) = true := okPs_strs fun x hx => nm_ok (h.nm x hx)
theorem T_depth (xs : List Str) : (pyD (T xs)).depth ≤ 64 := by simp [pyD, pyDs_strs, PyData.depth, depth_strs]
theorem ok_diff {S : Sto} {xs : List Str} {P : D → Sto → Prop} (hr : Row xs) (nr : NR S) (h : P (.bl true) S) : Okm (f_are_different [T xs]) S P := by
  refine okm_run rfl ?_
  have tk : S.take S.length = S := List.take_length
  simp only [d_are_different, startR]
  refine okm_seq (okm_if ?_)
  simp [N_are_different, okm_isi (show tyN S (T xs) = some "tuple" from rfl) isi_tt, fits_of]
  have e0 : PyData.eqvAll (pyDs (xs.map D.str)) (pyDs []) = false := by
    cases xs with
    | nil => exact absurd rfl hr.ne
    | cons x xs => simp [pyDs, PyData.eqvAll]
  rw [eq_tt hr.okPs (by simp [CR.okPs]) (T_depth xs) (by simp [pyD, pyDs, PyData.depth, PyData.depthAll]), e0]
  simp
  refine okm_compP (fun _ => some (.bl true)) ?_
  simp
  refine ⟨by have := hr.sz; rw [sizeLine_eq]; omega, nr, ?_, ?_⟩
  · intro x hx
    refine ⟨_, rfl, fun acc ha => ?_⟩
    simp [wipeR]
    refine ⟨rfl, okm_callF ?_⟩
    simp [pick, e_name]
    exact ok_is_name (hr.nm x hx) (nr.app (show nrfs [D.lst acc] = true by simp only [nrfs, nrf, ha, Bool.and_true])) ⟨rfl, [], by simp⟩
  · rw [all_true (by simp)]
    simp
    refine okm_next ?_
    simp
    refine okm_ret ?_
    simp [lenSetD, tupOf, strs_map]
    refine ⟨_, ⟨by have := hr.sz; omega, rfl⟩, ?_⟩
    rw [dcN_nodup hr.nd _ (Nat.le_refl _)]
    simp [nrf]
    exact ⟨nr, h⟩
/-- row = A, x, B; x alone of it stands in inner -/
structure Fit (row inner A B : List Str) (x : Str) : Prop where
  e : row = A ++ x :: B
  h : x ∈ inner
  no : ∀ y ∈ A ++ B, y ∉ inner
theorem filter_one {x : Str} : ∀ {l : List Str}, l.Nodup → x ∈ l → l.filter (fun y => decide (y = x)) = [x]
  | [], _, h => by cases h
  | y :: l, nd, h => by
    obtain ⟨h1, h2⟩ := List.nodup_cons.mp nd
    by_cases e : y = x
    · subst e
      rw [List.filter_cons_of_pos (by simp)]
      congr 1
      rw [List.filter_eq_nil_iff]
      intro z hz
      simp
      rintro rfl
      exact h1 hz
    · rw [List.filter_cons_of_neg (by simpa using e)]
      refine filter_one h2 ?_
      rcases List.mem_cons.mp h with q | q
      · exact absurd q.symm e
      · exact q
theorem Fit.in_row {row inner A B : List Str} {x y : Str} (f : Fit row inner A B x) (hy : y ∈ inner) : y ∈ row ↔ y = x := by
  rw [f.e]
  constructor
  · intro h
    simp only [List.mem_append, List.mem_cons] at h
    rcases h with h | h | h
    · exact absurd hy (f.no y (List.mem_append_left _ h))
    · exact h
    · exact absurd hy (f.no y (List.mem_append_right _ h))
  · rintro rfl; simp
theorem Fit.filter {row inner A B : List Str} {x : Str} (f : Fit row inner A B x) (nd : inner.Nodup) : inner.filter (fun y => decide (y ∈ row)) = [x] := by
  rw [← filter_one nd f.h]
  refine List.filter_congr fun y hy => ?_
  simp only [f.in_row hy]
def exp1 (inner : List Str) (y : Str) : List Str := if y ∈ inner then inner else [y]
theorem Fit.flat {row inner A B : List Str} {x : Str} (f : Fit row inner A B x) : row.flatMap (exp1 inner) = A ++ inner ++ B := by
  have one : ∀ l : List Str, (∀ y ∈ l, y ∉ inner) → l.flatMap (exp1 inner) = l := by
    intro l
    induction l with
    | nil => intro _; rfl
    | cons y l ih =>
      intro h
      rw [List.flatMap_cons, ih fun z hz => h z (List.mem_cons_of_mem _ hz)]
      unfold exp1
      rw [if_neg (h y (List.mem_cons_self ..))]; rfl
  rw [f.e, List.flatMap_append, List.flatMap_cons, one A fun y hy => f.no y (List.mem_append_left _ hy), one B fun y hy => f.no y (List.mem_append_right _ hy)]
  unfold exp1
  rw [if_pos f.h]; simp
def selF (row : List Str) : D → Option D
  | .str y => if y ∈ row then some (.str y) else none
  | _ => none
theorem sel_map (row : List Str) : ∀ l : List Str, (l.map D.str).filterMap (selF row) = (l.filter fun y => decide (y ∈ row)).map D.str
  | [] => rfl
  | y :: l => by
    rw [List.map_cons, List.filterMap_cons, sel_map row l]
    by_cases hy : y ∈ row
    · simp [selF, hy]
    · simp [selF, hy]
theorem iadd_r {S : Sto} {P : D → Sto → Prop} {n : Nat} {ds es : List D} (h : S[n]? = some (.lst ds)) (hf : fits (ds.length + es.length) = true) : Okm (iaddM (.ref n) (.lst es)) S P ↔ P (.ref n) (S.set n (.lst (ds ++ es))) := by
  have e : lrefOf S (.ref n) = some (n, ds) := by simp [lrefOf, h]
  have e2 : lstOf S (.lst es) = some es := rfl
  have e0 : iaddP (.ref n) (.lst es) = none := rfl
  constructor
  · rintro ⟨_, S', q, p⟩
    simp only [iaddM, e0, e, e2, hf, if_true] at q; cases q; exact p
  · intro p; exact ⟨.ref n, _, by simp only [iaddM, e0, e, e2, hf, if_true], p⟩
structure ExpI (S : Sto) (row inner : List Str) (k : Nat) (ρ : Rho) (S1 : Sto) : Prop where
  ex : ∃ o : Option D, ρ = [some (T row), some (T inner), some (.ref S.length), o] ∧ S1 = S ++ [.lst (((row.take k).flatMap (exp1 inner)).map D.str)]
theorem ok_expanded {S : Sto} {row inner A B : List Str} {x : Str} {P : D → Sto → Prop} (hr : Row row) (hi : Row inner) (f : Fit row inner A B x) (nr : NR S) (h : P (T (A ++ inner ++ B)) S) : Okm (f_expanded [T row, T inner]) S P := by
  refine okm_run rfl ?_
  have tk : S.take S.length = S := List.take_length
  simp only [d_expanded, startR]
  refine okm_seq (okm_if ?_)
  simp [N_expanded]
  refine okm_callF ?_
  simp [pick]
  refine ok_diff hr nr ?_
  simp
  refine okm_next ?_
  simp
  refine okm_seq (okm_if ?_)
  simp
  refine okm_callF ?_
  simp [pick]
  refine ok_diff hi nr ?_
  simp
  refine okm_compP (selF row) ?_
  simp
  refine ⟨by have := hi.sz; rw [sizeLine_eq]; omega, nr, ?_, ?_⟩
  · intro y hy
    refine ⟨_, rfl, fun acc ha => ?_⟩
    simp [wipeR]
    rw [in_t]
    simp
    by_cases hyr : y ∈ row
    · simp [hyr, nrf, selF]
    · simp [hyr, selF]
  · have ef : inner.filterMap (selF row ∘ D.str) = [.str x] := by rw [← List.filterMap_map, sel_map, f.filter hi.nd]; rfl
    rw [ef]
    simp
    refine okm_next ?_
    simp
    refine okm_seq (okm_set ?_)
    simp [fits_of]
    refine okm_seq (okm_for ?_)
    simp
    refine ⟨ExpI S row inner, ⟨none, rfl, rfl⟩, ?_, ?_⟩
    · rintro k d ρ S1 y hy rfl ⟨o, rfl, rfl⟩
      have hk := (List.getElem?_eq_some_iff.mp hy).1
      have et : row.take (k + 1) = row.take k ++ [y] := by rw [List.take_succ, hy]; rfl
      have hfl : ∀ m, m ≤ row.length → ((row.take m).flatMap (exp1 inner)).length ≤ m * 60 := by
        intro m
        induction m with
        | zero => intro _; simp
        | succ m ih =>
          intro hm
          have h1 := ih (by omega)
          rw [List.take_succ, List.getElem?_eq_getElem (by omega), List.flatMap_append, List.length_append]
          have h2 : (List.flatMap (exp1 inner) (some row[m]).toList).length ≤ 60 := by
            simp [exp1]
            split
            · exact hi.sz
            · simp
          omega
      have hlen := hfl k (by omega)
      have hr60 := hr.sz
      refine okm_aug (x := .ref S.length) rfl ?_
      simp
      rw [in_t]
      by_cases hin : y ∈ inner
      · simp [hin]
        rw [iadd_r sg_0 (fits_of (by have := hi.sz; simp only [List.length_map]; omega)), sw_0]
        refine ⟨_, rfl, ?_⟩
        rw [et, List.flatMap_append]
        simp [exp1, hin]
      · simp [hin, fits_of]
        rw [iadd_r sg_0 (fits_of (by simp only [List.length_map, List.length_cons, List.length_nil]; omega)), sw_0]
        refine ⟨_, rfl, ?_⟩
        rw [et, List.flatMap_append]
        simp [exp1, hin]
    · rintro ρ S1 ⟨o, rfl, rfl⟩
      refine okm_ret ?_
      simp
      rw [tuple_r sg_0, f.flat]
      simp [nrf, nrfs_strs]
      have := nrfs_strs (A ++ inner ++ B)
      simp at this
      refine ⟨this, nr, ?_⟩
      simpa [T] using h
/-! ### told right -/
structure Short (xs : List Str) : Prop where
  nm : ∀ x ∈ xs, Nm x
  sz : xs.length ≤ 200
theorem Row.short {xs : List Str} (h : Row xs) : Short xs := ⟨h.nm, by have := h.sz; omega⟩
theorem Short.okPs {xs : List Str} (h : Short xs) : CR.okPs (xs.map D.str) = true := okPs_strs fun x hx => nm_ok (h.nm x hx)
theorem Short.wt {xs : List Str} (h : Short xs) : PyData.weightAll (xs.map PyData.str) ≤ 1400 := by
  have := weight_strs (m := 6) (xs := xs) fun x hx => (h.nm x hx).2.1
  have := h.sz
  omega
def R2 (xs ys : List Str) : Str := (pyD (.lst [T xs, T ys])).shown
theorem repr2 {S : Sto} {P : D → Sto → Prop} {xs ys : List Str} (hx : Short xs) (hy : Short ys) : Okm (mRepr [.lst [T xs, T ys]]) S P ↔ P (.str (R2 xs ys)) S := by
  refine repr_l ?_ ?_ ?_
  · simp only [CR.okPs, okP, hx.okPs, hy.okPs]; rfl
  · simp [pyD, pyDs, pyDs_strs, PyData.depth, PyData.depthAll, depth_strs]
  · have h1 := hx.wt
    have h2 := hy.wt
    simp only [pyD, pyDs, pyDs_strs, PyData.weight, PyData.weightAll]
    omega
def atF (order more : List Str) : D → Option D
  | .int k => if order.getD k.toNat Str.empty ∈ more then some (.int k) else none
  | _ => none
theorem one_of {f : D → Option D} {n a : Nat} (ha : a < n) (h : ∀ k : Nat, k < n → f (.int (0 + (k : Int))) = if k = a then some (.int (a : Int)) else none) : (rangeL 0 (n : Int)).filterMap f = [.int (a : Int)] := by
  unfold rangeL
  have e : ((n : Int) - 0).toNat = n := by omega
  rw [e]
  have go : ∀ m, m ≤ n → ((List.range m).map fun (i : Nat) => D.int (0 + (i : Int))).filterMap f = if a < m then [.int (a : Int)] else [] := by
    intro m
    induction m with
    | zero => intro _; simp
    | succ m ih =>
      intro hm
      rw [List.range_succ, List.map_append, List.filterMap_append, ih (by omega)]
      simp only [List.map_cons, List.map_nil, List.filterMap_cons, List.filterMap_nil, h m (by omega)]
      by_cases h1 : m = a
      · subst h1; simp
      · rw [if_neg h1]
        by_cases h2 : a < m
        · rw [if_pos h2, if_pos (by omega)]; rfl
        · rw [if_neg h2, if_neg (by omega)]; rfl
  rw [go n (Nat.le_refl _), if_pos ha]
theorem Fit.at {row inner A B : List Str} {x : Str} (f : Fit row inner A B x) (k : Nat) (hk : k < row.length) : (row[k] ∈ inner) ↔ k = A.length := by
  obtain ⟨e, h, no⟩ := f
  subst e
  constructor
  · intro hm
    by_cases h1 : k < A.length
    · rw [List.getElem_append_left h1] at hm
      exact absurd hm (no _ (List.mem_append_left _ (List.getElem_mem h1)))
    · by_cases h2 : k = A.length
      · exact h2
      · have h3 : A.length + 1 ≤ k := by omega
        have : (A ++ x :: B)[k] ∈ B := by
          rw [List.getElem_append_right (by omega), List.getElem_cons]
          simp only [List.length_append, List.length_cons] at hk
          rw [dif_neg (by omega)]
          exact List.getElem_mem _
        exact absurd hm (no _ (List.mem_append_right _ this))
  · rintro rfl
    rw [List.getElem_append_right (Nat.le_refl _)]
    simpa using h
theorem ok_told {S : Sto} {order more A B : List Str} {x : Str} {P : D → Sto → Prop} (hr : Row order) (hi : Row more) (f : Fit order more A B x) (nr : NR S) (h : P (.bl true) S) : Okm (f__law_told_right [T order, T more]) S P := by
  refine okm_run rfl ?_
  have tk : S.take S.length = S := List.take_length
  have hl : order.length = A.length + 1 + B.length := by rw [f.e]; simp; omega
  have h60 := hr.sz
  have g60 := hi.sz
  have hdue : Short (A ++ more ++ B) := by
    refine ⟨fun y hy => ?_, by simp; omega⟩
    simp only [List.mem_append] at hy
    rcases hy with (hy | hy) | hy
    · exact hr.nm y (by rw [f.e]; simp [hy])
    · exact hi.nm y hy
    · exact hr.nm y (by rw [f.e]; simp [hy])
  simp only [d__law_told_right, startR]
  refine okm_seq (okm_set ?_)
  simp only [okm_op]
  refine okm_compP (atF order more) ?_
  simp [N__law_told_right, small_of (show order.length < 4611686018427387904 by omega)]
  refine ⟨by rw [rangeL_len, sizeLine_eq]; omega, nr, ?_, ?_⟩
  · intro d hd
    obtain ⟨k, hk, rfl⟩ := mem_rangeL hd
    refine ⟨_, rfl, fun acc ha => ?_⟩
    simp [wipeR]
    have hg : (order.map D.str)[k]? = some (.str order[k]) := by rw [List.getElem?_map, List.getElem?_eq_getElem hk]; rfl
    rw [ix_t (CR.atI_nat hg), in_t]
    have eg : order.getD (k : Int).toNat Str.empty = order[k] := by simp [List.getD, List.getElem?_eq_getElem hk]
    simp
    by_cases hm : order[k] ∈ more
    · simp [hm, atF, List.getElem?_eq_getElem hk, nrf]
    · simp [hm, atF, List.getElem?_eq_getElem hk]
  · rw [one_of (a := A.length) (by omega) fun k hk => by
      simp only [atF]
      have e1 : ((0 : Int) + (k : Int)).toNat = k := by omega
      rw [e1]
      have e2 : order.getD k Str.empty = order[k] := by simp [List.getD, List.getElem?_eq_getElem hk]
      rw [e2]
      by_cases hm : k = A.length
      · rw [if_pos ((f.at k hk).mpr hm), if_pos hm, hm]; simp
      · rw [if_neg (fun q => hm ((f.at k hk).mp q)), if_neg hm]]
    rw [ix_l (show atI [D.int (A.length : Int)] 0 = some (.int A.length) from rfl)]
    refine okm_seq (okm_par ?_)
    have a1 : ((A.length : Int) + 1) = ((A.length + 1 : Nat) : Int) := by omega
    have et : order.take A.length = A := by rw [f.e]; simp
    have ed : order.drop (A.length + 1) = B := by
      rw [f.e, List.drop_append]; simp
    have m1 : (order.map D.str).take A.length = A.map D.str := by rw [← List.map_take, et]
    have m2 : (order.map D.str).drop (A.length + 1) = B.map D.str := by rw [← List.map_drop, ed]
    obtain ⟨due, edue⟩ : ∃ due, due = A ++ more ++ B := ⟨_, rfl⟩
    have emap : A.map D.str ++ more.map D.str ++ B.map D.str = due.map D.str := by rw [edue]; simp
    have exq : ∀ Q : D → Sto → Prop, Q (T due) S → Okm (f_expanded [T order, T more]) S Q := fun Q q => ok_expanded hr hi f nr (by rw [← edue]; exact q)
    rw [← edue] at hdue
    have ldue : (due.length : Int) = order.length + more.length - 1 := by rw [edue]; simp; omega
    have fw : ∀ S', slD S' (T order) (some ((A.length : Int) + 1)) none = some (.tup (B.map D.str)) := fun S' => by rw [a1]; show slD S' (.tup _) _ _ = _; rw [slt_r, m2]
    have fl : ∀ S', slD S' (T order) none (some (A.length : Int)) = some (.tup (A.map D.str)) := fun S' => by show slD S' (.tup _) _ _ = _; rw [slt_l, m1]
    simp only [okm_aCons, okm_aNil, okm_op, okm_sl, okm_oNone, okm_oSome, okm_v0, okm_vs, okm_asI, List.set_cons_succ, List.set_cons_zero, okm_cst, add_ii, fw, fl, List.map_cons, List.map_nil, List.cons_append, List.nil_append, N__law_told_right, List.length_cons, List.length_nil, List.replicate]
    refine ⟨_, rfl, ?_⟩
    rw [add_tt]
    refine ⟨fits_of (by simp; omega), _, rfl, ?_⟩
    rw [add_tt]
    refine ⟨fits_of (by simp; omega), ?_⟩
    rw [emap]
    simp only [okm_callB, okm_aCons, okm_aNil, okm_lst, okm_v0, okm_vs]
    refine ⟨fits_of (by simp), ?_⟩
    rw [repr2 hr.short hi.short]
    refine ⟨_, _, rfl, ?_⟩
    simp only [nxt_nx, List.set_cons_succ, List.set_cons_zero]
    refine okm_seq (okm_if ?_)
    simp only [okm_tOf, okm_op, okm_callB, okm_aCons, okm_aNil, okm_lst]
    refine okm_callF ?_
    simp [pick]
    refine exq _ ?_
    refine okm_callF ?_
    simp [pick]
    refine exq _ ?_
    refine ⟨fits_of (by simp), ?_⟩
    rw [repr2 hdue hdue]
    refine ⟨fits_of (by simp), ?_⟩
    rw [show (D.tup (due.map D.str)) = T due from rfl, repr2 hdue hdue]
    simp
    refine okm_next ?_
    simp
    refine okm_ret ?_
    simp [fits_of]
    rw [repr2 hr.short hi.short]
    simp
    refine okm_callF ?_
    simp [pick]
    refine exq _ ?_
    simp [ldue, nrf]
    exact ⟨nr, h⟩
end K50

namespace K50
open PySem PySem.Spec CR L2 CL
theorem perm_strs {es : List D} {xs : List Str} (h : es.Perm (xs.map D.str)) : ∃ ys : List Str, es = ys.map D.str ∧ ys.Perm xs := by
  have all : ∀ d ∈ es, ∃ x, d = .str x := fun d hd => by
    have := h.mem_iff.mp hd
    obtain ⟨x, _, rfl⟩ := List.mem_map.mp this
    exact ⟨x, rfl⟩
  have mk : ∀ l : List D, (∀ d ∈ l, ∃ x, d = D.str x) → ∃ ys : List Str, l = ys.map D.str := by
    intro l
    induction l with
    | nil => intro _; exact ⟨[], rfl⟩
    | cons d l ih =>
      intro hl
      obtain ⟨x, rfl⟩ := hl d (List.mem_cons_self ..)
      obtain ⟨ys, rfl⟩ := ih fun e he => hl e (List.mem_cons_of_mem _ he)
      exact ⟨x :: ys, rfl⟩
  obtain ⟨ys, rfl⟩ := mk es all
  refine ⟨ys, rfl, ?_⟩
  have g : ∀ d : D, D.str (match d with | .str x => x | _ => Str.empty) = d ∨ True := fun _ => .inr trivial
  have := h.map fun d : D => match d with | .str x => x | _ => Str.empty
  rw [List.map_map, List.map_map] at this
  have e : ∀ l : List Str, l.map ((fun d : D => match d with | .str x => x | _ => Str.empty) ∘ D.str) = l := fun l => by
    conv => rhs; rw [← List.map_id l]
    exact List.map_congr_left fun _ _ => rfl
  rw [e, e] at this
  exact this
theorem Rising.nodup {xs : List Str} (h : Rising xs) : xs.Nodup := by
  refine List.Pairwise.imp (fun {x y} h e => ?_) h
  subst e
  rw [strLt_iff] at h
  exact absurd h (List.lt_irrefl _)
/-- the letters drawn for the others -/
abbrev qs : Str := "q"
def low : List Nat := [97, 98, 99, 100, 101, 102, 103, 104]
theorem low_eq : signsD ("abcdefgh" : Str) = (low.map fun k => (⟨#[k]⟩ : Str)).map D.str := by kernel_rfl
theorem rep_i {S : Sto} {P : D → Sto → Prop} {z : Str} {b : Bool} : Okm (mMul (.lst [.str z]) (.int (if b = true then 1 else 0))) S P ↔ P (.lst (if b = true then [.str z] else [])) S := by
  refine opt1_some ?_
  cases b <;> rfl
structure OtI (S : Sto) (n : Nat) (p : D) (xs ys ls : List Str) (k : Nat) (ρ : Rho) (S1 : Sto) : Prop where
  ex : ∃ o : Option D, ρ = [some (.ref n), some (T xs), o, none, some (T ys), some (.lst ((((ls.take k).map fun l => qs ++ l).filter fun z => !decide (z ∈ xs)).map D.str)), none, none, none, none] ∧ S1 = S.set n p
/-- both ways -/
theorem both {order os M1 M2 : List Str} {t : Str} (ho : Row order) (hos : ∀ o ∈ os, Nm o) (nd : os.Nodup) (sz : os.length ≤ 8) (dis : ∀ o ∈ os, o ∉ order) (ht : t ∈ order) (hM : (M1 ++ M2).Sublist os) :
    Row (M1 ++ t :: M2) ∧ (∃ A B, Fit order (M1 ++ t :: M2) A B t) ∧ Fit (M1 ++ t :: M2) order M1 M2 t := by
  have hin : ∀ y ∈ M1 ++ M2, y ∈ os := fun y hy => hM.subset hy
  have hn : (M1 ++ M2).Nodup := hM.nodup nd
  have pm : (M1 ++ t :: M2).Perm (t :: (M1 ++ M2)) := List.perm_middle
  have tno : t ∉ M1 ++ M2 := fun h => dis t (hin t h) ht
  refine ⟨⟨by simp, pm.nodup_iff.mpr (List.nodup_cons.mpr ⟨tno, hn⟩), fun y hy => ?_, ?_⟩, ?_, ?_⟩
  · rcases List.mem_cons.mp (pm.mem_iff.mp hy) with rfl | h
    · exact ho.nm y ht
    · exact hos y (hin y h)
  · have := hM.length_le
    rw [pm.length_eq, List.length_cons]; omega
  · obtain ⟨A, B, e⟩ := List.append_of_mem ht
    refine ⟨A, B, e, by simp, fun y hy hm => ?_⟩
    have nd1 : (A ++ t :: B).Nodup := e ▸ ho.nd
    have pm1 : (A ++ t :: B).Perm (t :: (A ++ B)) := List.perm_middle
    have nd2 := List.nodup_cons.mp (pm1.nodup_iff.mp nd1)
    have hyo : y ∈ order := by
      rw [e]; exact pm1.mem_iff.mpr (List.mem_cons_of_mem _ hy)
    rcases List.mem_cons.mp (pm.mem_iff.mp hm) with rfl | h
    · exact nd2.1 hy
    · exact dis y (hin y h) hyo
  · exact ⟨rfl, ht, fun y hy h => dis y (hin y hy) h⟩
structure AtI (S : Sto) (n : Nat) (xs order os : List Str) (l : Option D) (ρ : Rho) (S1 : Sto) : Prop where
  ex : ∃ (p : D) (o3 o6 o7 o8 o9 : Option D), PoolD p ∧ ρ = [some (.ref n), some (T xs), l, o3, some (T order), some (.lst (os.map D.str)), o6, o7, o8, o9] ∧ S1 = S.set n p
structure MoI (S1 : Sto) (ρ0 : Option D → Rho) (ρ : Rho) (S2 : Sto) : Prop where
  ex : ∃ o, ρ = ρ0 o ∧ S2 = S1
theorem ok_right {S : Sto} {n : Nat} {P : D → Sto → Prop} (hp : PoolAt S n) (nr : NR S) (h : ∀ p, PoolD p → P (.bl true) (S.set n p)) : Okm (f__law_right [.ref n]) S P := by
  have hlt := hp.lt
  refine okm_run rfl ?_
  simp only [d__law_right, startR]
  refine okm_seq (okm_set ?_)
  refine okm_callF ?_
  simp only [okm_aCons, okm_aNil, okm_op, okm_cst]
  simp [N__law_right]
  refine okm_callF ?_
  simp [pick, e_draw]
  refine ok_draw hp nr (by decide) (by decide) fun r p1 hr0 hr1 hp1 => ?_
  obtain ⟨rn, rfl⟩ : ∃ rn : Nat, r = rn := ⟨r.toNat, by omega⟩
  have nr1 : ∀ p, PoolD p → NR (S.set n p) := fun p hp => nr.set n hp.nrf
  have pa : ∀ p, PoolD p → PoolAt (S.set n p) n := fun p hp => PoolAt.set hlt hp
  have em : (1 + (rn : Int)) = ((1 + rn : Nat) : Int) := by omega
  simp [pick, e_things]
  rw [em]
  refine ok_things (pa p1 hp1) (nr1 p1 hp1) (by omega) (by omega) fun xs p2 hxs hp2 => ?_
  rw [List.set_set]
  refine okm_seq (okm_par ?_)
  simp
  refine okm_callF ?_
  simp [pick, e_mixed]
  refine ok_mixed (ds := xs.map D.str) (pa p2 hp2) (nr1 p2 hp2) (fun _ => rfl) (fun S' Q q => by rw [len_t]; exact q) (nrfs_strs xs) (by simp [hxs.len]; omega) (by simp only [nrf, nrfs_strs]) fun es p3 hpm hp3 => ?_
  rw [List.set_set]
  obtain ⟨order, rfl, hord⟩ := perm_strs hpm
  simp [fits_of]
  refine ⟨_, _, ⟨rfl, rfl⟩, okm_seq (okm_for ?_)⟩
  simp
  refine okm_callF ?_
  simp [pick]
  have l8 : fits ("abcdefgh" : Str).length = true := by kernel_rfl
  have e8 : (("abcdefgh" : Str).length : Int) = (signsD ("abcdefgh" : Str)).length := by rfl
  refine ok_mixed (d := .str "abcdefgh") (ds := signsD ("abcdefgh" : Str)) (pa p3 hp3) (nr1 p3 hp3) (fun _ => by simp only [listF, l8, if_true]) (fun S' Q q => by rw [len_s, e8]; exact ⟨l8, q⟩) (by rw [low_eq]; exact nrfs_strs _) (by rw [low_eq]; decide) rfl fun es2 p4 hpm2 hp4 => ?_
  rw [List.set_set]
  rw [low_eq] at hpm2
  obtain ⟨ls, rfl, hls⟩ := perm_strs hpm2
  simp
  refine ⟨OtI S n p4 xs order ls, ⟨none, rfl, rfl⟩, ?_, ?_⟩
  · rintro k d ρ S1 l hl rfl ⟨o, rfl, rfl⟩
    have hl1 : l.length = 1 := by
      have := hls.mem_iff.mp (List.mem_of_getElem? hl)
      obtain ⟨c, _, rfl⟩ := List.mem_map.mp this
      rfl
    have q1 : (Str.ofString "q").length = 1 := by kernel_rfl
    have et : ls.take (k + 1) = ls.take k ++ [l] := by rw [List.take_succ, hl]; rfl
    have hk8 : ls.length = 8 := by rw [hls.length_eq]; rfl
    have hk := (List.getElem?_eq_some_iff.mp hl).1
    refine okm_set ?_
    simp only [okm_op, okm_v0, okm_vs, okm_cst, okm_lst, okm_aCons, okm_aNil, okm_callB, List.set_cons_succ, List.set_cons_zero, add_ss, q1, hl1]
    refine ⟨fits_of (by omega), fits_of (by simp), fits_of (by omega), ?_⟩
    rw [notin_t, int_b, rep_i]
    rw [show (D.lst (if (!decide (qs ++ l ∈ xs)) = true then [D.str (qs ++ l)] else [])) = .lst ((if (!decide (qs ++ l ∈ xs)) = true then [qs ++ l] else []).map D.str) by split <;> rfl, add_ll]
    have ef : ((ls.take (k + 1)).map fun l => qs ++ l).filter (fun z => !decide (z ∈ xs)) = ((ls.take k).map fun l => qs ++ l).filter (fun z => !decide (z ∈ xs)) ++ (if (!decide (qs ++ l ∈ xs)) = true then [qs ++ l] else []) := by
      rw [et, List.map_append, List.filter_append]
      congr 1
      simp only [List.map_cons, List.map_nil, List.filter_cons, List.filter_nil]
    refine ⟨fits_of ?_, ⟨some (.str l), by rw [ef, List.map_append], rfl⟩⟩
    have h1 := List.length_filter_le (fun z => !decide (z ∈ xs)) ((ls.take k).map fun l => qs ++ l)
    simp only [List.length_map, List.length_take] at h1
    have h2 : (if (!decide (qs ++ l ∈ xs)) = true then [qs ++ l] else []).length ≤ 1 := by split <;> simp
    rw [List.length_map, List.length_map]
    omega
  · rintro ρ S1 ⟨o, rfl, rfl⟩
    rw [List.take_length]
    generalize hos : (ls.map fun l => qs ++ l).filter (fun z => !decide (z ∈ xs)) = os
    have hk8 : ls.length = 8 := by rw [hls.length_eq]; rfl
    have osz : os.length ≤ 8 := by
      rw [← hos]
      have := List.length_filter_le (fun z => !decide (z ∈ xs)) (ls.map fun l => qs ++ l)
      simp at this ⊢; omega
    have lsn : ls.Nodup := hls.nodup_iff.mpr (by decide +kernel)
    have osn : os.Nodup := by
      rw [← hos]
      refine List.Pairwise.filter _ ?_
      rw [List.pairwise_map]
      refine lsn.imp fun {a b} hne e => hne ?_
      have e : (qs.cps ++ a.cps) = (qs.cps ++ b.cps) := by injection e
      have := congrArg Array.toList e
      simp at this
      exact str_ext (by simpa using this)
    have osm : ∀ z ∈ os, Nm z ∧ z ∉ xs := fun z hz => by
      rw [← hos, List.mem_filter] at hz
      obtain ⟨h1, h2⟩ := hz
      obtain ⟨l, hl, rfl⟩ := List.mem_map.mp h1
      refine ⟨?_, by simpa using h2⟩
      obtain ⟨c, hc, rfl⟩ := List.mem_map.mp (hls.mem_iff.mp hl)
      have : ∀ c ∈ low, nmB (qs ++ (⟨#[c]⟩ : Str)) = true := by decide +kernel
      exact nmB_ok (this c hc)
    have ro : Row order := ⟨by intro e; subst e; have := hord.length_eq; rw [hxs.len] at this; simp only [List.length_nil] at this; omega, hord.nodup_iff.mpr (Rising.nodup hxs.up), fun x hx => hxs.nm x (hord.mem_iff.mp hx), by rw [hord.length_eq, hxs.len]; omega⟩
    have dis : ∀ z ∈ os, z ∉ order := fun z hz h => (osm z hz).2 (hord.mem_iff.mp h)
    have oln : order.length = 1 + rn := by rw [hord.length_eq, hxs.len]
    have bt := fun {M1 M2 : List Str} {t : Str} (ht : t ∈ order) (hM : (M1 ++ M2).Sublist os) => both ro (fun z hz => (osm z hz).1) osn osz dis ht hM
    refine okm_seq (okm_for ?_)
    simp
    refine okm_callF ?_
    simp [pick]
    refine ok_draw (pa p4 hp4) (nr1 p4 hp4) (by omega) (by omega) fun r3 p5 hr30 hr31 hp5 => ?_
    rw [List.set_set]
    simp [fits_of]
    refine ⟨fun _ => AtI S n xs order os o, ⟨p5, none, none, none, none, none, hp5, rfl, rfl⟩, ?_, ?_⟩
    · rintro k d ρ S1 hd ⟨p, o3, o6, o7, o8, o9, hp, rfl, rfl⟩
      obtain ⟨at_, hat, rfl⟩ : ∃ i : Nat, i < order.length ∧ d = .int i := by
        have := List.mem_of_getElem? hd
        simp at this
        rcases this with rfl | rfl | rfl
        · exact ⟨0, by omega, rfl⟩
        · exact ⟨order.length - 1, by omega, by congr 1; omega⟩
        · exact ⟨r3.toNat, by omega, by congr 1; omega⟩
      refine okm_seq (okm_set ?_)
      simp
      refine okm_callF ?_
      simp [pick]
      refine ok_draw (pa p hp) (nr1 p hp) (by omega) (by omega) fun r4 p6 hr40 hr41 hp6 => ?_
      rw [List.set_set]
      obtain ⟨m4, rfl⟩ : ∃ m4 : Nat, r4 = m4 := ⟨r4.toNat, by omega⟩
      simp [sll_l]
      refine okm_seq (okm_set ?_)
      simp
      refine okm_callF ?_
      have hmt : (os.map D.str).take m4 = (os.take m4).map D.str := by rw [List.map_take]
      simp only [hmt]
      generalize hmates : os.take m4 = mates
      have hmsub : mates.Sublist os := hmates ▸ List.take_sublist _ _
      have hml : mates.length ≤ 8 := Nat.le_trans hmsub.length_le osz
      simp [pick]
      refine ok_draw (pa p6 hp6) (nr1 p6 hp6) (by omega) (by omega) fun r5 p7 hr50 hr51 hp7 => ?_
      rw [List.set_set]
      obtain ⟨cut, rfl⟩ : ∃ cut : Nat, r5 = cut := ⟨r5.toNat, by omega⟩
      generalize ht : order[at_] = t
      have htm : t ∈ order := ht ▸ List.getElem_mem hat
      have hg : (order.map D.str)[at_]? = some (.str t) := by rw [List.getElem?_map, List.getElem?_eq_getElem hat, ht]; rfl
      refine okm_seq (okm_set ?_)
      simp [ix_t (CR.atI_nat hg), fits_of]
      refine okm_for ?_
      simp [fits_of, slt_l, slt_r]
      refine ⟨fits_of (by omega), fits_of (by omega), fits_of (by omega), fits_of (by omega), fun _ => MoI (S.set n p7) (fun o9 => [some (.ref n), some (T xs), o, some (.int at_), some (T order), some (.lst (os.map D.str)), some (T mates), some (.int cut), some (T [t]), o9]), ⟨o9, rfl, rfl⟩, ?_, ?_⟩
      · rintro k d ρ S1 hd ⟨o9, rfl, rfl⟩
        obtain ⟨M1, M2, hM, rfl⟩ : ∃ M1 M2 : List Str, (M1 ++ M2).Sublist os ∧ d = T (M1 ++ t :: M2) := by
          have := List.mem_of_getElem? hd
          simp only [List.mem_cons, List.not_mem_nil, or_false] at this
          rcases this with rfl | rfl | rfl | rfl
          · exact ⟨[], [], by simp, by simp [T]⟩
          · exact ⟨[], mates, by simpa using hmsub, by simp [T]⟩
          · exact ⟨mates, [], by simpa using hmsub, by simp [T]⟩
          · exact ⟨mates.take cut, mates.drop cut, by rw [List.take_append_drop]; exact hmsub, by simp [T, List.map_take, List.map_drop]⟩
        obtain ⟨rm, ⟨A, B, f1⟩, f2⟩ := bt htm hM
        generalize M1 ++ t :: M2 = more at *
        refine okm_if ?_
        simp
        refine okm_callF ?_
        simp [pick]
        refine ok_told ro rm f1 (nr1 p7 hp7) ?_
        simp
        refine okm_callF ?_
        simp [pick]
        refine ok_told rm ro f2 (nr1 p7 hp7) ?_
        simp
        refine okm_next ?_
        exact ⟨_, rfl, rfl⟩
      · rintro ρ S1 ⟨o9, rfl, rfl⟩
        exact ⟨p7, _, _, _, _, _, hp7, rfl, rfl⟩
    · rintro ρ S1 ⟨p, o3, o6, o7, o8, o9, hp, rfl, rfl⟩
      refine okm_ret ?_
      simp [nrf]
      have tk : (S.set n p).take S.length = S.set n p := List.take_of_length_le (by simp)
      rw [tk]
      exact ⟨nr1 p hp, h p hp⟩
end K50

namespace K50
open PySem PySem.Spec CR L2 CL
def rowB (xs : List Str) : Bool := !xs.isEmpty && decide xs.Nodup && xs.all nmB && decide (xs.length ≤ 60)
theorem rowB_ok {xs : List Str} (h : rowB xs = true) : Row xs := by
  simp only [rowB, Bool.and_eq_true, decide_eq_true_eq, List.all_eq_true, Bool.not_eq_true'] at h
  obtain ⟨⟨⟨h1, h2⟩, h3⟩, h4⟩ := h
  exact ⟨(by intro e; subst e; cases h1), h2, fun x hx => nmB_ok (h3 x hx), h4⟩
theorem fit_of {x : Str} {more : List Str} : ∀ {order : List Str}, order.filter (fun y => decide (y ∈ more)) = [x] → ∃ A B, Fit order more A B x
  | [], h => by cases h
  | y :: order, h => by
    by_cases hy : y ∈ more
    · rw [List.filter_cons_of_pos (by simpa using hy)] at h
      injection h with h1 h2
      subst h1
      refine ⟨[], order, rfl, hy, fun z hz hm => ?_⟩
      have := List.filter_eq_nil_iff.mp h2 z hz
      simp at this
      exact this hm
    · rw [List.filter_cons_of_neg (by simpa using hy)] at h
      obtain ⟨A, B, f⟩ := fit_of h
      refine ⟨y :: A, B, by rw [f.e]; rfl, f.h, fun z hz hm => ?_⟩
      rcases List.mem_cons.mp hz with rfl | hz
      · exact hy hm
      · exact f.no z hz hm
def fitB (order more : List Str) : Bool := (order.filter fun y => decide (y ∈ more)).length == 1
theorem fitB_ok {order more : List Str} (h : fitB order more = true) : ∃ x A B, Fit order more A B x := by
  unfold fitB at h
  have h := eq_of_beq h
  match e : order.filter fun y => decide (y ∈ more), h with
  | [x], _ =>
    obtain ⟨A, B, f⟩ := fit_of e
    exact ⟨x, A, B, f⟩
def l26 : List Str := (List.range' 97 26).map fun k => (⟨#[k]⟩ : Str)
theorem l26_eq : signsD lets = l26.map D.str := by kernel_rfl
def pairs : List (List Str × List Str) := [(["c", "a"], ["b", "a"]), (["a"], ["a"]), (["a"], ["b", "a", "c"]), (l26, ["m", "zzzzzz", "aa"]), ("aa" :: "bb" :: l26.take 3, "cc" :: "bb" :: "dd" :: l26.drop 20)]
theorem pairs_ok : ∀ q ∈ pairs, Row q.1 ∧ Row q.2 ∧ ∃ x A B, Fit q.1 q.2 A B x := by
  intro q hq
  have h1 : pairs.all (fun q => rowB q.1 && rowB q.2 && fitB q.1 q.2) = true := by decide +kernel
  have := List.all_eq_true.mp h1 q hq
  simp only [Bool.and_eq_true] at this
  exact ⟨rowB_ok this.1.1, rowB_ok this.1.2, fitB_ok this.2⟩
def itemsP : List D := pairs.map fun q => D.tup [T q.1, T q.2]
theorem itemsP_nrf : nrfs itemsP = true := nrfs_iff.mpr fun d hd => by
  obtain ⟨q, _, rfl⟩ := List.mem_map.mp hd
  simp [nrf, nrfs, nrfs_strs]
theorem last (ns : List Int) (hl : ns.length ≤ 63) (items : List D) (hit : items = itemsP) : Okm
    (sSeq (sIf (tNotM (tTru mTru (eCallB mAll (aCons (eComp true false (iSeq (eVar 2)) [4, 5] (gmTup [4, 5]) tYesM (eCallF f__law_told_right 2 0 [.p 0, .p 1] dd__law_told_right (aCons (eVar 4) (aCons (eVar 5) aNil)) aNil)) aNil)))) (sRet (eCst (.bl false))) sNext)
      (sRet (eCallB mAll (aCons (eComp true false (iRg rng1 (aCons (eCallB (opt2 max2D) (aCons (eCst (.int 2)) (aCons (eCallB (opt2 min2D) (aCons (eCallB mLen (aCons (eVar 0) aNil)) (aCons (eCst (.int 6)) aNil))) aNil))) aNil)) [3] (gmName 3) tYesM (eCallF f__law_right 1 0 [.p 0] dd__law_right (aCons (eCallF f__law_pool 1 0 [.p 0] dd__law_pool (aCons (eCallF f__law_cell 2 0 [.p 0, .p 1] dd__law_cell (aCons (eVar 0) (aCons (eVar 3) aNil)) aNil) aNil) aNil) aNil) aNil)) aNil)))
      [some (.fz (ns.map D.int)), some (.tup (l26.map D.str)), some (.ref 0), none, none, none]) [.lst items] (finP false ([] : Sto).length fun d _ => d = .bl true) := by
  subst hit
  have nr : NR [D.lst itemsP] := by show nrfs _ = true; simp [nrfs, nrf, itemsP_nrf]
  have nra : ∀ acc, nrfs acc = true → NR ([D.lst itemsP] ++ [D.lst acc]) := fun acc ha => nr.app (show nrfs [D.lst acc] = true by simp only [nrfs, nrf, ha, Bool.and_true])
  refine okm_seq (okm_if ?_)
  simp only [okm_tNot, okm_tTru, okm_callB, okm_aCons, okm_aNil]
  refine okm_compP (fun _ => some (.bl true)) ?_
  simp only [okm_iSeq, okm_v0, okm_vs]
  rw [items_r (ds := itemsP) rfl]
  refine ⟨by show 5 < _; rw [sizeLine_eq]; omega, nr, fun T => rfl, ?_, ?_⟩
  · intro d hd
    obtain ⟨q, hq, rfl⟩ := List.mem_map.mp hd
    obtain ⟨r1, r2, x, A, B, f⟩ := pairs_ok q hq
    refine ⟨_, rfl, fun acc ha => ?_⟩
    simp only [tTrue, if_true, true_and]
    refine ⟨_, rfl, rfl, ?_⟩
    refine okm_callF ?_
    simp [pick, wipeR]
    exact ok_told r1 r2 f (nra acc ha) ⟨rfl, [], by simp⟩
  · rw [all_true (by simp)]
    simp
    refine okm_next ?_
    simp only [nxt_nx]
    refine okm_ret ?_
    simp only [okm_callB, okm_aCons, okm_aNil]
    refine okm_compP (fun _ => some (.bl true)) ?_
    simp
    generalize hm : (if (if (6 : Int) < ns.length then (6 : Int) else ns.length) > 2 then (if (6 : Int) < ns.length then (6 : Int) else ns.length) else 2) = m
    obtain ⟨mn, rfl, hmn⟩ : ∃ mn : Nat, m = mn ∧ mn ≤ 6 := ⟨m.toNat, by split at hm <;> (try split at hm) <;> omega, by split at hm <;> (try split at hm) <;> omega⟩
    refine ⟨small_of (by omega), by rw [rangeL_len, sizeLine_eq]; omega, nr, ?_, ?_⟩
    · intro d hd
      obtain ⟨k, hk, rfl⟩ := mem_rangeL hd
      refine ⟨_, rfl, fun acc ha => ⟨rfl, ?_⟩⟩
      have nra := nra acc ha
      refine okm_callF ?_
      simp only [okm_aCons, okm_aNil]
      refine okm_callF ?_
      simp only [okm_aCons, okm_aNil]
      refine okm_callF ?_
      simp [pick, wipeR, e_cell]
      refine ok_cell nra (by omega) (by omega) hl fun r => ?_
      simp [pick, e_pool]
      refine ok_pool nra fun p hp => ?_
      simp [pick]
      refine ok_right (S := [D.lst itemsP, D.lst acc, p]) (n := 2) ⟨p, rfl, hp⟩ (nra.app (T := [p]) (show nrfs [p] = true by simp only [nrfs, hp.nrf, Bool.and_true])) fun p' hp' => ?_
      exact ⟨rfl, [p'], rfl⟩
    · rw [all_true (by simp)]
      exact ⟨rfl, rfl, rfl⟩
theorem law_true (ns : List Int) (hl : ns.length ≤ 63) : ∃ S, f_law [.fz (ns.map D.int)] [] = .ok (.bl true) S := by
  have goal : Okm (f_law [.fz (ns.map D.int)]) [] (fun d _ => d = .bl true) := by
    refine okm_run rfl ?_
    simp only [d_law, startR]
    refine okm_seq (okm_set ?_)
    have l26f : fits lets.length = true := by rw [lets_len]; exact fits_of (by omega)
    simp only [okm_callB, okm_aCons, okm_aNil, okm_cst, tuple_s, l26_eq]
    refine ⟨l26f, ?_⟩
    refine okm_seq (okm_set ?_)
    simp [N_law, fits_of]
    refine okm_seq (okm_sexpr ?_)
    have s3 : ∀ S', slD S' (.tup (l26.map D.str)) none (some 3) = some (.tup ((l26.take 3).map D.str)) := fun S' => by
      rw [List.map_take]; exact slt_l (k := 3)
    have s20 : ∀ S', slD S' (.tup (l26.map D.str)) (some 20) none = some (.tup ((l26.drop 20).map D.str)) := fun S' => by
      rw [List.map_drop]; exact slt_r (k := 20)
    have ln1 : (l26.take 3).length = 3 := by kernel_rfl
    have ln2 : (l26.drop 20).length = 6 := by kernel_rfl
    simp [s3, s20, fits_of]
    have hlen26 : l26.length = 26 := by kernel_rfl
    refine ⟨fits_of (by omega), fits_of (by omega), ?_⟩
    rw [append_r (S := [_]) (n := 0) rfl (by simp [sizeLine_eq])]
    simp only [nxt_nx, List.set_cons_zero, List.cons_append, List.nil_append]
    refine last ns hl _ rfl
  obtain ⟨d, S, e, rfl⟩ := goal
  exact ⟨S, e⟩
end K50

open PySem PySem.W PySem.Calls PyProof.Rows
theorem PySem.Challenge.cw_closerow_k50_expanded_holds : PySem.Challenge.rw_closerow_k50_expanded.Holds := by
  w_on; o_law
  refine HandSHeadRun.head_any (r := K50.R) (q := view K50.R.prog [19]) (H := K50.hk) (ob := K50.ob) (M := 3000) (loose := ["InvalidInput", "InvalidRow", "InvalidInner", "LETTERS", "LONGEST_NAME", "is_name", "are_different", "expanded", "_law_cell", "_law_pool", "_law_draw", "_law_mixed", "_law_things", "_law_told_right", "_law_right"]) (d := HandSHeadRun.topDef K50.R.prog 19) (kwd := []) K50.ob_eq
    (by kernel_rfl) (fun s => by kernel_rfl) K50.run (by kernel_rfl) (by kernel_rfl) (by kernel_rfl) (by rfl) (by first | assumption | decide +kernel) (by decide +kernel) ⟨rfl, rfl, rfl, rfl, rfl, by decide +kernel⟩ ?hw ?hc
  case hw => w_witness2
  case hc =>
    refine CR.walk_ofG (l := PySem.Challenge.rw_closerow_k50_expanded) (n := 63) (k := 6) (x := "_law_script") rfl (by decide) (by kernel_rfl) ⟨rfl, by decide, by decide⟩ ?F
    intro w mg fa h Y G hmg0
    obtain ⟨K, KX, q⟩ := Y
    have hmg : mg ("law" : PySem.Str) = some (.ref fa) := by
      have e : (HandSHeadRun.topDef K50.R.prog 19).name = ("law" : PySem.Str) := by kernel_rfl
      rw [← e]; exact hmg0
    obtain ⟨fd, hb, hF⟩ := K50.facts (P := (PySem.Challenge.rw_closerow_k50_expanded).prog) (w := w) KX G hmg q
    exact ⟨K, fd, _, KX, hb, fun H a ns hl hS => CR.sp_law (c := ⟨K, fun _ => none⟩) K50.law_true H a ns hl hS, hF⟩


