import PyProof.Rows.All
import Wide.All
import OpenK.AllK
import Wide.FinOn
import HandS.ForMost
import HandS.Walk
import HandS.Exc
import HandS.ExcOwn
import HandS.TryOnly
import HandS.TryMany
import HandS.WordsExc
import HandS.Wide
import HandS.Gcd
import HandS.IsInst
import HandS.TupAny
import PySem.Challenge.RW_carriedstakes_k64_share_names
set_option Elab.async false
set_option linter.all false
set_option maxRecDepth 100000
set_option maxHeartbeats 8000000
/-! The data layer: pure data over the hand layer. Tuples are plain values; what may change stands in a store. -/
namespace DL
open PySem PySem.Spec PyProof.Rows L2

/-- data: tuples are values, lists and instances are named by their place -/
inductive D where
  | non | bl (b : Bool) | int (i : Int) | str (x : Str) | tup (ds : List D) | ref (a : Addr) | scr (ds : List D)
/-- what stands at a place -/
inductive OB where
  | lst (ds : List D)
  | ins (C : Addr) (fs : List (Str × D))
abbrev DS := Addr → Option OB
abbrev DE := List (Option D)
/-- an exception: its class, what it holds -/
structure Xn where
  cls : Addr
  fs : List (Str × D)
abbrev RD := D → DS → Prop
abbrev RX := Xn → DS → Prop
abbrev WE := DE → DS → RD → RX → Prop
abbrev WT := DE → DS → (Bool → DS → Prop) → RX → Prop
abbrev WA := DE → DS → (List D → DS → Prop) → RX → Prop
structure Ed where
  nx : DE → DS → Prop
  rt : D → DS → Prop
  bk : DE → DS → Prop := fun _ _ => False
  ct : DE → DS → Prop := fun _ _ => False
  ex : Xn → DE → DS → Prop := fun _ _ _ => False
abbrev WS := Ed → DE → DS → Prop
def put (st : DS) (a : Addr) (o : OB) : DS := fun b => if b = a then some o else st b
@[simp] theorem put_same {st : DS} {a : Addr} {o : OB} : put st a o a = some o := by unfold put; rw [if_pos rfl]
theorem put_ne {st : DS} {a b : Addr} {o : OB} (h : b ≠ a) : put st a o b = st b := by unfold put; rw [if_neg h]
@[simp] theorem put_put {st : DS} {a : Addr} {o u : OB} : put (put st a o) a u = put st a u := by
  funext b; unfold put; split <;> rfl
theorem put_id {st : DS} {a : Addr} {o : OB} (h : st a = some o) : put st a o = st := by
  funext b; unfold put; split
  · rename_i e; rw [e, h]
  · rfl
theorem put_comm {st : DS} {a b : Addr} {o u : OB} (h : a ≠ b) : put (put st a o) b u = put (put st b u) a o := by
  funext c; unfold put
  by_cases h1 : c = a
  · subst h1; rw [if_neg h, if_pos rfl, if_pos rfl]
  · by_cases h2 : c = b
    · subst h2; rw [if_pos rfl, if_neg h1, if_pos rfl]
    · simp only [if_neg h1, if_neg h2]
/-- fewer places -/
def Sub (s t : DS) : Prop := ∀ a o, s a = some o → t a = some o
theorem Sub.refl (s : DS) : Sub s s := fun _ _ h => h
theorem Sub.trans {s t u : DS} (a : Sub s t) (b : Sub t u) : Sub s u := fun c o h => b c o (a c o h)
theorem Sub.put_new {s : DS} {p : Addr} {o : OB} (h : s p = none) : Sub s (put s p o) := fun a u e => by
  rw [put_ne (fun z => by rw [z, h] at e; cases e)]; exact e
theorem Sub.put_both {s t : DS} (h : Sub s t) (p : Addr) (o : OB) : Sub (put s p o) (put t p o) := fun a u e => by
  unfold put at e ⊢
  split at e
  · rename_i z; rw [if_pos z]; exact e
  · rename_i z; rw [if_neg z]; exact h a u e
theorem Sub.put_to {s t : DS} (h : Sub s t) {p : Addr} (o : OB) (hp : s p = none) : Sub s (put t p o) := fun a u e => by
  rw [put_ne (fun z => by rw [z, hp] at e; cases e)]; exact h a u e

/-! ### data and values -/
/-- a list that is known and never changes: the script -/
def SqF (K : PySem.W.Frag) (H : Hp) (a : Addr) (xs : List V) : Prop :=
  (∃ o, H a = some (.frz o (.lst xs))) ∨
    ∃ (o : Obj) (its : Array Value) (n : Nat), K.lookup a = some o ∧ o.cls = .type "list" ∧ o.dict = none ∧ o.data = .seq its n ∧ its.size ≤ sizeLine ∧ Vals xs its.toList
theorem SqF.sq {K : PySem.W.Frag} {H : Hp} {a : Addr} {xs : List V} (h : SqF K H a xs) : SqL K H a xs := by
  rcases h with ⟨o, h⟩ | h
  · exact .inl (.inr ⟨o, h⟩)
  · exact .inr h
mutual
def Rep (K : PySem.W.Frag) (H : Hp) : D → V → Prop
  | .non, v => v = .non
  | .bl b, v => v = .bl b
  | .int i, v => v = .int i
  | .str x, v => v = .str x
  | .ref a, v => v = .ref a
  | .scr ds, v => ∃ a vs, v = .ref a ∧ SqF K H a vs ∧ Reps K H ds vs
  | .tup ds, v => ∃ a vs, v = .ref a ∧ SqT K H a vs ∧ Reps K H ds vs
def Reps (K : PySem.W.Frag) (H : Hp) : List D → List V → Prop
  | [], vs => vs = []
  | d :: ds, vs => ∃ v r, vs = v :: r ∧ Rep K H d v ∧ Reps K H ds r
end
def RepF (K : PySem.W.Frag) (H : Hp) : List (Str × D) → List (Str × V) → Prop
  | [], fv => fv = []
  | (n, d) :: r, fv => ∃ v t, fv = (n, v) :: t ∧ Rep K H d v ∧ RepF K H r t
def RepO (K : PySem.W.Frag) (H : Hp) (a : Addr) : OB → Prop
  | .lst ds => ∃ vs, H a = some (.lst vs) ∧ Reps K H ds vs
  | .ins C fs => ∃ dx fv, H a = some (.ins C dx fv) ∧ RepF K H fs fv
def RepS (K : PySem.W.Frag) (H : Hp) (st : DS) : Prop := ∀ a o, st a = some o → RepO K H a o
def RepE (K : PySem.W.Frag) (H : Hp) (ep : DE) (sg : L2.St) : Prop :=
  ep.length = sg.length ∧ ∀ (i : Nat) (d : D), ep[i]? = some (some d) → ∃ v, sg[i]? = some (some v) ∧ Rep K H d v
def RepX (K : PySem.W.Frag) (H : Hp) (x : Xn) (cls : Value) (dd : Option Addr) : Prop :=
  cls = .ref x.cls ∧ (x.fs = [] ∨ ∃ d fv, dd = some d ∧ H d = some (.xd fv) ∧ RepF K H x.fs fv)
/-- what stays: tuples, and all that the store does not name -/
structure Keep (K : PySem.W.Frag) (H : Hp) (st : DS) (H' : Hp) (st' : DS) : Prop where
  tup : ∀ a vs, SqT K H a vs → SqT K H' a vs
  scr : ∀ a vs, SqF K H a vs → SqF K H' a vs
  oth : ∀ a o, H a = some o → st a = none → H' a = some o ∧ st' a = none
section
variable {K : PySem.W.Frag} {H H' H1 H2 : Hp} {st st' st1 st2 : DS}
theorem Keep.refl : Keep K H st H st := ⟨fun _ _ h => h, fun _ _ h => h, fun _ _ h k => ⟨h, k⟩⟩
theorem Keep.trans (a : Keep K H st H1 st1) (b : Keep K H1 st1 H2 st2) : Keep K H st H2 st2 :=
  ⟨fun c vs h => b.tup c vs (a.tup c vs h), fun c vs h => b.scr c vs (a.scr c vs h), fun c o h k => b.oth c o (a.oth c o h k).1 (a.oth c o h k).2⟩
mutual
theorem Rep.mono (k : ∀ a vs, SqT K H a vs → SqT K H' a vs) (j : ∀ a vs, SqF K H a vs → SqF K H' a vs) : ∀ (d : D) (v : V), Rep K H d v → Rep K H' d v
  | .non, _, h => by unfold Rep at h ⊢; exact h
  | .bl _, _, h => by unfold Rep at h ⊢; exact h
  | .int _, _, h => by unfold Rep at h ⊢; exact h
  | .str _, _, h => by unfold Rep at h ⊢; exact h
  | .ref _, _, h => by unfold Rep at h ⊢; exact h
  | .tup ds, v, h => by
    unfold Rep at h ⊢
    obtain ⟨a, vs, e, s, r⟩ := h
    exact ⟨a, vs, e, k a vs s, Reps.mono k j ds vs r⟩
  | .scr ds, v, h => by
    unfold Rep at h ⊢
    obtain ⟨a, vs, e, s, r⟩ := h
    exact ⟨a, vs, e, j a vs s, Reps.mono k j ds vs r⟩
theorem Reps.mono (k : ∀ a vs, SqT K H a vs → SqT K H' a vs) (j : ∀ a vs, SqF K H a vs → SqF K H' a vs) : ∀ (ds : List D) (vs : List V), Reps K H ds vs → Reps K H' ds vs
  | [], _, h => by unfold Reps at h ⊢; exact h
  | d :: ds, vs, h => by
    unfold Reps at h ⊢
    obtain ⟨v, r, e, h1, h2⟩ := h
    exact ⟨v, r, e, Rep.mono k j d v h1, Reps.mono k j ds r h2⟩
end
theorem RepF.mono (k : ∀ a vs, SqT K H a vs → SqT K H' a vs) (j : ∀ a vs, SqF K H a vs → SqF K H' a vs) : ∀ (fs : List (Str × D)) (fv : List (Str × V)), RepF K H fs fv → RepF K H' fs fv
  | [], _, h => h
  | (n, d) :: r, _, ⟨v, t, e, h1, h2⟩ => ⟨v, t, e, Rep.mono k j d v h1, RepF.mono k j r t h2⟩
theorem Rep.keep {d : D} {v : V} (h : Rep K H d v) (k : Keep K H st H' st') : Rep K H' d v := Rep.mono k.tup k.scr d v h
theorem Reps.keep {d : List D} {v : List V} (h : Reps K H d v) (k : Keep K H st H' st') : Reps K H' d v := Reps.mono k.tup k.scr d v h
theorem RepF.keep {d : List (Str × D)} {v : List (Str × V)} (h : RepF K H d v) (k : Keep K H st H' st') : RepF K H' d v := RepF.mono k.tup k.scr d v h
theorem RepE.keep {ep : DE} {sg : L2.St} (h : RepE K H ep sg) (k : Keep K H st H' st') : RepE K H' ep sg :=
  ⟨h.1, fun i d e => let ⟨v, e1, r⟩ := h.2 i d e; ⟨v, e1, r.keep k⟩⟩
@[simp] theorem Reps_nil {vs : List V} : Reps K H [] vs ↔ vs = [] := by unfold Reps; rfl
@[simp] theorem Reps_cons {d : D} {ds : List D} {vs : List V} : Reps K H (d :: ds) vs ↔ ∃ v r, vs = v :: r ∧ Rep K H d v ∧ Reps K H ds r := by conv => lhs; unfold Reps
theorem Rep_tup {ds : List D} {v : V} : Rep K H (.tup ds) v ↔ ∃ a vs, v = .ref a ∧ SqT K H a vs ∧ Reps K H ds vs := by conv => lhs; unfold Rep
theorem Rep_scr {ds : List D} {v : V} : Rep K H (.scr ds) v ↔ ∃ a vs, v = .ref a ∧ SqF K H a vs ∧ Reps K H ds vs := by conv => lhs; unfold Rep
theorem Rep_int {i : Int} {v : V} : Rep K H (.int i) v ↔ v = .int i := by unfold Rep; rfl
theorem Rep_bl {i : Bool} {v : V} : Rep K H (.bl i) v ↔ v = .bl i := by unfold Rep; rfl
theorem Rep_str {i : Str} {v : V} : Rep K H (.str i) v ↔ v = .str i := by unfold Rep; rfl
theorem Rep_non {v : V} : Rep K H .non v ↔ v = .non := by unfold Rep; rfl
theorem Rep_ref {i : Addr} {v : V} : Rep K H (.ref i) v ↔ v = .ref i := by unfold Rep; rfl
theorem Reps.nil : Reps K H [] [] := Reps_nil.mpr rfl
theorem Reps.cons {d : D} {ds : List D} {v : V} {vs : List V} (h : Rep K H d v) (t : Reps K H ds vs) : Reps K H (d :: ds) (v :: vs) := Reps_cons.mpr ⟨v, vs, rfl, h, t⟩
theorem Reps.append : ∀ {ds es : List D} {vs us : List V}, Reps K H ds vs → Reps K H es us → Reps K H (ds ++ es) (vs ++ us)
  | [], _, _, _, h, k => by rw [Reps_nil] at h; subst h; exact k
  | d :: ds, es, vs, us, h, k => by
    obtain ⟨v, r, rfl, h1, h2⟩ := Reps_cons.mp h
    exact .cons h1 (Reps.append h2 k)
theorem Reps.length : ∀ {ds : List D} {vs : List V}, Reps K H ds vs → ds.length = vs.length
  | [], _, h => by rw [Reps_nil] at h; subst h; rfl
  | d :: ds, _, h => by
    obtain ⟨v, r, rfl, _, h2⟩ := Reps_cons.mp h
    rw [List.length_cons, List.length_cons, h2.length]
theorem Reps.get : ∀ {ds : List D} {vs : List V} {i : Nat} {d : D}, Reps K H ds vs → ds[i]? = some d → ∃ v, vs[i]? = some v ∧ Rep K H d v
  | [], _, _, _, _, e => by simp at e
  | d :: ds, _, 0, x, h, e => by
    obtain ⟨v, r, rfl, h1, _⟩ := Reps_cons.mp h
    have : d = x := by simpa using e
    subst this
    exact ⟨v, rfl, h1⟩
  | d :: ds, _, i + 1, x, h, e => by
    obtain ⟨v, r, rfl, _, h2⟩ := Reps_cons.mp h
    obtain ⟨u, e1, r1⟩ := Reps.get (i := i) h2 (by simpa using e)
    exact ⟨u, by simpa using e1, r1⟩
theorem Reps.set {d : D} {v : V} (h : Rep K H d v) : ∀ {ds : List D} {vs : List V} (i : Nat), Reps K H ds vs → Reps K H (ds.set i d) (vs.set i v)
  | [], _, _, k => by rw [Reps_nil] at k; subst k; exact Reps.nil
  | e :: ds, _, 0, k => by
    obtain ⟨u, r, rfl, _, h2⟩ := Reps_cons.mp k
    exact .cons h h2
  | e :: ds, _, i + 1, k => by
    obtain ⟨u, r, rfl, h1, h2⟩ := Reps_cons.mp k
    exact .cons h1 (Reps.set h i h2)
theorem Reps.eraseIdx : ∀ {ds : List D} {vs : List V} (i : Nat), Reps K H ds vs → Reps K H (ds.eraseIdx i) (vs.eraseIdx i)
  | [], _, _, k => by rw [Reps_nil] at k; subst k; exact Reps.nil
  | e :: ds, _, 0, k => by
    obtain ⟨u, r, rfl, _, h2⟩ := Reps_cons.mp k
    exact h2
  | e :: ds, _, i + 1, k => by
    obtain ⟨u, r, rfl, h1, h2⟩ := Reps_cons.mp k
    exact .cons h1 (Reps.eraseIdx i h2)
theorem Reps.take : ∀ {ds : List D} {vs : List V} (i : Nat), Reps K H ds vs → Reps K H (ds.take i) (vs.take i)
  | _, _, 0, _ => Reps.nil
  | [], _, _ + 1, k => by rw [Reps_nil] at k; subst k; exact Reps.nil
  | e :: ds, _, i + 1, k => by
    obtain ⟨u, r, rfl, h1, h2⟩ := Reps_cons.mp k
    exact .cons h1 (Reps.take i h2)
theorem Reps.drop : ∀ {ds : List D} {vs : List V} (i : Nat), Reps K H ds vs → Reps K H (ds.drop i) (vs.drop i)
  | _, _, 0, k => k
  | [], _, _ + 1, k => by rw [Reps_nil] at k; subst k; exact Reps.nil
  | e :: ds, _, i + 1, k => by
    obtain ⟨u, r, rfl, h1, h2⟩ := Reps_cons.mp k
    exact Reps.drop i h2
theorem Reps.reverse : ∀ {ds : List D} {vs : List V}, Reps K H ds vs → Reps K H ds.reverse vs.reverse
  | [], _, k => by rw [Reps_nil] at k; subst k; exact Reps.nil
  | e :: ds, _, k => by
    obtain ⟨u, r, rfl, h1, h2⟩ := Reps_cons.mp k
    rw [List.reverse_cons, List.reverse_cons]
    exact (Reps.reverse h2).append (.cons h1 Reps.nil)
theorem Reps.ints : ∀ {ns : List Int} {vs : List V}, Reps K H (ns.map D.int) vs ↔ vs = ns.map V.int
  | [], vs => by rw [List.map_nil, List.map_nil, Reps_nil]
  | n :: ns, vs => by
    rw [List.map_cons, List.map_cons, Reps_cons]
    constructor
    · rintro ⟨v, r, rfl, h1, h2⟩
      rw [Rep_int.mp h1, Reps.ints.mp h2]
    · rintro rfl
      exact ⟨_, _, rfl, Rep_int.mpr rfl, Reps.ints.mpr rfl⟩
theorem RepE.set {ep : DE} {sg : L2.St} {d : D} {v : V} (h : RepE K H ep sg) (r : Rep K H d v) (i : Nat) : RepE K H (ep.set i (some d)) (sg.set i (some v)) := by
  refine ⟨by rw [List.length_set, List.length_set]; exact h.1, fun j e hj => ?_⟩
  by_cases hij : i = j
  · subst hij
    have hl : i < ep.length := by
      have := (List.getElem?_eq_some_iff.mp hj).1
      rw [List.length_set] at this; exact this
    rw [List.getElem?_set_self hl] at hj
    have : d = e := by simpa using hj
    subst this
    exact ⟨v, List.getElem?_set_self (by rw [← h.1]; exact hl), r⟩
  · rw [List.getElem?_set_ne hij] at hj
    obtain ⟨u, e1, r1⟩ := h.2 j e hj
    exact ⟨u, by rw [List.getElem?_set_ne hij]; exact e1, r1⟩
/-- a place where no tuple stands -/
def Nt : Option HO → Prop
  | some (.tup _) => False
  | some (.frz _ _) => False
  | _ => True
theorem sqT_upd {p a : Addr} {o : HO} {vs : List V} (hn : Nt (H p)) (h : SqT K H a vs) : SqT K (upd H p o) a vs := by
  rcases h with (h | ⟨u, h⟩) | h
  · refine .inl (.inl ?_)
    rw [upd_ne (fun z => by rw [← z, h] at hn; exact hn)]; exact h
  · refine .inl (.inr ⟨u, ?_⟩)
    rw [upd_ne (fun z => by rw [← z, h] at hn; exact hn)]; exact h
  · exact .inr h
theorem sqF_upd {p a : Addr} {o : HO} {vs : List V} (hn : Nt (H p)) (h : SqF K H a vs) : SqF K (upd H p o) a vs := by
  rcases h with ⟨u, h⟩ | h
  · refine .inl ⟨u, ?_⟩
    rw [upd_ne (fun z => by rw [← z, h] at hn; exact hn)]; exact h
  · exact .inr h
/-- the objects at other places stand -/
theorem RepO.upd {p a : Addr} {o : HO} {ob : OB} (hn : Nt (H p)) (hne : a ≠ p) (h : RepO K H a ob) : RepO K (upd H p o) a ob := by
  have k : ∀ b vs, SqT K H b vs → SqT K (L2.upd H p o) b vs := fun b vs => sqT_upd hn
  have j : ∀ b vs, SqF K H b vs → SqF K (L2.upd H p o) b vs := fun b vs => sqF_upd hn
  cases ob with
  | lst ds =>
    obtain ⟨vs, e, r⟩ := h
    exact ⟨vs, by rw [upd_ne hne]; exact e, Reps.mono k j ds vs r⟩
  | ins C fs =>
    obtain ⟨dx, fv, e, r⟩ := h
    exact ⟨dx, fv, by rw [upd_ne hne]; exact e, RepF.mono k j fs fv r⟩
theorem RepS.there (h : RepS K H st) {p : Addr} {o : OB} (e : st p = some o) : ∃ u, H p = some u ∧ Nt (some u) ∧ Mut (some u) := by
  have q := h p o e
  cases o with
  | lst ds => obtain ⟨vs, e1, _⟩ := q; exact ⟨_, e1, trivial, trivial⟩
  | ins C fs => obtain ⟨_, _, e1, _⟩ := q; exact ⟨_, e1, trivial, trivial⟩
theorem RepS.free (h : RepS K H st) {p : Addr} (hp : H p = none) : st p = none := by
  cases e : st p with
  | none => rfl
  | some o =>
    obtain ⟨u, e1, _⟩ := h.there e
    rw [hp] at e1; cases e1
theorem nt_none {p : Addr} (hp : H p = none) : Nt (H p) := by rw [hp]; trivial
/-- a new thing, tracked in the store or not -/
theorem RepS.untold (h : RepS K H st) {p : Addr} (hp : H p = none) (o : HO) : RepS K (upd H p o) st := fun a ob e => by
  have ne : a ≠ p := fun z => by rw [z, h.free hp] at e; cases e
  exact (h a ob e).upd (nt_none hp) ne
theorem Keep.untold {p : Addr} (hp : H p = none) (o : HO) : Keep K H st (upd H p o) st :=
  ⟨fun a vs => sqT_upd (nt_none hp), fun a vs => sqF_upd (nt_none hp), fun a u e k => ⟨by rw [upd_ne (ne_of_none e hp)]; exact e, k⟩⟩
theorem RepS.told (h : RepS K H st) {p : Addr} (hp : H p = none) {o : HO} {ob : OB} (hob : RepO K (upd H p o) p ob) : RepS K (upd H p o) (put st p ob) := fun a u e => by
  by_cases ne : a = p
  · subst ne
    rw [put_same] at e; cases e
    exact hob
  · rw [put_ne ne] at e
    exact (h a u e).upd (nt_none hp) ne
theorem Keep.told {p : Addr} (hp : H p = none) (o : HO) (ob : OB) : Keep K H st (upd H p o) (put st p ob) :=
  ⟨fun a vs => sqT_upd (nt_none hp), fun a vs => sqF_upd (nt_none hp), fun a u e k => ⟨by rw [upd_ne (ne_of_none e hp)]; exact e, by rw [put_ne (ne_of_none e hp)]; exact k⟩⟩
/-- a thing of the store changes -/
theorem RepS.write (h : RepS K H st) {p : Addr} {o0 : OB} (hp : st p = some o0) {o : HO} {ob : OB} (hob : RepO K (upd H p o) p ob) : RepS K (upd H p o) (put st p ob) := fun a u e => by
  obtain ⟨_, e0, hn, _⟩ := h.there hp
  by_cases ne : a = p
  · subst ne
    rw [put_same] at e; cases e
    exact hob
  · rw [put_ne ne] at e
    exact (h a u e).upd (by rw [e0]; exact hn) ne
theorem RepS.keepW (h : RepS K H st) {p : Addr} {o0 : OB} (hp : st p = some o0) (o : HO) (ob : OB) : Keep K H st (upd H p o) (put st p ob) := by
  obtain ⟨_, e0, hn, _⟩ := h.there hp
  have hn' : Nt (H p) := by rw [e0]; exact hn
  refine ⟨fun a vs => sqT_upd hn', fun a vs => sqF_upd hn', fun a u e k => ?_⟩
  have ne : a ≠ p := fun z => by rw [z, hp] at k; cases k
  exact ⟨by rw [upd_ne ne]; exact e, by rw [put_ne ne]; exact k⟩
/-- fewer places may be told -/
theorem RepS.sub (h : RepS K H st) (s : Sub st1 st) : RepS K H st1 := fun a o e => h a o (s a o e)
theorem Keep.sub (k : Keep K H st H' st') (s : Sub st1 st') : Keep K H st H' st1 :=
  ⟨k.tup, k.scr, fun a o e z => ⟨(k.oth a o e z).1, by
    cases q : st1 a with
    | none => rfl
    | some u =>
      have := s a u q
      rw [(k.oth a o e z).2] at this; cases this⟩⟩
end
end DL

namespace DL
open PySem PySem.Spec PyProof.Rows L2

/-! ### judgements over data -/
section
variable (K : PySem.W.Frag) (W : WX)
def OkQ (H : Hp) (st : DS) (R : RD) (Q : VK) : Prop := ∀ v H' d st', Keep K H st H' st' → RepS K H' st' → Rep K H' d v → R d st' → Q v H'
def OkX (sg : L2.St) (H : Hp) (st : DS) (Rx : RX) : Prop := ∀ x cls dd H' st', Keep K H st H' st' → RepS K H' st' → RepX K H' x cls dd → Rx x st' → W cls dd sg H'
def twE (w : WE) : TE := fun sg H Q => ∃ ep st R Rx, RepE K H ep sg ∧ RepS K H st ∧ w ep st R Rx ∧ OkQ K H st R Q ∧ OkX K W sg H st Rx
def twT (w : WT) : TT := fun sg H Q => ∃ ep st R Rx, RepE K H ep sg ∧ RepS K H st ∧ w ep st R Rx ∧ (∀ b H' st', Keep K H st H' st' → RepS K H' st' → R b st' → Q b H') ∧ OkX K W sg H st Rx
def twA (n : Nat) (w : WA) : TA := fun sg H Q => ∃ ep st R Rx, RepE K H ep sg ∧ RepS K H st ∧ w ep st R Rx ∧ (∀ vs H' ds st', ds.length = n → Keep K H st H' st' → RepS K H' st' → Reps K H' ds vs → R ds st' → Q vs H') ∧ OkX K W sg H st Rx
structure OkS (H : Hp) (st : DS) (E : Ed) (Dn : Ends) : Prop where
  nx : ∀ sg' H' ep' st', Keep K H st H' st' → RepS K H' st' → RepE K H' ep' sg' → E.nx ep' st' → Dn.nx sg' H'
  rt : ∀ v H' d st', Keep K H st H' st' → RepS K H' st' → Rep K H' d v → E.rt d st' → Dn.rt v H'
  bk : ∀ sg' H' ep' st', Keep K H st H' st' → RepS K H' st' → RepE K H' ep' sg' → E.bk ep' st' → Dn.bk sg' H'
  ct : ∀ sg' H' ep' st', Keep K H st H' st' → RepS K H' st' → RepE K H' ep' sg' → E.ct ep' st' → Dn.ct sg' H'
  ex : ∀ x cls dd sg' H' ep' st', Keep K H st H' st' → RepS K H' st' → RepE K H' ep' sg' → RepX K H' x cls dd → E.ex x ep' st' → W cls dd sg' H'
def twS (w : WS) : TS := fun Dn sg H => ∃ ep st E, RepE K H ep sg ∧ RepS K H st ∧ w E ep st ∧ OkS K W H st E Dn
end
section
variable {K : PySem.W.Frag} {W : WX} {H H1 : Hp} {st st1 : DS} {sg : L2.St} {ep : DE}
theorem OkX.keep {Rx : RX} (h : OkX K W sg H st Rx) (k : Keep K H st H1 st1) : OkX K W sg H1 st1 Rx := fun x cls dd H' st' k' s r q => h x cls dd H' st' (k.trans k') s r q
theorem OkQ.keep {R : RD} {Q : VK} (h : OkQ K H st R Q) (k : Keep K H st H1 st1) : OkQ K H1 st1 R Q := fun v H' d st' k' s r q => h v H' d st' (k.trans k') s r q
theorem OkS.keep {E : Ed} {Dn : Ends} (h : OkS K W H st E Dn) (k : Keep K H st H1 st1) : OkS K W H1 st1 E Dn :=
  ⟨fun a b c d k' => h.nx a b c d (k.trans k'), fun a b c d k' => h.rt a b c d (k.trans k'), fun a b c d k' => h.bk a b c d (k.trans k'), fun a b c d k' => h.ct a b c d (k.trans k'), fun a b c d e f g k' => h.ex a b c d e f g (k.trans k')⟩
theorem OkS.okX {E : Ed} {Dn : Ends} (h : OkS K W H st E Dn) (e : RepE K H ep sg) : OkX K W sg H st (fun x st' => E.ex x ep st') :=
  fun x cls dd H' st' k s r q => h.ex x cls dd sg H' ep st' k s (e.keep k) r q
end

theorem _root_.L2.PE.weak {X : Cx} {e : Expr} {t t' : TE} (h : PE X e t) (f : ∀ sg H Q, t' sg H Q → t sg H Q) : PE X e t' := ⟨fun pins s sg H Q I hw => h.run pins s sg H Q I (f sg H Q hw)⟩
theorem _root_.L2.PT.weak {X : Cx} {e : Expr} {t t' : TT} (h : PT X e t) (f : ∀ sg H Q, t' sg H Q → t sg H Q) : PT X e t' := ⟨fun pins s sg H Q I hw => h.run pins s sg H Q I (f sg H Q hw)⟩
theorem _root_.L2.PW.weak {X : Cx} {e : Expr} {t t' : TT} (h : PW X e t) (f : ∀ sg H Q, t' sg H Q → t sg H Q) : PW X e t' := ⟨fun wh pins s sg H Q I hw => h.run wh pins s sg H Q I (f sg H Q hw)⟩
theorem _root_.L2.PA.weak {X : Cx} {e : List Expr} {t t' : TA} (h : PA X e t) (f : ∀ sg H Q, t' sg H Q → t sg H Q) : PA X e t' := ⟨fun pos pins s sg H Q I hw => h.run pos pins s sg H Q I (f sg H Q hw)⟩
theorem _root_.L2.PS.weak {X : Cx} {e : Stmt} {t t' : TS} (h : PS X e t) (f : ∀ Dn sg H, t' Dn sg H → t Dn sg H) : PS X e t' := ⟨fun pins s sg H Dn I hw => h.run pins s sg H Dn I (f Dn sg H hw)⟩
theorem _root_.L2.PSs.weak {X : Cx} {e : List Stmt} {t t' : TS} (h : PSs X e t) (f : ∀ Dn sg H, t' Dn sg H → t Dn sg H) : PSs X e t' := ⟨fun pins s sg H Dn I hw => h.run pins s sg H Dn I (f Dn sg H hw)⟩

abbrev JE (X : Cx) (W : WX) (e : Expr) (w : WE) : Prop := PE X e (twE X.K W w)
abbrev JT (X : Cx) (W : WX) (e : Expr) (w : WT) : Prop := PT X e (twT X.K W w)
abbrev JW (X : Cx) (W : WX) (e : Expr) (w : WT) : Prop := PW X e (twT X.K W w)
abbrev JA (X : Cx) (W : WX) (n : Nat) (e : List Expr) (w : WA) : Prop := PA X e (twA X.K W n w)
abbrev JS (X : Cx) (W : WX) (e : Stmt) (w : WS) : Prop := PS X e (twS X.K W w)
abbrev JSs (X : Cx) (W : WX) (e : List Stmt) (w : WS) : Prop := PSs X e (twS X.K W w)

/-! ### names and constants -/
/-- a test's two ways -/
def cnd (t : Bool) (A B : Unit → Prop) : Prop := (t = true → A ()) ∧ (t = false → B ())
@[simp] theorem cnd_true {A B : Unit → Prop} : cnd true A B = A () := by
  unfold cnd
  exact propext ⟨fun h => h.1 rfl, fun h => ⟨fun _ => h, fun e => Bool.noConfusion e⟩⟩
@[simp] theorem cnd_false {A B : Unit → Prop} : cnd false A B = B () := by
  unfold cnd
  exact propext ⟨fun h => h.2 rfl, fun h => ⟨fun e => Bool.noConfusion e, fun _ => h⟩⟩
theorem cnd_not {t : Bool} {A B : Unit → Prop} : cnd (!t) A B = cnd t B A := by cases t <;> simp
def getL (st : DS) (a : Addr) (k : List D → Prop) : Prop := match st a with
  | some (.lst ds) => k ds
  | _ => False
def optP {α : Type} (o : Option α) (k : α → Prop) : Prop := match o with
  | some x => k x
  | none => False
def asB (d : D) (k : Bool → Prop) : Prop := match d with
  | .bl b => k b
  | _ => False
def asI (d : D) (k : Int → Prop) : Prop := match d with
  | .int b => k b
  | _ => False
theorem getL_inv {st : DS} {a : Addr} {k : List D → Prop} (h : getL st a k) : ∃ ds, st a = some (.lst ds) ∧ k ds := by
  unfold getL at h
  cases e : st a with
  | none => rw [e] at h; exact h.elim
  | some o =>
    rw [e] at h
    cases o with
    | lst ds => exact ⟨ds, rfl, h⟩
    | ins C fs => exact h.elim
theorem optP_inv {α : Type} {o : Option α} {k : α → Prop} (h : optP o k) : ∃ x, o = some x ∧ k x := by
  cases o with
  | none => exact h.elim
  | some x => exact ⟨x, rfl, h⟩
theorem getL_eq {st : DS} {a : Addr} {k : List D → Prop} {ds : List D} (e : st a = some (.lst ds)) : getL st a k = k ds := by unfold getL; rw [e]
@[simp] theorem getL_put {st : DS} {a : Addr} {k : List D → Prop} {ds : List D} : getL (put st a (.lst ds)) a k = k ds := getL_eq put_same
theorem getL_ne {st : DS} {a b : Addr} {o : OB} {k : List D → Prop} (h : b ≠ a) : getL (put st a o) b k = getL st b k := by unfold getL; rw [put_ne h]
@[simp] theorem optP_some {α : Type} {x : α} {k : α → Prop} : optP (some x) k = k x := rfl
def lk (ep : DE) (i : Nat) : Option D := (ep[i]?).getD none
def wVar (i : Nat) : WE := fun ep st R _ => match lk ep i with
  | some d => R d st
  | none => False
def wC (d : D) : WE := fun _ st R _ => R d st
theorem lk_some {ep : DE} {i : Nat} {d : D} (h : lk ep i = some d) : ep[i]? = some (some d) := by
  unfold lk at h
  cases e : ep[i]? with
  | none => rw [e] at h; cases h
  | some x => rw [e] at h; rw [show x = some d from h]
section
variable {X : Cx} {W : WX}
theorem jv (i : Nat) {x : Str} {pos : Pos} (hN : X.N[i]? = some x := by rfl) (hv : Vis X.env.scope x := by first | exact Or.inl rfl | exact Or.inr (Or.inl rfl) | exact Or.inr (Or.inr rfl)) (hd : (x == ("__debug__" : Str)) = false := by decide)
    (hcd : (x == ("__classdict__" : Str)) = false := by decide) : JE X W (.Name x pos) (wVar i) := by
  refine (pe_var hN hv hd hcd).weak ?_
  rintro sg H Q ⟨ep, st, R, Rx, he, hs, hw, hq, hx⟩
  unfold wVar at hw
  cases e : lk ep i with
  | none => rw [e] at hw; exact hw.elim
  | some d =>
    rw [e] at hw
    obtain ⟨v, e1, r⟩ := he.2 i d (lk_some e)
    exact ⟨v, e1, hq v H d st .refl hs r hw⟩
theorem j_const {e : Expr} {v : V} {d : D} (h : PE X e (tC v)) (r : ∀ K H, Rep K H d v) : JE X W e (wC d) := by
  refine h.weak ?_
  rintro sg H Q ⟨ep, st, R, Rx, he, hs, hw, hq, hx⟩
  exact hq v H d st .refl hs (r _ _) hw
theorem ji {i j pos} : JE X W (.Constant (.int i) j pos) (wC (.int i)) := j_const pe_int fun _ _ => Rep_int.mpr rfl
theorem jb {b j pos} : JE X W (.Constant (.bool b) j pos) (wC (.bl b)) := j_const pe_bl fun _ _ => Rep_bl.mpr rfl
theorem jn {j pos} : JE X W (.Constant .none j pos) (wC .non) := j_const pe_non fun _ _ => Rep_non.mpr rfl
theorem jstr {x j pos} : JE X W (.Constant (.str x) j pos) (wC (.str x)) := j_const pe_str fun _ _ => Rep_str.mpr rfl
/-- a class or a function as a value -/
theorem jg {x : Str} {a : Addr} {pos : Pos} (hg : Gl X x) (hm : X.mg x = some (.ref a)) (hd : (x == ("__debug__" : Str)) = false := by decide) : JE X W (.Name x pos) (wC (.ref a)) :=
  j_const (pe_glob (v := .ref a) hg hm rfl hd) fun _ _ => Rep_ref.mpr rfl
end

/-! ### two parts -/
abbrev F2 := D → D → DS → RD → Prop
def wBin (f : F2) (wa wb : WE) : WE := fun ep st R Rx => wa ep st (fun x st1 => wb ep st1 (fun y st2 => f x y st2 R) Rx) Rx
/-- what a hand-layer reading does, told by data -/
def Sim2 (K : PySem.W.Frag) (r : R2) (f : F2) : Prop := ∀ H st x y dx dy R Q, RepS K H st → Rep K H dx x → Rep K H dy y → f dx dy st R → OkQ K H st R Q → r x y H Q
section
variable {X : Cx} {W : WX} {K : PySem.W.Frag}
theorem tw_bin {r : R2} {f : F2} {wa wb : WE} (hf : Sim2 K r f) : ∀ sg H Q, twE K W (wBin f wa wb) sg H Q → tOp r (twE K W wa) (twE K W wb) sg H Q := by
  rintro sg H Q ⟨ep, st, R, Rx, he, hs, hw, hq, hx⟩
  refine ⟨ep, st, _, Rx, he, hs, hw, fun x H1 d1 st1 k1 s1 r1 hw1 => ?_, hx⟩
  exact ⟨ep, st1, _, Rx, he.keep k1, s1, hw1, fun y H2 d2 st2 k2 s2 r2 hw2 => hf H2 st2 x y d1 d2 R Q s2 (r1.keep k2) r2 hw2 (hq.keep (k1.trans k2)), hx.keep k1⟩
theorem j_op {a b : Expr} {wa wb : WE} {op : Operator} {r : R2} {f : F2} {pos : Pos} (ho : OpR X (binaryOp op) r) (hf : Sim2 X.K r f) (ha : JE X W a wa) (hb : JE X W b wb) : JE X W (.BinOp a op b pos) (wBin f wa wb) :=
  (pe_op ho ha hb).weak (tw_bin hf)
theorem j_cmp {a b : Expr} {wa wb : WE} {op : CmpOp} {r : R2} {f : F2} {pos : Pos} (ho : OpR X (compareOp op) r) (hf : Sim2 X.K r f) (ha : JE X W a wa) (hb : JE X W b wb) (hm : behindInMarks op b = false := by first | rfl | exact nobehind _ (by decide) (by decide)) :
    JE X W (.Compare a [op] [b] pos) (wBin f wa wb) := (pe_cmpR ho ha hb hm).weak (tw_bin hf)
def wBinT (f : F2) (wa wb : WE) : WT := fun ep st R Rx => wBin f wa wb ep st (fun d st' => asB d fun b => R b st') Rx
theorem tw_binT {r : R2} {f : F2} {wa wb : WE} (hf : Sim2 K r f) : ∀ sg H Q, twT K W (wBinT f wa wb) sg H Q → tTest (tOp r (twE K W wa) (twE K W wb)) sg H Q := by
  rintro sg H Q ⟨ep, st, R, Rx, he, hs, hw, hq, hx⟩
  refine tw_bin hf sg H _ ⟨ep, st, _, Rx, he, hs, hw, fun v H' d st' k s r h => ?_, hx⟩
  cases d with
  | bl b => exact ⟨b, Rep_bl.mp r, hq b H' st' k s h⟩
  | _ => exact h.elim
theorem j_cmpT {a b : Expr} {wa wb : WE} {op : CmpOp} {r : R2} {f : F2} {pos : Pos} (ho : OpR X (compareOp op) r) (hf : Sim2 X.K r f) (ha : JE X W a wa) (hb : JE X W b wb) (hm : behindInMarks op b = false := by first | rfl | exact nobehind _ (by decide) (by decide)) :
    JT X W (.Compare a [op] [b] pos) (wBinT f wa wb) := (pt_cmpR ho ha hb hm).weak (tw_binT hf)
end
end DL

namespace DL
open PySem PySem.Spec PyProof.Rows L2

/-! ### operators by data -/
theorem OpR_or {X : Cx} {f : Value → Value → Sem Value} {r r' : R2} (h : OpR X f r) (h' : OpR X f r') : OpR X f (fun x y H Q => r x y H Q ∨ r' x y H Q) := by
  intro pins s sg H x y v u Q I rx ry hq
  rcases hq with q | q
  · exact h pins s sg H x y v u Q I rx ry q
  · exact h' pins s sg H x y v u Q I rx ry q
/-- products that the machine's size of ints lets -/
def MulOk (i j : Int) : Prop := CMul i j ∨ CMulW i j
theorem op_mulA {X : Cx} : OpR X (binaryOp .Mult) (rI MulOk fun i j => .int (i * j)) := opI fun _ _ _ _ _ _ _ hc q => mul_int q (hc.elim CMul.ok CMulW.ok)
def addD : F2 := fun x y st R => match x, y with
  | .int i, .int j => R (.int (i + j)) st
  | .str a, .str b => a.length + b.length ≤ sizeLine ∧ R (.str (a ++ b)) st
  | .tup a, .tup b => a.length + b.length ≤ sizeLine ∧ R (.tup (a ++ b)) st
  | .ref p, .ref q => getL st p fun a => getL st q fun b => a.length + b.length ≤ sizeLine ∧ ∀ l, st l = none → R (.ref l) (put st l (.lst (a ++ b)))
  | _, _ => False
def subD : F2 := fun x y st R => match x, y with
  | .int i, .int j => R (.int (i - j)) st
  | _, _ => False
def mulD : F2 := fun x y st R => match x, y with
  | .int i, .int j => MulOk i j ∧ R (.int (i * j)) st
  | _, _ => False
def divD : F2 := fun x y st R => match x, y with
  | .int i, .int j => (0 < j ∧ j.natAbs.log2 < 9000) ∧ R (.int (i / j)) st
  | _, _ => False
def modD : F2 := fun x y st R => match x, y with
  | .int i, .int j => 0 < j ∧ R (.int (i % j)) st
  | _, _ => False
def powD : F2 := fun x y st R => match x, y with
  | .int i, .int j => CPow i j ∧ R (.int (i ^ j.toNat)) st
  | _, _ => False
def shlD : F2 := fun x y st R => match x, y with
  | .int i, .int j => CPow i j ∧ R (.int (i * 2 ^ j.toNat)) st
  | _, _ => False
section
variable {K : PySem.W.Frag}
theorem sim_int {C : Int → Int → Prop} {g : Int → Int → Int} {f : F2} (h : ∀ dx dy st R, f dx dy st R → ∃ i j, dx = .int i ∧ dy = .int j ∧ C i j ∧ R (.int (g i j)) st) : Sim2 K (rI C fun i j => .int (g i j)) f := by
  intro H st x y dx dy R Q hs rx ry hf hq
  obtain ⟨i, j, rfl, rfl, hc, hr⟩ := h _ _ _ _ hf
  exact ⟨i, j, Rep_int.mp rx, Rep_int.mp ry, hc, hq _ _ _ _ .refl hs (Rep_int.mpr rfl) hr⟩
theorem sim_int0 {g : Int → Int → Int} {f : F2} (h : ∀ dx dy st R, f dx dy st R → ∃ i j, dx = .int i ∧ dy = .int j ∧ R (.int (g i j)) st) : Sim2 K (rI0 fun i j => .int (g i j)) f := by
  intro H st x y dx dy R Q hs rx ry hf hq
  obtain ⟨i, j, rfl, rfl, hr⟩ := h _ _ _ _ hf
  exact ⟨i, j, Rep_int.mp rx, Rep_int.mp ry, hq _ _ _ _ .refl hs (Rep_int.mpr rfl) hr⟩
theorem sim_sub : Sim2 K (rI0 fun i j => .int (i - j)) subD := sim_int0 fun dx dy st R h => by
  cases dx <;> cases dy <;> first | exact h.elim | exact ⟨_, _, rfl, rfl, h⟩
theorem sim_mul : Sim2 K (rI MulOk fun i j => .int (i * j)) mulD := sim_int fun dx dy st R h => by
  cases dx <;> cases dy <;> first | exact h.elim | exact ⟨_, _, rfl, rfl, h.1, h.2⟩
theorem sim_div : Sim2 K (rI CDivW fun i j => .int (i / j)) divD := sim_int fun dx dy st R h => by
  cases dx <;> cases dy <;> first | exact h.elim | exact ⟨_, _, rfl, rfl, h.1, h.2⟩
theorem sim_mod : Sim2 K (rI (fun _ j => 0 < j) fun i j => .int (i % j)) modD := sim_int fun dx dy st R h => by
  cases dx <;> cases dy <;> first | exact h.elim | exact ⟨_, _, rfl, rfl, h.1, h.2⟩
theorem sim_pow : Sim2 K (rI CPow fun i j => .int (i ^ j.toNat)) powD := sim_int fun dx dy st R h => by
  cases dx <;> cases dy <;> first | exact h.elim | exact ⟨_, _, rfl, rfl, h.1, h.2⟩
theorem sim_shl : Sim2 K (rI CPow fun i j => .int (i * 2 ^ j.toNat)) shlD := sim_int fun dx dy st R h => by
  cases dx <;> cases dy <;> first | exact h.elim | exact ⟨_, _, rfl, rfl, h.1, h.2⟩
end
def rStrAdd : R2 := fun x y H Q => ∃ i j, x = .str i ∧ y = .str j ∧ i.length + j.length ≤ sizeLine ∧ Q (.str (i ++ j)) H
theorem op_addA {X : Cx} : OpR X (binaryOp .Add) (fun x y H Q => (rI0 (fun i j => .int (i + j)) x y H Q ∨ rStrAdd x y H Q) ∨ (rCatA X.K x y H Q ∨ rCat x y H Q)) :=
  OpR_or (OpR_or op_add op_add_str) (OpR_or op_catA op_cat)
theorem sim_add {K : PySem.W.Frag} : Sim2 K (fun x y H Q => (rI0 (fun i j => .int (i + j)) x y H Q ∨ rStrAdd x y H Q) ∨ (rCatA K x y H Q ∨ rCat x y H Q)) addD := by
  intro H st x y dx dy R Q hs rx ry hf hq
  cases dx with
  | int i =>
    cases dy with
    | int j => exact .inl (.inl ⟨i, j, Rep_int.mp rx, Rep_int.mp ry, hq _ _ _ _ .refl hs (Rep_int.mpr rfl) hf⟩)
    | _ => exact hf.elim
  | str i =>
    cases dy with
    | str j => exact .inl (.inr ⟨i, j, Rep_str.mp rx, Rep_str.mp ry, hf.1, hq _ _ _ _ .refl hs (Rep_str.mpr rfl) hf.2⟩)
    | _ => exact hf.elim
  | tup as =>
    cases dy with
    | tup bs =>
      obtain ⟨a, va, rfl, ta, ra⟩ := Rep_tup.mp rx
      obtain ⟨b, vb, rfl, tb, rb⟩ := Rep_tup.mp ry
      obtain ⟨hz, hr⟩ := hf
      have la := ra.length
      have lb := rb.length
      refine .inr (.inl ⟨a, b, va, vb, rfl, rfl, ta, tb, by omega, fun e => ?_, fun e1 e2 => ?_, fun e1 e2 p hp => ?_⟩)
      · subst e
        have : as = [] := by
          cases as with
          | nil => rfl
          | cons d ds => simp at la
        subst this
        exact hq _ _ _ _ .refl hs (Rep_tup.mpr ⟨b, vb, rfl, tb, rb⟩) hr
      · subst e2
        have : bs = [] := by
          cases bs with
          | nil => rfl
          | cons d ds => simp at lb
        subst this
        refine hq _ _ _ _ .refl hs (Rep_tup.mpr ⟨a, va, rfl, ta, ra⟩) ?_
        rw [List.append_nil] at hr; exact hr
      · have k : Keep K H st (upd H p (.tup (va ++ vb))) st := Keep.untold hp _
        exact hq _ _ _ _ k (hs.untold hp _) (Rep_tup.mpr ⟨p, _, rfl, .inl (.inl upd_same), (ra.keep k).append (rb.keep k)⟩) hr
    | _ => exact hf.elim
  | ref p =>
    cases dy with
    | ref q =>
      obtain ⟨as, ha, hf⟩ := getL_inv hf
      obtain ⟨bs, hb, hz, hr⟩ := getL_inv hf
      obtain ⟨va, ea, ra⟩ := hs p _ ha
      obtain ⟨vb, eb, rb⟩ := hs q _ hb
      have la := ra.length
      have lb := rb.length
      refine .inr (.inr ⟨p, q, va, vb, Rep_ref.mp rx, Rep_ref.mp ry, ea, eb, by omega, fun l hl => ?_⟩)
      have k : Keep K H st (upd H l (.lst (va ++ vb))) (put st l (.lst (as ++ bs))) := Keep.told hl _ _
      exact hq _ _ _ _ k (hs.told hl ⟨_, upd_same, (ra.keep k).append (rb.keep k)⟩) (Rep_ref.mpr rfl) (hr l (hs.free hl))
    | _ => exact hf.elim
  | _ => exact hf.elim
section
variable {X : Cx} {W : WX} {a b : Expr} {wa wb : WE} {pos : Pos}
theorem j_add (ha : JE X W a wa) (hb : JE X W b wb) : JE X W (.BinOp a .Add b pos) (wBin addD wa wb) := j_op op_addA sim_add ha hb
theorem j_sub (ha : JE X W a wa) (hb : JE X W b wb) : JE X W (.BinOp a .Sub b pos) (wBin subD wa wb) := j_op op_sub sim_sub ha hb
theorem j_mul (ha : JE X W a wa) (hb : JE X W b wb) : JE X W (.BinOp a .Mult b pos) (wBin mulD wa wb) := j_op op_mulA sim_mul ha hb
theorem j_div (ha : JE X W a wa) (hb : JE X W b wb) : JE X W (.BinOp a .FloorDiv b pos) (wBin divD wa wb) := j_op op_fdivW sim_div ha hb
theorem j_mod (ha : JE X W a wa) (hb : JE X W b wb) : JE X W (.BinOp a .Mod b pos) (wBin modD wa wb) := j_op op_mod sim_mod ha hb
theorem j_pow (ha : JE X W a wa) (hb : JE X W b wb) : JE X W (.BinOp a .Pow b pos) (wBin powD wa wb) := j_op op_pow sim_pow ha hb
theorem j_shl (ha : JE X W a wa) (hb : JE X W b wb) : JE X W (.BinOp a .LShift b pos) (wBin shlD wa wb) := j_op op_shl sim_shl ha hb
end

/-! ### comparisons by data -/
/-- data that == tells, with the lists of the store -/
inductive PyOf (st : DS) : D → PyData → Prop where
  | non : PyOf st .non .none
  | bl (b : Bool) : PyOf st (.bl b) (.bool b)
  | int (i : Int) : PyOf st (.int i) (.int i)
  | str (x : Str) : PyOf st (.str x) (.str x)
  | tup {ds : List D} {ps : List PyData} (h : Paired (PyOf st) ds ps) : PyOf st (.tup ds) (.tuple ps)
  | lst {a : Addr} {ds : List D} {ps : List PyData} (e : st a = some (.lst ds)) (h : Paired (PyOf st) ds ps) : PyOf st (.ref a) (.list ps)
theorem dp_all {K : PySem.W.Frag} {H : Hp} : ∀ {vs : List V} {ps : List PyData}, Paired (Dp K H) vs ps → DpAll K H vs ps
  | _, _, .nil => .nil
  | _, _, .cons a b => .cons a (dp_all b)
mutual
theorem PyOf.dp {K : PySem.W.Frag} {H : Hp} {st : DS} (hs : RepS K H st) : ∀ {d : D} {p : PyData} {v : V}, PyOf st d p → Rep K H d v → Dp K H v p
  | _, _, _, .non, r => by rw [Rep_non.mp r]; exact .non
  | _, _, _, .bl b, r => by rw [Rep_bl.mp r]; exact .bl b
  | _, _, _, .int i, r => by rw [Rep_int.mp r]; exact .int i
  | _, _, _, .str x, r => by rw [Rep_str.mp r]; exact .str x
  | _, _, _, .tup h, r => by
    obtain ⟨a, vs, rfl, t, q⟩ := Rep_tup.mp r
    exact .tup t (PyOf.dps hs h q)
  | _, _, _, .lst e h, r => by
    rw [Rep_ref.mp r]
    obtain ⟨vs, e1, q⟩ := hs _ _ e
    exact .lst (SqL.of e1) (PyOf.dps hs h q)
theorem PyOf.dps {K : PySem.W.Frag} {H : Hp} {st : DS} (hs : RepS K H st) : ∀ {ds : List D} {ps : List PyData} {vs : List V}, Paired (PyOf st) ds ps → Reps K H ds vs → DpAll K H vs ps
  | _, _, _, .nil, r => by rw [Reps_nil.mp r]; exact .nil
  | _, _, _, .cons a b, r => by
    obtain ⟨v, t, rfl, h1, h2⟩ := Reps_cons.mp r
    exact .cons (PyOf.dp hs a h1) (PyOf.dps hs b h2)
end
/-- plain scalars -/
def D.flat : D → Bool
  | .non => true
  | .bl _ => true
  | .int _ => true
  | .str _ => true
  | _ => false
/-- == of scalars -/
def D.feq : D → D → Bool
  | .non, .non => true
  | .bl a, .bl b => a == b
  | .bl a, .int b => (if a then 1 else 0) == b
  | .int a, .bl b => a == (if b then 1 else 0)
  | .int a, .int b => a == b
  | .str a, .str b => a == b
  | _, _ => false
def D.toV : D → V
  | .non => .non
  | .bl b => .bl b
  | .int i => .int i
  | .str x => .str x
  | _ => .non
theorem D.flat_rep {K : PySem.W.Frag} {H : Hp} {d : D} {v : V} (f : d.flat = true) (r : Rep K H d v) : v = d.toV ∧ flatV v = true := by
  cases d with
  | non => rw [Rep_non.mp r]; exact ⟨rfl, rfl⟩
  | bl b => rw [Rep_bl.mp r]; exact ⟨rfl, rfl⟩
  | int b => rw [Rep_int.mp r]; exact ⟨rfl, rfl⟩
  | str b => rw [Rep_str.mp r]; exact ⟨rfl, rfl⟩
  | _ => cases f
theorem D.feq_V {d e : D} (f : d.flat = true) (g : e.flat = true) : eqV d.toV e.toV = D.feq d e := by
  cases d <;> cases e <;> first | exact absurd (show false = true from f) Bool.false_ne_true | exact absurd (show false = true from g) Bool.false_ne_true | rfl
theorem flats_rep {K : PySem.W.Frag} {H : Hp} {x : D} (g : x.flat = true) : ∀ {ds : List D} {vs : List V}, ds.all D.flat = true → Reps K H ds vs → vs.all flatV = true ∧ inV x.toV vs = ds.any fun d => D.feq d x
  | [], _, _, r => by rw [Reps_nil.mp r]; exact ⟨rfl, rfl⟩
  | d :: ds, _, f, r => by
    obtain ⟨v, t, rfl, h1, h2⟩ := Reps_cons.mp r
    rw [List.all_cons, Bool.and_eq_true] at f
    obtain ⟨e1, e2⟩ := D.flat_rep f.1 h1
    obtain ⟨i1, i2⟩ := flats_rep g f.2 h2
    refine ⟨by rw [List.all_cons, e2, i1]; rfl, ?_⟩
    unfold inV at i2 ⊢
    rw [List.any_cons, List.any_cons, i2, e1, D.feq_V f.1 g]
/-- x == y -/
def eqD : F2 := fun x y st R => match x, y with
  | .int i, .int j => R (.bl (decide (i = j))) st
  | .str i, .str j => R (.bl (decide (i = j))) st
  | .bl i, .bl j => R (.bl (decide (i = j))) st
  | .non, .non => R (.bl true) st
  | .non, .int _ => R (.bl false) st
  | .int _, .non => R (.bl false) st
  | .non, .str _ => R (.bl false) st
  | .str _, .non => R (.bl false) st
  | .int _, .str _ => R (.bl false) st
  | .str _, .int _ => R (.bl false) st
  | x, y => ∃ px py, PyOf st x px ∧ PyOf st y py ∧ SeqAt.shaped px = true ∧ SeqAt.shaped py = true ∧ R (.bl (PyData.eqv px py)) st
def neD : F2 := fun x y st R => match x, y with
  | .int i, .int j => R (.bl (!decide (i = j))) st
  | .str i, .str j => R (.bl (!decide (i = j))) st
  | .bl i, .bl j => R (.bl (!decide (i = j))) st
  | .non, .non => R (.bl false) st
  | .non, .int _ => R (.bl true) st
  | .int _, .non => R (.bl true) st
  | .non, .str _ => R (.bl true) st
  | .str _, .non => R (.bl true) st
  | .int _, .str _ => R (.bl true) st
  | .str _, .int _ => R (.bl true) st
  | x, y => ∃ px py, PyOf st x px ∧ PyOf st y py ∧ SeqAt.shaped px = true ∧ SeqAt.shaped py = true ∧ R (.bl (!PyData.eqv px py)) st
theorem sim_eq {K : PySem.W.Frag} : Sim2 K (fun x y H Q => rEq x y H Q ∨ rEqD K x y H Q) eqD := by
  intro H st x y dx dy R Q hs rx ry hf hq
  have fin : ∀ {b : Bool}, R (.bl b) st → Q (.bl b) H := fun h => hq _ _ _ _ .refl hs (Rep_bl.mpr rfl) h
  have deep : (∃ px py, PyOf st dx px ∧ PyOf st dy py ∧ SeqAt.shaped px = true ∧ SeqAt.shaped py = true ∧ R (.bl (PyData.eqv px py)) st) → rEqD K x y H Q := by
    rintro ⟨px, py, h1, h2, s1, s2, h⟩
    exact ⟨px, py, h1.dp hs rx, h2.dp hs ry, s1, s2, fin h⟩
  have scal : ∀ {a b : V} {c : Bool}, x = a → y = b → L2.scal a b = true → decide (a = b) = c → R (.bl c) st → rEq x y H Q := by
    rintro a b c rfl rfl h1 h2 h3
    refine ⟨h1, ?_⟩
    rw [h2]; exact fin h3
  cases dx <;> cases dy <;> first
    | exact .inr (deep hf)
    | exact .inl (scal (Rep_int.mp rx) (Rep_int.mp ry) rfl (by simp) hf)
    | exact .inl (scal (Rep_str.mp rx) (Rep_str.mp ry) rfl (by simp) hf)
    | exact .inl (scal (Rep_bl.mp rx) (Rep_bl.mp ry) rfl (by simp) hf)
    | exact .inl (scal (Rep_non.mp rx) (Rep_non.mp ry) rfl (by simp) hf)
    | exact .inl (scal (Rep_non.mp rx) (Rep_int.mp ry) rfl (by simp) hf)
    | exact .inl (scal (Rep_int.mp rx) (Rep_non.mp ry) rfl (by simp) hf)
    | exact .inl (scal (Rep_non.mp rx) (Rep_str.mp ry) rfl (by simp) hf)
    | exact .inl (scal (Rep_str.mp rx) (Rep_non.mp ry) rfl (by simp) hf)
    | exact .inl (scal (Rep_int.mp rx) (Rep_str.mp ry) rfl (by simp) hf)
    | exact .inl (scal (Rep_str.mp rx) (Rep_int.mp ry) rfl (by simp) hf)
theorem sim_ne {K : PySem.W.Frag} : Sim2 K (fun x y H Q => rNe x y H Q ∨ rNeD K x y H Q) neD := by
  intro H st x y dx dy R Q hs rx ry hf hq
  have fin : ∀ {b : Bool}, R (.bl b) st → Q (.bl b) H := fun h => hq _ _ _ _ .refl hs (Rep_bl.mpr rfl) h
  have deep : (∃ px py, PyOf st dx px ∧ PyOf st dy py ∧ SeqAt.shaped px = true ∧ SeqAt.shaped py = true ∧ R (.bl (!PyData.eqv px py)) st) → rNeD K x y H Q := by
    rintro ⟨px, py, h1, h2, s1, s2, h⟩
    exact ⟨px, py, h1.dp hs rx, h2.dp hs ry, s1, s2, fin h⟩
  have scal : ∀ {a b : V} {c : Bool}, x = a → y = b → L2.scal a b = true → (!decide (a = b)) = c → R (.bl c) st → rNe x y H Q := by
    rintro a b c rfl rfl h1 h2 h3
    refine ⟨h1, ?_⟩
    rw [h2]; exact fin h3
  cases dx <;> cases dy <;> first
    | exact .inr (deep hf)
    | exact .inl (scal (Rep_int.mp rx) (Rep_int.mp ry) rfl (by simp) hf)
    | exact .inl (scal (Rep_str.mp rx) (Rep_str.mp ry) rfl (by simp) hf)
    | exact .inl (scal (Rep_bl.mp rx) (Rep_bl.mp ry) rfl (by simp) hf)
    | exact .inl (scal (Rep_non.mp rx) (Rep_non.mp ry) rfl (by simp) hf)
    | exact .inl (scal (Rep_non.mp rx) (Rep_int.mp ry) rfl (by simp) hf)
    | exact .inl (scal (Rep_int.mp rx) (Rep_non.mp ry) rfl (by simp) hf)
    | exact .inl (scal (Rep_non.mp rx) (Rep_str.mp ry) rfl (by simp) hf)
    | exact .inl (scal (Rep_str.mp rx) (Rep_non.mp ry) rfl (by simp) hf)
    | exact .inl (scal (Rep_int.mp rx) (Rep_str.mp ry) rfl (by simp) hf)
    | exact .inl (scal (Rep_str.mp rx) (Rep_int.mp ry) rfl (by simp) hf)
def cmpD (p : Int → Int → Bool) : F2 := fun x y st R => match x, y with
  | .int i, .int j => R (.bl (p i j)) st
  | _, _ => False
theorem sim_cmp {K : PySem.W.Frag} {p : Int → Int → Bool} : Sim2 K (rI0 fun i j => .bl (p i j)) (cmpD p) := by
  intro H st x y dx dy R Q hs rx ry hf hq
  cases dx <;> cases dy <;> first | exact hf.elim | exact ⟨_, _, Rep_int.mp rx, Rep_int.mp ry, hq _ _ _ _ .refl hs (Rep_bl.mpr rfl) hf⟩
/-- x in y; neg: not in -/
def inD (neg : Bool) : F2 := fun x y st R => match y with
  | .ref a => getL st a fun ds => x.flat = true ∧ ds.all D.flat = true ∧ R (.bl (if neg = true then !(ds.any fun d => D.feq d x) else ds.any fun d => D.feq d x)) st
  | .tup ds => x.flat = true ∧ ds.all D.flat = true ∧ R (.bl (if neg = true then !(ds.any fun d => D.feq d x) else ds.any fun d => D.feq d x)) st
  | .str z => ∃ c : Nat, x = .str ⟨#[c]⟩ ∧ R (.bl (if neg = true then !decide (c ∈ z.cps.toList) else decide (c ∈ z.cps.toList))) st
  | _ => False
def rInSign (neg : Bool) : R2 := fun x y H Q => ∃ (c : Nat) (z : Str), x = .str ⟨#[c]⟩ ∧ y = .str z ∧ Q (.bl (if neg = true then !decide (c ∈ z.cps.toList) else decide (c ∈ z.cps.toList))) H
theorem sim_in {K : PySem.W.Frag} {neg : Bool} : Sim2 K (fun x y H Q => rIn K neg x y H Q ∨ rInSign neg x y H Q) (inD neg) := by
  intro H st x y dx dy R Q hs rx ry hf hq
  cases dy with
  | ref a =>
    obtain ⟨ds, e, f, g, h⟩ := getL_inv hf
    obtain ⟨vs, e1, q⟩ := hs a _ e
    obtain ⟨ex, fx⟩ := D.flat_rep f rx
    obtain ⟨g1, g2⟩ := flats_rep f g q
    refine .inl ⟨a, vs, Rep_ref.mp ry, .inl (SqL.of e1), fx, g1, ?_⟩
    rw [ex, g2]
    exact hq _ _ _ _ .refl hs (Rep_bl.mpr rfl) h
  | tup ds =>
    obtain ⟨f, g, h⟩ := hf
    obtain ⟨a, vs, rfl, t, q⟩ := Rep_tup.mp ry
    obtain ⟨ex, fx⟩ := D.flat_rep f rx
    obtain ⟨g1, g2⟩ := flats_rep f g q
    refine .inl ⟨a, vs, rfl, .inr t, fx, g1, ?_⟩
    rw [ex, g2]
    exact hq _ _ _ _ .refl hs (Rep_bl.mpr rfl) h
  | str z =>
    obtain ⟨c, rfl, h⟩ := hf
    exact .inr ⟨c, z, Rep_str.mp rx, Rep_str.mp ry, hq _ _ _ _ .refl hs (Rep_bl.mpr rfl) h⟩
  | _ => exact hf.elim
def D.isNon : D → Bool
  | .non => true
  | _ => false
section
variable {X : Cx} {W : WX} {a b : Expr} {wa wb : WE} {pos : Pos}
theorem op_inA : OpR X (compareOp .In) (fun x y H Q => rIn X.K false x y H Q ∨ rInSign false x y H Q) := OpR_or op_in_seq op_in_sign
theorem op_notInA : OpR X (compareOp .NotIn) (fun x y H Q => rIn X.K true x y H Q ∨ rInSign true x y H Q) := OpR_or op_notIn_seq op_notIn_sign
def wNone (neg : Bool) (wa : WE) : WE := fun ep st R Rx => wa ep st (fun d st' => R (.bl (if neg = true then !d.isNon else d.isNon)) st') Rx
theorem non_dec {K : PySem.W.Frag} {H : Hp} {d : D} {v : V} (r : Rep K H d v) : decide (v = V.non) = d.isNon := by
  cases d with
  | non => rw [Rep_non.mp r]; rfl
  | bl b => rw [Rep_bl.mp r]; rfl
  | int b => rw [Rep_int.mp r]; rfl
  | str b => rw [Rep_str.mp r]; rfl
  | ref b => rw [Rep_ref.mp r]; rfl
  | tup b => obtain ⟨a, vs, rfl, _⟩ := Rep_tup.mp r; rfl
  | scr b => obtain ⟨a, vs, rfl, _⟩ := Rep_scr.mp r; rfl
theorem j_isN {j p2} (ha : JE X W a wa) : JE X W (.Compare a [.Is] [.Constant .none j p2] pos) (wNone false wa) := by
  refine (pe_cmp (pc_isN ha)).weak ?_
  rintro sg H Q ⟨ep, st, R, Rx, he, hs, hw, hq, hx⟩
  refine ⟨ep, st, _, Rx, he, hs, hw, fun v H' d st' k s r h => ?_, hx⟩
  show Q (V.bl (decide (v = V.non))) H'
  rw [non_dec r]
  exact hq _ _ _ _ k s (Rep_bl.mpr rfl) h
theorem j_notN {j p2} (ha : JE X W a wa) : JE X W (.Compare a [.IsNot] [.Constant .none j p2] pos) (wNone true wa) := by
  refine (pe_cmp (pc_notN ha)).weak ?_
  rintro sg H Q ⟨ep, st, R, Rx, he, hs, hw, hq, hx⟩
  refine ⟨ep, st, _, Rx, he, hs, hw, fun v H' d st' k s r h => ?_, hx⟩
  show Q (V.bl (!decide (v = V.non))) H'
  rw [non_dec r]
  exact hq _ _ _ _ k s (Rep_bl.mpr rfl) h
abbrev ltD : F2 := cmpD fun i j => decide (i < j)
abbrev leD : F2 := cmpD fun i j => decide (i ≤ j)
abbrev gtD : F2 := cmpD fun i j => decide (j < i)
abbrev geD : F2 := cmpD fun i j => decide (j ≤ i)
end
/-! ### and, or, not, if -/
def wTru (f : D → DS → (Bool → DS → Prop) → Prop) (wa : WE) : WT := fun ep st R Rx => wa ep st (fun d st' => f d st' R) Rx
def wB (wa : WE) : WT := fun ep st R Rx => wa ep st (fun d st' => asB d fun b => R b st') Rx
def wAnd (a b : WT) : WT := fun ep st R Rx => a ep st (fun c st' => cnd c (fun _ => b ep st' R Rx) (fun _ => R false st')) Rx
def wOr (a b : WT) : WT := fun ep st R Rx => a ep st (fun c st' => cnd c (fun _ => R true st') (fun _ => b ep st' R Rx)) Rx
def wNot (a : WT) : WT := fun ep st R Rx => a ep st (fun c st' => R (!c) st') Rx
def wTV (a : WT) : WE := fun ep st R Rx => a ep st (fun c st' => R (.bl c) st') Rx
def wIfE (c : WT) (a b : WE) : WE := fun ep st R Rx => c ep st (fun t st' => cnd t (fun _ => a ep st' R Rx) (fun _ => b ep st' R Rx)) Rx
section
variable {X : Cx} {W : WX} {a b : Expr} {wa wb : WE} {ta tb : WT} {rest : List Expr} {pos : Pos}
theorem jt_val (h : JE X W a wa) (he : ∀ whole, isTrue a X.env whole = (do let v ← whole; standAt a.pos; holding [v] (truthy v)) := by intro _; rfl) : JT X W a (wB wa) := by
  refine (pt_val h he).weak ?_
  rintro sg H Q ⟨ep, st, R, Rx, he, hs, hw, hq, hx⟩
  refine ⟨ep, st, _, Rx, he, hs, hw, fun v H' d st' k s r h => ?_, hx⟩
  cases d with
  | bl b => exact ⟨b, Rep_bl.mp r, hq b H' st' k s h⟩
  | _ => exact h.elim
theorem jw_and1 (ha : JT X W a ta) : JW X W (.BoolOp .And [a] pos) ta := pw_and1 ha
theorem jw_or1 (ha : JT X W a ta) : JW X W (.BoolOp .Or [a] pos) ta := pw_or1 ha
theorem jw_and (ha : JT X W a ta) (hb : JW X W (.BoolOp .And (b :: rest) pos) tb) : JW X W (.BoolOp .And (a :: b :: rest) pos) (wAnd ta tb) := by
  refine (pw_and ha hb).weak ?_
  rintro sg H Q ⟨ep, st, R, Rx, he, hs, hw, hq, hx⟩
  refine ⟨ep, st, _, Rx, he, hs, hw, fun c H1 st1 k s h => ?_, hx⟩
  cases c with
  | true => exact ⟨ep, st1, R, Rx, he.keep k, s, h.1 rfl, fun b H2 st2 k2 => hq b H2 st2 (k.trans k2), hx.keep k⟩
  | false => exact hq false H1 st1 k s (h.2 rfl)
theorem jw_or (ha : JT X W a ta) (hb : JW X W (.BoolOp .Or (b :: rest) pos) tb) : JW X W (.BoolOp .Or (a :: b :: rest) pos) (wOr ta tb) := by
  refine (pw_or ha hb).weak ?_
  rintro sg H Q ⟨ep, st, R, Rx, he, hs, hw, hq, hx⟩
  refine ⟨ep, st, _, Rx, he, hs, hw, fun c H1 st1 k s h => ?_, hx⟩
  cases c with
  | false => exact ⟨ep, st1, R, Rx, he.keep k, s, h.2 rfl, fun b H2 st2 k2 => hq b H2 st2 (k.trans k2), hx.keep k⟩
  | true => exact hq true H1 st1 k s (h.1 rfl)
theorem jw_t {e : Expr} (h : JW X W e ta) : JT X W e ta := PW.pt h
theorem jt_not (ha : JT X W a ta) : JT X W (.UnaryOp .Not a pos) (wNot ta) := by
  refine (pt_not ha).weak ?_
  rintro sg H Q ⟨ep, st, R, Rx, he, hs, hw, hq, hx⟩
  exact ⟨ep, st, _, Rx, he, hs, hw, fun c H1 st1 k s h => hq (!c) H1 st1 k s h, hx⟩
/-- as values: all parts are True or False -/
theorem je_one {op} (h : JE X W a wa) : JE X W (.BoolOp op [a] pos) wa := pe_one h
theorem je_and (ha : JE X W a wa) (hb : JE X W (.BoolOp .And (b :: rest) pos) wb) : JE X W (.BoolOp .And (a :: b :: rest) pos)
    (fun ep st R Rx => wB wa ep st (fun c st' => cnd c (fun _ => wb ep st' R Rx) (fun _ => R (.bl false) st')) Rx) := by
  refine (pe_and ha hb).weak ?_
  rintro sg H Q ⟨ep, st, R, Rx, he, hs, hw, hq, hx⟩
  refine ⟨ep, st, _, Rx, he, hs, hw, fun v H1 d st1 k s r h => ?_, hx⟩
  cases d with
  | bl c =>
    refine ⟨c, Rep_bl.mp r, ?_⟩
    cases c with
    | true => exact ⟨ep, st1, R, Rx, he.keep k, s, h.1 rfl, hq.keep k, hx.keep k⟩
    | false => exact hq _ H1 _ st1 k s (Rep_bl.mpr rfl) (h.2 rfl)
  | _ => exact h.elim
theorem je_or (ha : JE X W a wa) (hb : JE X W (.BoolOp .Or (b :: rest) pos) wb) : JE X W (.BoolOp .Or (a :: b :: rest) pos)
    (fun ep st R Rx => wB wa ep st (fun c st' => cnd c (fun _ => R (.bl true) st') (fun _ => wb ep st' R Rx)) Rx) := by
  refine (pe_or ha hb).weak ?_
  rintro sg H Q ⟨ep, st, R, Rx, he, hs, hw, hq, hx⟩
  refine ⟨ep, st, _, Rx, he, hs, hw, fun v H1 d st1 k s r h => ?_, hx⟩
  cases d with
  | bl c =>
    refine ⟨c, Rep_bl.mp r, ?_⟩
    cases c with
    | false => exact ⟨ep, st1, R, Rx, he.keep k, s, h.2 rfl, hq.keep k, hx.keep k⟩
    | true => exact hq _ H1 _ st1 k s (Rep_bl.mpr rfl) (h.1 rfl)
  | _ => exact h.elim
theorem je_not (ha : JE X W a wa) : JE X W (.UnaryOp .Not a pos) (fun ep st R Rx => wB wa ep st (fun c st' => R (.bl (!c)) st') Rx) := by
  refine (pe_not ha).weak ?_
  rintro sg H Q ⟨ep, st, R, Rx, he, hs, hw, hq, hx⟩
  refine ⟨ep, st, _, Rx, he, hs, hw, fun v H1 d st1 k s r h => ?_, hx⟩
  cases d with
  | bl c => exact ⟨c, Rep_bl.mp r, hq _ H1 _ st1 k s (Rep_bl.mpr rfl) h⟩
  | _ => exact h.elim
theorem je_if {c : Expr} {tc : WT} (hc : JT X W c tc) (ha : JE X W a wa) (hb : JE X W b wb) : JE X W (.IfExp c a b pos) (wIfE tc wa wb) := by
  refine (pe_ifExp hc ha hb).weak ?_
  rintro sg H Q ⟨ep, st, R, Rx, he, hs, hw, hq, hx⟩
  refine ⟨ep, st, _, Rx, he, hs, hw, fun t H1 st1 k s h => ?_, hx⟩
  cases t with
  | true => exact ⟨ep, st1, R, Rx, he.keep k, s, h.1 rfl, hq.keep k, hx.keep k⟩
  | false => exact ⟨ep, st1, R, Rx, he.keep k, s, h.2 rfl, hq.keep k, hx.keep k⟩
theorem je_neg (ha : JE X W a wa) : JE X W (.UnaryOp .USub a pos) (fun ep st R Rx => wa ep st (fun d st' => asI d fun i => R (.int (-i)) st') Rx) := by
  refine (pe_un un_neg ha).weak ?_
  rintro sg H Q ⟨ep, st, R, Rx, he, hs, hw, hq, hx⟩
  refine ⟨ep, st, _, Rx, he, hs, hw, fun v H1 d st1 k s r h => ?_, hx⟩
  cases d with
  | int c => exact ⟨c, Rep_int.mp r, hq _ H1 _ st1 k s (Rep_int.mpr rfl) h⟩
  | _ => exact h.elim
end
end DL

namespace DL
open PySem PySem.Spec PyProof.Rows L2

/-! ### argument lists, displays -/
def wANil : WA := fun _ st R _ => R [] st
def wACons (w : WE) (ws : WA) : WA := fun ep st R Rx => w ep st (fun d st1 => ws ep st1 (fun ds st2 => R (d :: ds) st2) Rx) Rx
def wTup (wa : WA) : WE := fun ep st R Rx => wa ep st (fun ds st' => R (.tup ds) st') Rx
def wLst (wa : WA) : WE := fun ep st R Rx => wa ep st (fun ds st' => ∀ p, st' p = none → R (.ref p) (put st' p (.lst ds))) Rx
section
variable {X : Cx} {W : WX} {e : Expr} {es : List Expr} {w : WE} {ws : WA} {n : Nat} {pos : Pos}
theorem ja_nil : JA X W 0 [] wANil := by
  refine pa_nil.weak ?_
  rintro sg H Q ⟨ep, st, R, Rx, he, hs, hw, hq, hx⟩
  exact hq [] H [] st rfl .refl hs Reps.nil hw
theorem ja_cons (h : JE X W e w) (t : JA X W n es ws) (hst : starEach (e :: es) X.env = (false, eval e X.env) :: starEach es X.env := by rfl) : JA X W (n + 1) (e :: es) (wACons w ws) := by
  refine (pa_cons h t hst).weak ?_
  rintro sg H Q ⟨ep, st, R, Rx, he, hs, hw, hq, hx⟩
  refine ⟨ep, st, _, Rx, he, hs, hw, fun v H1 d st1 k s r h => ?_, hx⟩
  exact ⟨ep, st1, _, Rx, he.keep k, s, h, fun vs H2 ds st2 hl k2 s2 r2 h2 => hq (v :: vs) H2 (d :: ds) st2 (by rw [List.length_cons, hl]) (k.trans k2) s2 (.cons (r.keep k2) r2) h2, hx.keep k⟩
theorem je_tup {x1} (h : JA X W n es ws) (hn : n ≤ sizeLine := by decide) : JE X W (.Tuple es x1 pos) (wTup ws) := by
  refine (pe_tup h).weak ?_
  rintro sg H Q ⟨ep, st, R, Rx, he, hs, hw, hq, hx⟩
  refine ⟨ep, st, _, Rx, he, hs, hw, fun vs H1 ds st1 hl k s r h => ⟨by rw [← r.length, hl]; exact hn, fun p hp => ?_⟩, hx⟩
  have k2 : Keep X.K H1 st1 (upd H1 p (.tup vs)) st1 := Keep.untold hp _
  exact hq _ _ _ _ (k.trans k2) (s.untold hp _) (Rep_tup.mpr ⟨p, vs, rfl, .inl (.inl upd_same), r.keep k2⟩) h
theorem je_lst (h : JA X W n es ws) (hn : n ≤ sizeLine := by decide) : JE X W (.List es pos) (wLst ws) := by
  refine (pe_lst h).weak ?_
  rintro sg H Q ⟨ep, st, R, Rx, he, hs, hw, hq, hx⟩
  refine ⟨ep, st, _, Rx, he, hs, hw, fun vs H1 ds st1 hl k s r h => ⟨by rw [← r.length, hl]; exact hn, fun p hp => ?_⟩, hx⟩
  have k2 : Keep X.K H1 st1 (upd H1 p (.lst vs)) (put st1 p (.lst ds)) := Keep.told hp _ _
  exact hq _ _ _ _ (k.trans k2) (s.told hp ⟨vs, upd_same, r.keep k2⟩) (Rep_ref.mpr rfl) (h p (s.free hp))
end

/-! ### subscripts -/
def ixD : F2 := fun x y st R => match x, y with
  | .tup ds, .int i => optP (atI ds i) fun d => R d st
  | .scr ds, .int i => optP (atI ds i) fun d => R d st
  | .ref a, .int i => getL st a fun ds => optP (atI ds i) fun d => R d st
  | .str z, .int i => z.length ≤ sizeLine ∧ optP (atI z.cps.toList i) fun c => R (.str ⟨#[c]⟩) st
  | _, _ => False
theorem atI_rep {K : PySem.W.Frag} {H : Hp} {ds : List D} {vs : List V} {i : Int} {d : D} (r : Reps K H ds vs) (h : atI ds i = some d) : ∃ v, atI vs i = some v ∧ Rep K H d v := by
  unfold atI at h ⊢
  rw [← r.length]
  cases e : ixN ds.length i with
  | none => rw [e] at h; cases h
  | some j =>
    rw [e] at h
    obtain ⟨v, h1, h2⟩ := r.get (show ds[j]? = some d from h)
    exact ⟨v, h1, h2⟩
theorem sim_ix {K : PySem.W.Frag} : Sim2 K (rIx K) ixD := by
  intro H st x y dx dy R Q hs rx ry hf hq
  cases dy with
  | int i =>
    cases dx with
    | tup ds =>
      obtain ⟨d, h1, h2⟩ := optP_inv hf
      obtain ⟨a, vs, rfl, t, q⟩ := Rep_tup.mp rx
      obtain ⟨v, e1, r1⟩ := atI_rep q h1
      exact .inr (.inl ⟨a, vs, i, v, rfl, Rep_int.mp ry, t, e1, hq _ _ _ _ .refl hs r1 h2⟩)
    | scr ds =>
      obtain ⟨d, h1, h2⟩ := optP_inv hf
      obtain ⟨a, vs, rfl, t, q⟩ := Rep_scr.mp rx
      obtain ⟨v, e1, r1⟩ := atI_rep q h1
      exact .inl ⟨a, vs, i, v, rfl, Rep_int.mp ry, t.sq, e1, hq _ _ _ _ .refl hs r1 h2⟩
    | ref a =>
      obtain ⟨ds, h0, hf⟩ := getL_inv hf
      obtain ⟨d, h1, h2⟩ := optP_inv hf
      obtain ⟨vs, t, q⟩ := hs a _ h0
      obtain ⟨v, e1, r1⟩ := atI_rep q h1
      exact .inl ⟨a, vs, i, v, Rep_ref.mp rx, Rep_int.mp ry, SqL.of t, e1, hq _ _ _ _ .refl hs r1 h2⟩
    | str z =>
      obtain ⟨h0, hf⟩ := hf
      obtain ⟨c, h1, h2⟩ := optP_inv hf
      exact .inr (.inr ⟨z, i, c, Rep_str.mp rx, Rep_int.mp ry, h0, h1, hq _ _ _ _ .refl hs (Rep_str.mpr rfl) h2⟩)
    | _ => exact hf.elim
  | _ => cases dx <;> exact hf.elim
theorem j_ix {X : Cx} {W : WX} {a b : Expr} {wa wb : WE} {pos : Pos} (ha : JE X W a wa) (hb : JE X W b wb) (hs : PlainIx b := by intro _ _; rfl) : JE X W (.Subscript a b pos) (wBin ixD wa wb) :=
  (pe_ix ix_seq ha hb hs).weak (tw_bin sim_ix)
@[simp] theorem atI_0 {α : Type} (a : α) (l : List α) : atI (a :: l) 0 = some a := atI_nat (j := 0) rfl
@[simp] theorem atI_1 {α : Type} (a b : α) (l : List α) : atI (a :: b :: l) 1 = some b := atI_nat (j := 1) rfl
@[simp] theorem atI_2 {α : Type} (a b c : α) (l : List α) : atI (a :: b :: c :: l) 2 = some c := atI_nat (j := 2) rfl
@[simp] theorem atI_3 {α : Type} (a b c d : α) (l : List α) : atI (a :: b :: c :: d :: l) 3 = some d := atI_nat (j := 3) rfl
@[simp] theorem atI_4 {α : Type} (a b c d e : α) (l : List α) : atI (a :: b :: c :: d :: e :: l) 4 = some e := atI_nat (j := 4) rfl

/-! ### slices -/
abbrev WO := DE → DS → (Option Int → DS → Prop) → RX → Prop
def twO (K : PySem.W.Frag) (W : WX) (w : WO) : TO := fun sg H Q => ∃ ep st R Rx, RepE K H ep sg ∧ RepS K H st ∧ w ep st R Rx ∧ (∀ o H' st', Keep K H st H' st' → RepS K H' st' → R o st' → Q o H') ∧ OkX K W sg H st Rx
def wONone : WO := fun _ st R _ => R none st
def wOSome (w : WE) : WO := fun ep st R Rx => w ep st (fun d st' => asI d fun i => R (some i) st') Rx
def cutD (ds : List D) (lo hi : Option Int) : List D := (ds.drop (HT.sIx ds.length 0 lo)).take (HT.sIx ds.length ds.length hi - HT.sIx ds.length 0 lo)
def slD (x : D) (lo hi : Option Int) (st : DS) (R : RD) : Prop := match x with
  | .tup ds => R (.tup (cutD ds lo hi)) st
  | .ref a => getL st a fun ds => ∀ p, st p = none → R (.ref p) (put st p (.lst (cutD ds lo hi)))
  | .str z => z.length ≤ sizeLine ∧ R (.str (cutS z lo hi)) st
  | _ => False
def wSl (wa : WE) (wl wh : WO) : WE := fun ep st R Rx => wa ep st (fun x st1 => wl ep st1 (fun lo st2 => wh ep st2 (fun hi st3 => slD x lo hi st3 R) Rx) Rx) Rx
theorem cut_whole {ds : List D} {lo hi : Option Int} (h : HT.sIx ds.length 0 lo = 0 ∧ HT.sIx ds.length ds.length hi = ds.length) : cutD ds lo hi = ds := by
  unfold cutD
  rw [h.1, h.2, List.drop_zero, Nat.sub_zero, List.take_length]
theorem Reps.cut {K : PySem.W.Frag} {H : Hp} {ds : List D} {vs : List V} (r : Reps K H ds vs) (lo hi : Option Int) : Reps K H (cutD ds lo hi) (cutV vs lo hi) := by
  unfold cutD cutV
  rw [← r.length]
  exact (r.drop _).take _
section
variable {X : Cx} {W : WX} {a : Expr} {wa : WE} {wl wh : WO} {lo hi : Option Expr} {pos p2 : Pos}
theorem jo_none : PO X none (twO X.K W wONone) := by
  refine ⟨fun pins s sg H Q I h => po_none.run pins s sg H Q I ?_⟩
  obtain ⟨ep, st, R, Rx, he, hs, hw, hq, hx⟩ := h
  exact hq none H st .refl hs hw
theorem jo_some {e : Expr} {w : WE} (h : JE X W e w) : PO X (some e) (twO X.K W (wOSome w)) := by
  refine ⟨fun pins s sg H Q I hh => (po_some h).run pins s sg H Q I ?_⟩
  obtain ⟨ep, st, R, Rx, he, hs, hw, hq, hx⟩ := hh
  refine ⟨ep, st, _, Rx, he, hs, hw, fun v H' d st' k s r h => ?_, hx⟩
  cases d with
  | int i => exact ⟨i, Rep_int.mp r, hq _ H' st' k s h⟩
  | _ => exact h.elim
theorem j_sl (ha : JE X W a wa) (hl : PO X lo (twO X.K W wl)) (hh : PO X hi (twO X.K W wh)) : JE X W (.Subscript a (.Slice lo hi none p2) pos) (wSl wa wl wh) := by
  refine (pe_slice ((sl_list.or sl_tupA).or sl_str) ha hl hh).weak ?_
  rintro sg H Q ⟨ep, st, R, Rx, he, hs, hw, hq, hx⟩
  refine ⟨ep, st, _, Rx, he, hs, hw, fun x H1 d st1 k s r h => ?_, hx⟩
  refine ⟨ep, st1, _, Rx, he.keep k, s, h, fun l H2 st2 k2 s2 h2 => ?_, hx.keep k⟩
  refine ⟨ep, st2, _, Rx, (he.keep k).keep k2, s2, h2, fun u H3 st3 k3 s3 h3 => ?_, (hx.keep k).keep k2⟩
  have r3 := (r.keep k2).keep k3
  have kk := (k.trans k2).trans k3
  cases d with
  | tup ds =>
    obtain ⟨b, vs, rfl, t, q⟩ := Rep_tup.mp r3
    refine .inl (.inr ⟨b, vs, rfl, t, fun hw => ?_, fun _ p hp => ?_⟩)
    · refine hq _ _ _ _ kk s3 (Rep_tup.mpr ⟨b, vs, rfl, t, ?_⟩) h3
      rw [cut_whole (by rw [q.length]; exact hw)]; exact q
    · have k4 : Keep X.K H3 st3 (upd H3 p (.tup (cutV vs l u))) st3 := Keep.untold hp _
      exact hq _ _ _ _ (kk.trans k4) (s3.untold hp _) (Rep_tup.mpr ⟨p, _, rfl, .inl (.inl upd_same), (q.cut l u).keep k4⟩) h3
  | ref b =>
    obtain ⟨ds, e, h4⟩ := getL_inv h3
    obtain ⟨vs, e1, q⟩ := s3 b _ e
    refine .inl (.inl ⟨b, vs, Rep_ref.mp r3, SqL.of e1, fun p hp => ?_⟩)
    have k4 : Keep X.K H3 st3 (upd H3 p (.lst (cutV vs l u))) (put st3 p (.lst (cutD ds l u))) := Keep.told hp _ _
    exact hq _ _ _ _ (kk.trans k4) (s3.told hp ⟨_, upd_same, (q.cut l u).keep k4⟩) (Rep_ref.mpr rfl) (h4 p (s3.free hp))
  | str z => exact .inr ⟨z, Rep_str.mp r3, h3.1, hq _ _ _ _ kk s3 (Rep_str.mpr rfl) h3.2⟩
  | _ => exact h3.elim
end

/-! ### calls of built-in functions -/
abbrev FC := List D → DS → RD → Prop
def wCB (f : FC) (wa : WA) : WE := fun ep st R Rx => wa ep st (fun ds st' => f ds st' R) Rx
def SimC (K : PySem.W.Frag) (r : List V → Hp → VK → Prop) (f : FC) : Prop := ∀ H st vs ds R Q, RepS K H st → Reps K H ds vs → f ds st R → OkQ K H st R Q → r vs H Q
section
variable {X : Cx} {W : WX} {K : PySem.W.Frag} {x : Str} {p pos : Pos} {e : Expr} {es : List Expr} {wa : WA} {n : Nat} {id T : String} {r : List V → Hp → VK → Prop} {f : FC}
theorem tw_cb (hf : SimC K r f) : ∀ sg H Q, twE K W (wCB f wa) sg H Q → tCB r (twA K W n wa) sg H Q := by
  rintro sg H Q ⟨ep, st, R, Rx, he, hs, hw, hq, hx⟩
  exact ⟨ep, st, _, Rx, he, hs, hw, fun vs H1 ds st1 hl k s q h => hf H1 st1 vs ds R Q s q h (hq.keep k), hx⟩
theorem j_callB (hc : CallR X (.builtin id) r) (hf : SimC X.K r f) (hm : X.mg x = none) (hv : bootBuiltins x = some (.builtin id)) (ha : JA X W n (e :: es) wa) (hg : Gl X x := by rfl) (hn : x ≠ "__name__" := by decide) (hdb : (x == ("__debug__" : Str)) = false := by decide)
    (he : starEach (e :: es) X.env = (false, eval e X.env) :: starEach es X.env := by rfl) (hpl : (backTo pos (starEach es X.env)).any (·.1) = false := by rfl) : JE X W (.Call (.Name x p) (e :: es) [] pos) (wCB f wa) :=
  (pe_callB hc hg hm hv ha hn hdb he hpl).weak (tw_cb hf)
theorem j_callTy (hc : CallR X (.type T) r) (hf : SimC X.K r f) (hm : X.mg x = none) (hv : bootBuiltins x = some (.type T)) (ha : JA X W n (e :: es) wa) (hg : Gl X x := by rfl) (hn : x ≠ "__name__" := by decide) (hdb : (x == ("__debug__" : Str)) = false := by decide)
    (he : starEach (e :: es) X.env = (false, eval e X.env) :: starEach es X.env := by rfl) (hpl : (backTo pos (starEach es X.env)).any (·.1) = false := by rfl) : JE X W (.Call (.Name x p) (e :: es) [] pos) (wCB f wa) :=
  (pe_callTy hc hg hm hv ha hn hdb he hpl).weak (tw_cb hf)
theorem j_callF (hc : CallR X (.builtin id) r) (hf : SimC X.K r f) (hm : X.mg x = some (.builtin id)) (ha : JA X W n (e :: es) wa) (hg : Gl X x := by rfl) (hdb : (x == ("__debug__" : Str)) = false := by decide)
    (he : starEach (e :: es) X.env = (false, eval e X.env) :: starEach es X.env := by rfl) (hpl : (backTo pos (starEach es X.env)).any (·.1) = false := by rfl) : JE X W (.Call (.Name x p) (e :: es) [] pos) (wCB f wa) :=
  (pe_callBfun hc hg hm ha hdb he hpl).weak (tw_cb hf)
/-- len -/
def lenD : FC := fun ds st R => match ds with
  | [.str z] => z.length ≤ sizeLine ∧ R (.int z.length) st
  | [.tup es] => R (.int es.length) st
  | [.scr es] => R (.int es.length) st
  | [.ref a] => getL st a fun es => R (.int es.length) st
  | _ => False
theorem sim_len : SimC K (fun xs H Q => ∃ x n, xs = [x] ∧ LenV K x H n ∧ Q (.int n) H) lenD := by
  intro H st vs ds R Q hs rs hf hq
  match ds, hf with
  | [d], hf =>
    obtain ⟨v, t, rfl, r, r2⟩ := Reps_cons.mp rs
    rw [Reps_nil.mp r2]
    cases d with
    | str z => exact ⟨v, z.length, rfl, by rw [Rep_str.mp r]; exact ⟨hf.1, rfl⟩, hq _ _ _ _ .refl hs (Rep_int.mpr rfl) hf.2⟩
    | tup es =>
      obtain ⟨a, us, rfl, t, q⟩ := Rep_tup.mp r
      exact ⟨_, es.length, rfl, .inr ⟨us, t, q.length⟩, hq _ _ _ _ .refl hs (Rep_int.mpr rfl) hf⟩
    | scr es =>
      obtain ⟨a, us, rfl, t, q⟩ := Rep_scr.mp r
      exact ⟨_, es.length, rfl, .inl ⟨us, t.sq, q.length⟩, hq _ _ _ _ .refl hs (Rep_int.mpr rfl) hf⟩
    | ref a =>
      obtain ⟨es, e, h⟩ := getL_inv hf
      obtain ⟨us, e1, q⟩ := hs a _ e
      exact ⟨v, es.length, rfl, by rw [Rep_ref.mp r]; exact .inl ⟨us, SqL.of e1, q.length⟩, hq _ _ _ _ .refl hs (Rep_int.mpr rfl) h⟩
    | _ => exact hf.elim
  | a :: b :: c, hf => cases a <;> exact hf.elim
theorem j_len (hm : X.mg "len" = none) {p pos : Pos} {wa : WA} (ha : JA X W n [e] wa) (hg : Gl X "len" := by rfl) (he : starEach [e] X.env = (false, eval e X.env) :: starEach [] X.env := by rfl) : JE X W (.Call (.Name "len" p) [e] [] pos) (wCB lenD wa) :=
  j_callB call_len sim_len hm PySem.boot_len ha hg (by decide) (by decide) he rfl
/-- abs -/
def absD : FC := fun ds st R => match ds with
  | [.int i] => R (.int (if i < 0 then -i else i)) st
  | _ => False
theorem sim_abs : SimC K (fun xs H Q => ∃ i, xs = [.int i] ∧ Q (.int (if i < 0 then -i else i)) H) absD := by
  intro H st vs ds R Q hs rs hf hq
  match ds, hf with
  | [.int i], hf =>
    obtain ⟨v, t, rfl, r, r2⟩ := Reps_cons.mp rs
    rw [Reps_nil.mp r2, Rep_int.mp r]
    exact ⟨i, rfl, hq _ _ _ _ .refl hs (Rep_int.mpr rfl) hf⟩
theorem j_abs (hm : X.mg "abs" = none) {p pos : Pos} {wa : WA} (ha : JA X W n [e] wa) (hg : Gl X "abs" := by rfl) (he : starEach [e] X.env = (false, eval e X.env) :: starEach [] X.env := by rfl) : JE X W (.Call (.Name "abs" p) [e] [] pos) (wCB absD wa) :=
  j_callB call_abs sim_abs hm (by decide +kernel) ha hg (by decide) (by decide) he rfl
/-- int of a number or a truth value -/
def intD : FC := fun ds st R => match ds with
  | [.int i] => R (.int i) st
  | [.bl b] => R (.int (if b = true then 1 else 0)) st
  | _ => False
theorem sim_intc : SimC K (fun xs H Q => (∃ i, xs = [.int i] ∧ Q (.int i) H) ∨ ∃ k, xs = [.bl k] ∧ Q (.int (if k then 1 else 0)) H) intD := by
  intro H st vs ds R Q hs rs hf hq
  match ds, hf with
  | [.int i], hf =>
    obtain ⟨v, t, rfl, r, r2⟩ := Reps_cons.mp rs
    rw [Reps_nil.mp r2, Rep_int.mp r]
    exact .inl ⟨i, rfl, hq _ _ _ _ .refl hs (Rep_int.mpr rfl) hf⟩
  | [.bl b], hf =>
    obtain ⟨v, t, rfl, r, r2⟩ := Reps_cons.mp rs
    rw [Reps_nil.mp r2, Rep_bl.mp r]
    exact .inr ⟨b, rfl, hq _ _ _ _ .refl hs (Rep_int.mpr rfl) hf⟩
theorem j_int (hm : X.mg "int" = none) {p pos : Pos} {wa : WA} (ha : JA X W n [e] wa) (hg : Gl X "int" := by rfl) (he : starEach [e] X.env = (false, eval e X.env) :: starEach [] X.env := by rfl) : JE X W (.Call (.Name "int" p) [e] [] pos) (wCB intD wa) :=
  j_callTy call_int1 sim_intc hm (by decide +kernel) ha hg (by decide) (by decide) he rfl
/-- list(..), tuple(..) of a list or a tuple -/
def listD : FC := fun ds st R => match ds with
  | [.tup es] => ∀ p, st p = none → R (.ref p) (put st p (.lst es))
  | [.scr es] => ∀ p, st p = none → R (.ref p) (put st p (.lst es))
  | [.ref a] => getL st a fun es => ∀ p, st p = none → R (.ref p) (put st p (.lst es))
  | _ => False
theorem sim_list : SimC K (fun xs H Q => ∃ p ys, xs = [.ref p] ∧ (SqL K H p ys ∨ SqT K H p ys) ∧ ∀ l, H l = none → Q (.ref l) (upd H l (.lst ys))) listD := by
  intro H st vs ds R Q hs rs hf hq
  have fin : ∀ {es : List D} {us : List V}, Reps K H es us → (∀ p, st p = none → R (.ref p) (put st p (.lst es))) → ∀ l, H l = none → Q (.ref l) (upd H l (.lst us)) := fun {es us} q h l hl => by
    have k2 : Keep K H st (upd H l (.lst us)) (put st l (.lst es)) := Keep.told hl _ _
    exact hq _ _ _ _ k2 (hs.told hl ⟨us, upd_same, q.keep k2⟩) (Rep_ref.mpr rfl) (h l (hs.free hl))
  match ds, hf with
  | [.tup es], hf =>
    obtain ⟨v, t, rfl, r, r2⟩ := Reps_cons.mp rs
    obtain ⟨a, us, rfl, t, q⟩ := Rep_tup.mp r
    rw [Reps_nil.mp r2]
    exact ⟨a, us, rfl, .inr t, fin q hf⟩
  | [.scr es], hf =>
    obtain ⟨v, t, rfl, r, r2⟩ := Reps_cons.mp rs
    obtain ⟨a, us, rfl, t, q⟩ := Rep_scr.mp r
    rw [Reps_nil.mp r2]
    exact ⟨a, us, rfl, .inl t.sq, fin q hf⟩
  | [.ref a], hf =>
    obtain ⟨v, t, rfl, r, r2⟩ := Reps_cons.mp rs
    obtain ⟨es, e, h⟩ := getL_inv hf
    obtain ⟨us, e1, q⟩ := hs a _ e
    rw [Reps_nil.mp r2, Rep_ref.mp r]
    exact ⟨a, us, rfl, .inl (SqL.of e1), fin q h⟩
theorem j_list (hm : X.mg "list" = none) {p pos : Pos} {wa : WA} (ha : JA X W n [e] wa) (hg : Gl X "list" := by rfl) (he : starEach [e] X.env = (false, eval e X.env) :: starEach [] X.env := by rfl) : JE X W (.Call (.Name "list" p) [e] [] pos) (wCB listD wa) :=
  j_callTy call_list_of sim_list hm (by decide +kernel) ha hg (by decide) (by decide) he rfl
def tupleD : FC := fun ds st R => match ds with
  | [.tup es] => R (.tup es) st
  | [.scr es] => R (.tup es) st
  | [.ref a] => getL st a fun es => R (.tup es) st
  | _ => False
theorem sim_tuple : SimC K (fun xs H Q => ∃ p ys, xs = [.ref p] ∧ ((SqL K H p ys ∧ ∀ l, H l = none → Q (.ref l) (upd H l (.tup ys))) ∨ (SqT K H p ys ∧ Q (.ref p) H))) tupleD := by
  intro H st vs ds R Q hs rs hf hq
  have fin : ∀ {es : List D} {us : List V}, Reps K H es us → R (.tup es) st → ∀ l, H l = none → Q (.ref l) (upd H l (.tup us)) := fun {es us} q h l hl => by
    have k2 : Keep K H st (upd H l (.tup us)) st := Keep.untold hl _
    exact hq _ _ _ _ k2 (hs.untold hl _) (Rep_tup.mpr ⟨l, us, rfl, .inl (.inl upd_same), q.keep k2⟩) h
  match ds, hf with
  | [.tup es], hf =>
    obtain ⟨v, t, rfl, r, r2⟩ := Reps_cons.mp rs
    obtain ⟨a, us, rfl, t, q⟩ := Rep_tup.mp r
    rw [Reps_nil.mp r2]
    exact ⟨a, us, rfl, .inr ⟨t, hq _ _ _ _ .refl hs (Rep_tup.mpr ⟨a, us, rfl, t, q⟩) hf⟩⟩
  | [.scr es], hf =>
    obtain ⟨v, t, rfl, r, r2⟩ := Reps_cons.mp rs
    obtain ⟨a, us, rfl, t, q⟩ := Rep_scr.mp r
    rw [Reps_nil.mp r2]
    exact ⟨a, us, rfl, .inl ⟨t.sq, fin q hf⟩⟩
  | [.ref a], hf =>
    obtain ⟨v, t, rfl, r, r2⟩ := Reps_cons.mp rs
    obtain ⟨es, e, h⟩ := getL_inv hf
    obtain ⟨us, e1, q⟩ := hs a _ e
    rw [Reps_nil.mp r2, Rep_ref.mp r]
    exact ⟨a, us, rfl, .inl ⟨SqL.of e1, fin q h⟩⟩
theorem j_tuple (hm : X.mg "tuple" = none) {p pos : Pos} {wa : WA} (ha : JA X W n [e] wa) (hg : Gl X "tuple" := by rfl) (he : starEach [e] X.env = (false, eval e X.env) :: starEach [] X.env := by rfl) : JE X W (.Call (.Name "tuple" p) [e] [] pos) (wCB tupleD wa) :=
  j_callTy call_tuple_of sim_tuple hm (by decide +kernel) ha hg (by decide) (by decide) he rfl
/-- math.gcd -/
def gcdD : FC := fun ds st R => match ds with
  | [.int a, .int b] => R (.int ((Nat.gcd a.natAbs b.natAbs : Nat) : Int)) st
  | _ => False
theorem sim_gcd : SimC K rGcd gcdD := by
  intro H st vs ds R Q hs rs hf hq
  match ds, hf with
  | [.int i, .int j], hf =>
    obtain ⟨v, t, rfl, r, r2⟩ := Reps_cons.mp rs
    obtain ⟨v2, t2, rfl, r3, r4⟩ := Reps_cons.mp r2
    rw [Reps_nil.mp r4, Rep_int.mp r, Rep_int.mp r3]
    exact ⟨i, j, rfl, hq _ _ _ _ .refl hs (Rep_int.mpr rfl) hf⟩
theorem j_gcd (hm : X.mg "gcd" = some (.builtin "math.gcd")) {p pos : Pos} {e2 : Expr} {wa : WA} (ha : JA X W n [e, e2] wa) (hg : Gl X "gcd" := by rfl) (he : starEach [e, e2] X.env = (false, eval e X.env) :: starEach [e2] X.env := by rfl) (hpl : (backTo pos (starEach [e2] X.env)).any (·.1) = false := by rfl) : JE X W (.Call (.Name "gcd" p) [e, e2] [] pos) (wCB gcdD wa) :=
  j_callF cr_gcd sim_gcd hm ha hg (by decide) he hpl
/-- the bools of a list -/
def boolsOf : List D → Option (List Bool)
  | [] => some []
  | .bl b :: r => (boolsOf r).map (b :: ·)
  | _ :: _ => none
theorem bools_rep {H : Hp} : ∀ {ds : List D} {vs : List V} {bs : List Bool}, boolsOf ds = some bs → Reps K H ds vs → vs = bs.map V.bl
  | [], _, _, e, r => by
    rw [Reps_nil.mp r]
    unfold boolsOf at e; cases e; rfl
  | d :: ds, _, bs, e, r => by
    obtain ⟨v, t, rfl, h1, h2⟩ := Reps_cons.mp r
    cases d with
    | bl b =>
      unfold boolsOf at e
      cases q : boolsOf ds with
      | none => rw [q] at e; cases e
      | some cs =>
        rw [q] at e
        cases e
        rw [Rep_bl.mp h1, bools_rep q h2]; rfl
    | _ => cases e
@[simp] theorem boolsOf_map : ∀ bs : List Bool, boolsOf (bs.map D.bl) = some bs
  | [] => rfl
  | b :: bs => by unfold List.map boolsOf; rw [boolsOf_map bs]; rfl
/-- all, any of a list of truth values -/
def allD : FC := fun ds st R => match ds with
  | [.ref a] => getL st a fun es => optP (boolsOf es) fun bs => R (.bl (bs.all fun b => b)) st
  | _ => False
def anyD : FC := fun ds st R => match ds with
  | [.ref a] => getL st a fun es => optP (boolsOf es) fun bs => R (.bl (bs.any fun b => b)) st
  | _ => False
theorem sim_all : SimC K (rAll K) allD := by
  intro H st vs ds R Q hs rs hf hq
  match ds, hf with
  | [.ref a], hf =>
    obtain ⟨v, t, rfl, r, r2⟩ := Reps_cons.mp rs
    obtain ⟨es, e, hf⟩ := getL_inv hf
    obtain ⟨bs, eb, h⟩ := optP_inv hf
    obtain ⟨us, e1, q⟩ := hs a _ e
    rw [Reps_nil.mp r2, Rep_ref.mp r]
    exact ⟨a, bs, rfl, SqL.of (by rw [← bools_rep eb q]; exact e1), hq _ _ _ _ .refl hs (Rep_bl.mpr rfl) h⟩
theorem sim_any : SimC K (rAny K) anyD := by
  intro H st vs ds R Q hs rs hf hq
  match ds, hf with
  | [.ref a], hf =>
    obtain ⟨v, t, rfl, r, r2⟩ := Reps_cons.mp rs
    obtain ⟨es, e, hf⟩ := getL_inv hf
    obtain ⟨bs, eb, h⟩ := optP_inv hf
    obtain ⟨us, e1, q⟩ := hs a _ e
    rw [Reps_nil.mp r2, Rep_ref.mp r]
    exact ⟨a, bs, rfl, SqL.of (by rw [← bools_rep eb q]; exact e1), hq _ _ _ _ .refl hs (Rep_bl.mpr rfl) h⟩
theorem j_all (hm : X.mg "all" = none) {p pos : Pos} {wa : WA} (ha : JA X W n [e] wa) (hc : X.calm = true := by rfl) (hg : Gl X "all" := by rfl) (he : starEach [e] X.env = (false, eval e X.env) :: starEach [] X.env := by rfl) : JE X W (.Call (.Name "all" p) [e] [] pos) (wCB allD wa) :=
  j_callB (cr_all hc) sim_all hm (by decide +kernel) ha hg (by decide) (by decide) he rfl
theorem j_any (hm : X.mg "any" = none) {p pos : Pos} {wa : WA} (ha : JA X W n [e] wa) (hc : X.calm = true := by rfl) (hg : Gl X "any" := by rfl) (he : starEach [e] X.env = (false, eval e X.env) :: starEach [] X.env := by rfl) : JE X W (.Call (.Name "any" p) [e] [] pos) (wCB anyD wa) :=
  j_callB (cr_any hc) sim_any hm (by decide +kernel) ha hg (by decide) (by decide) he rfl
def intsOf : List D → Option (List Int)
  | [] => some []
  | .int b :: r => (intsOf r).map (b :: ·)
  | _ :: _ => none
@[simp] theorem intsOf_map : ∀ bs : List Int, intsOf (bs.map D.int) = some bs
  | [] => rfl
  | b :: bs => by unfold List.map intsOf; rw [intsOf_map bs]; rfl
theorem intsOf_inv : ∀ {ds : List D} {ns : List Int}, intsOf ds = some ns → ds = ns.map D.int
  | [], _, e => by unfold intsOf at e; cases e; rfl
  | d :: ds, ns, e => by
    cases d with
    | int b =>
      unfold intsOf at e
      cases q : intsOf ds with
      | none => rw [q] at e; cases e
      | some cs =>
        rw [q] at e
        cases e
        rw [intsOf_inv q]; rfl
    | _ => cases e
/-- sum of a list of ints -/
def sumD : FC := fun ds st R => match ds with
  | [.ref a] => getL st a fun es => optP (intsOf es) fun ns => R (.int ns.sum) st
  | _ => False
theorem sim_sum : SimC K (rSum K) sumD := by
  intro H st vs ds R Q hs rs hf hq
  match ds, hf with
  | [.ref a], hf =>
    obtain ⟨v, t, rfl, r, r2⟩ := Reps_cons.mp rs
    obtain ⟨es, e, hf⟩ := getL_inv hf
    obtain ⟨ns, en, h⟩ := optP_inv hf
    rw [intsOf_inv en] at e
    obtain ⟨us, e1, q⟩ := hs a _ e
    rw [Reps_nil.mp r2, Rep_ref.mp r]
    exact ⟨a, ns, rfl, SqL.of (by rw [← Reps.ints.mp q]; exact e1), hq _ _ _ _ .refl hs (Rep_int.mpr rfl) h⟩
theorem j_sum (hm : X.mg "sum" = none) {p pos : Pos} {wa : WA} (ha : JA X W n [e] wa) (hc : X.calm = true := by rfl) (hg : Gl X "sum" := by rfl) (he : starEach [e] X.env = (false, eval e X.env) :: starEach [] X.env := by rfl) : JE X W (.Call (.Name "sum" p) [e] [] pos) (wCB sumD wa) :=
  j_callB (cr_sum hc) sim_sum hm (by decide +kernel) ha hg (by decide) (by decide) he rfl
end
end DL

namespace DL
open PySem PySem.Spec PyProof.Rows L2

/-! ### a def's promise over data -/
abbrev SpD := List D → DS → RD → RX → Prop
def spOf (K : PySem.W.Frag) (S : SpD) : Sp := fun vs H Q E => ∃ ds st R Rx, Reps K H ds vs ∧ RepS K H st ∧ S ds st R Rx ∧ OkQ K H st R Q ∧
  (∀ x cls dd H' st', Keep K H st H' st' → RepS K H' st' → RepX K H' x cls dd → Rx x st' → E cls dd H')
abbrev FnD (P : Program) (w : World) (K : PySem.W.Frag) (mg : Str → Option Value) (base : Heap) (k : Nat) (f : Addr) (fd : FuncData) (ps : List Str) (S : SpD) : Prop := FnOk P w K mg base (L2.CX P w) k f fd ps (spOf K S)
def wCall (S : SpD) (wa : WA) : WE := fun ep st R Rx => wa ep st (fun ds st' => S ds st' R Rx) Rx
section
variable {X : Cx} {W : WX} {S : SpD} {k n : Nat} {f : Addr} {fd : FuncData} {ps : List Str} {x : Str} {p pos : Pos} {e : Expr} {es : List Expr} {wa : WA}
theorem j_call (F : FnD X.prog X.w X.K X.mg X.base k f fd ps S) (hr : Room k X.A) (hm : X.mg x = some (.ref f)) (hk : PySem.W.keepIn X.K (.ref f) = true) (hb : Binds X.K fd ps []) (tk : Takes X W) (ha : JA X W n (e :: es) wa)
    (hg : Gl X x := by rfl) (hdb : (x == ("__debug__" : Str)) = false := by decide) (he : starEach (e :: es) X.env = (false, eval e X.env) :: starEach es X.env := by rfl) (hpl : (backTo pos (starEach es X.env)).any (·.1) = false := by rfl) :
    JE X W (.Call (.Name x p) (e :: es) [] pos) (wCall S wa) := by
  refine (pe_callS F hr hg hm hk hb (fun sg => passAt tk sg) ha hdb he hpl).weak ?_
  rintro sg H Q ⟨ep, st, R, Rx, he, hs, hw, hq, hx⟩
  exact ⟨ep, st, _, Rx, he, hs, hw, fun vs H1 ds st1 hl k s q h => ⟨ds, st1, R, Rx, q, s, h, hq.keep k, hx.keep k⟩, hx⟩
theorem j_call0 (F : FnD X.prog X.w X.K X.mg X.base k f fd ps S) (hr : Room k X.A) (hm : X.mg x = some (.ref f)) (hk : PySem.W.keepIn X.K (.ref f) = true) (hb : Binds X.K fd ps []) (tk : Takes X W)
    (hg : Gl X x := by rfl) (hdb : (x == ("__debug__" : Str)) = false := by decide) : JE X W (.Call (.Name x p) [] [] pos) (wCall S wANil) := by
  refine ⟨fun pins s sg H Q I h => ?_⟩
  obtain ⟨ep, st, R, Rx, he, hs, hw, hq, hx⟩ := h
  refine wpAny_Call_Name_kw (ld_glob I hg hm ?_ hdb)
  exact PySem.W.callWith_K0 I.kIn hk (run_fnS (us := []) (vs := []) (E := L2.WE W) F hr hb (passAt tk sg) I .nil ⟨[], st, R, Rx, Reps.nil, hs, hw, hq, hx⟩)
end
/-- the slots at the entry -/
def startD (n : Nat) (ds : List D) : DE := ds.map some ++ List.replicate (n - ds.length) none
theorem startD_rep {K : PySem.W.Frag} {H : Hp} {N : List Str} {ds : List D} {vs : List V} (r : Reps K H ds vs) : RepE K H (startD N.length ds) (L2.start N vs) := by
  unfold startD L2.start
  refine ⟨by simp only [List.length_append, List.length_map, List.length_replicate, r.length], fun i d h => ?_⟩
  by_cases hi : i < ds.length
  · rw [List.getElem?_append_left (by simpa using hi), List.getElem?_map] at h
    cases e : ds[i]? with
    | none => rw [e] at h; cases h
    | some d' =>
      rw [e] at h
      have : d' = d := by simpa using h
      subst this
      obtain ⟨v, e1, r1⟩ := r.get e
      refine ⟨v, ?_, r1⟩
      rw [List.getElem?_append_left (by rw [List.length_map, ← r.length]; exact hi), List.getElem?_map, e1]; rfl
  · rw [List.getElem?_append_right (by simpa using hi), List.getElem?_replicate] at h
    split at h <;> cases h
/-- what a def's body is to reach -/
def bodyEd (R : RD) (Rx : RX) : Ed := { nx := fun _ st' => ∃ s2, Sub s2 st' ∧ R .non s2, rt := fun d st' => ∃ s2, Sub s2 st' ∧ R d s2, ex := fun x _ st' => ∃ s2, Sub s2 st' ∧ Rx x s2 }
section
variable {P : Program} {w : World} {K : PySem.W.Frag} {mg : Str → Option Value} {base : Heap}
/-- THE RULE for a def -/
theorem fn_D {x qual : Str} {st0 : Stmt} {f : Addr} {fd : FuncData} {N ps : List Str} {k : Nat} {S : SpD} {wb : WS} (F : Fun K x qual st0 f fd) (Sc : FnScope N ps (defScope st0)) (len : ∀ ds st R Rx, S ds st R Rx → ds.length = ps.length)
    (hbody : ∀ (cdv : Value) (A : Around) (outer : List PySem.Env) (s : Shared) (H : Hp) (E : XK), Room k (A.deeper (envOfC qual (defScope st0) s.heap.objs.size f cdv)) →
      Takes (cxOf (L2.CX P w) P w K mg base N qual (defScope st0) f cdv A outer s H E) (fun cls d _ H' => E cls d H') →
      PassesOwn (model P w) (A.deeper (envOfC qual (defScope st0) s.heap.objs.size f cdv)) (envOfC qual (defScope st0) s.heap.objs.size f cdv) (cxOf (L2.CX P w) P w K mg base N qual (defScope st0) f cdv A outer s H E).xe →
      JSs (cxOf (L2.CX P w) P w K mg base N qual (defScope st0) f cdv A outer s H E) (fun cls d _ H' => E cls d H') (defBody st0) wb)
    (read : ∀ ds st R Rx, S ds st R Rx → wb (bodyEd R Rx) (startD N.length ds) st) : FnD P w K mg base (k + 1) f fd ps S := by
  refine F.okX Sc (fun vs H Q E h => ?_) (fun cdv A outer s H vs Q E hr h => ?_)
  · obtain ⟨ds, st, R, Rx, r, _, h, _⟩ := h
    rw [← r.length]; exact len _ _ _ _ h
  · obtain ⟨ds, st, R, Rx, r, hs, h, hq, hx⟩ := h
    refine ⟨_, hbody cdv A outer s H E hr (takes_of rfl rfl rfl rfl) (passes_of (X := cxOf (L2.CX P w) P w K mg base N qual (defScope st0) f cdv A outer s H E) rfl), startD N.length ds, st, bodyEd R Rx, startD_rep r, hs, read ds st R Rx h, ?_⟩
    refine ⟨fun sg' H' ep' st' k s _ h => ?_, fun v H' d st' k s r h => ?_, fun _ _ _ _ _ _ _ h => h.elim, fun _ _ _ _ _ _ _ h => h.elim, fun x cls dd sg' H' ep' st' k s _ rx h => ?_⟩
    · obtain ⟨s2, hsub, h⟩ := h
      exact hq _ H' _ s2 (k.sub hsub) (s.sub hsub) (Rep_non.mpr rfl) h
    · obtain ⟨s2, hsub, h⟩ := h
      exact hq _ H' _ s2 (k.sub hsub) (s.sub hsub) r h
    · obtain ⟨s2, hsub, h⟩ := h
      exact hx x cls dd H' s2 (k.sub hsub) (s.sub hsub) rx h
end

/-! ### statements -/
def wNext : WS := fun E ep st => E.nx ep st
def wSeq (a b : WS) : WS := fun E ep st => a { E with nx := fun ep' st' => b E ep' st' } ep st
def wRet (we : WE) : WS := fun E ep st => we ep st (fun d st' => E.rt d st') (fun x st' => E.ex x ep st')
def wRetN : WS := fun E _ st => E.rt .non st
def wDrop (we : WE) : WS := fun E ep st => we ep st (fun _ st' => E.nx ep st') (fun x st' => E.ex x ep st')
def wSet (i : Nat) (we : WE) : WS := fun E ep st => we ep st (fun d st' => E.nx (ep.set i (some d)) st') (fun x st' => E.ex x ep st')
def wIf (c : WT) (a b : WS) : WS := fun E ep st => c ep st (fun t st' => cnd t (fun _ => a E ep st') (fun _ => b E ep st')) (fun x st' => E.ex x ep st')
def wBrk : WS := fun E ep st => E.bk ep st
def wCnt : WS := fun E ep st => E.ct ep st
def wNever : WS := fun _ _ _ => False
section
variable {X : Cx} {W : WX} {st : Stmt} {sts : List Stmt} {w u : WS} {e : Expr} {we : WE} {pos : Pos}
theorem jss_nil : JSs X W [] wNext := by
  refine pss_nil.weak ?_
  rintro Dn sg H ⟨ep, st, E, he, hs, hw, ok⟩
  exact ok.nx sg H ep st .refl hs he hw
theorem jss_cons (h1 : JS X W st w) (h2 : JSs X W sts u) : JSs X W (st :: sts) (wSeq w u) := by
  refine (pss_cons h1 h2).weak ?_
  rintro Dn sg H ⟨ep, st, E, he, hs, hw, ok⟩
  refine ⟨ep, st, _, he, hs, hw, ⟨fun sg' H' ep' st' k s e h => ?_, ok.rt, ok.bk, ok.ct, ok.ex⟩⟩
  exact ⟨ep', st', E, e, s, h, ok.keep k⟩
theorem jss_one (h : JS X W st w) : JSs X W [st] w := pss_one h
theorem js_pass : JS X W (.Pass pos) wNext := by
  refine ps_pass.weak ?_
  rintro Dn sg H ⟨ep, st, E, he, hs, hw, ok⟩
  exact ok.nx sg H ep st .refl hs he hw
theorem js_break : JS X W (.Break pos) wBrk := by
  refine ps_break.weak ?_
  rintro Dn sg H ⟨ep, st, E, he, hs, hw, ok⟩
  exact ok.bk sg H ep st .refl hs he hw
theorem js_continue : JS X W (.Continue pos) wCnt := by
  refine ps_continue.weak ?_
  rintro Dn sg H ⟨ep, st, E, he, hs, hw, ok⟩
  exact ok.ct sg H ep st .refl hs he hw
theorem js_never : JS X W st wNever := ps_never.weak fun _ _ _ ⟨_, _, _, _, _, h, _⟩ => h.elim
theorem jss_never : JSs X W sts wNever := pss_never.weak fun _ _ _ ⟨_, _, _, _, _, h, _⟩ => h.elim
theorem js_expr (h : JE X W e we) (hs : swapsWith e none pos.line X.env = pure false := by rfl) : JS X W (.Expr e pos) (wDrop we) := by
  refine (ps_expr h hs).weak ?_
  rintro Dn sg H ⟨ep, st, E, he, hs, hw, ok⟩
  exact ⟨ep, st, _, _, he, hs, hw, fun v H' d st' k s r h => ok.nx sg H' ep st' k s (he.keep k) h, ok.okX he⟩
theorem js_ret (h : JE X W e we) : JS X W (.Return (some e) pos) (wRet we) := by
  refine (ps_ret h).weak ?_
  rintro Dn sg H ⟨ep, st, E, he, hs, hw, ok⟩
  exact ⟨ep, st, _, _, he, hs, hw, fun v H' d st' k s r h => ok.rt v H' d st' k s r h, ok.okX he⟩
theorem js_retN : JS X W (.Return none pos) wRetN := by
  refine ps_retN.weak ?_
  rintro Dn sg H ⟨ep, st, E, he, hs, hw, ok⟩
  exact ok.rt _ H _ st .refl hs (Rep_non.mpr rfl) hw
theorem js_set {i : Nat} {x : Str} {pos' : Pos} (hN : X.N.Nodup) (h : JE X W e we) (hi : X.N[i]? = some x := by rfl) (hx : Loc X.env.scope x := by first | exact Or.inl rfl | exact Or.inr rfl) (hs : swapsWith e (some (.Name x pos')) pos.line X.env = pure false := by rfl)
    (hf : X.fn x = true ∨ X.env.scope.names.lookup x = some .local := by first | exact .inl rfl | exact .inr rfl) : JS X W (.Assign [.Name x pos'] e pos) (wSet i we) := by
  refine (ps_set hN hi hx h hs hf).weak ?_
  rintro Dn sg H ⟨ep, st, E, he, hs, hw, ok⟩
  exact ⟨ep, st, _, _, he, hs, hw, fun v H' d st' k s r h => ok.nx _ H' _ st' k s ((he.keep k).set r i) h, ok.okX he⟩
theorem js_if {c : Expr} {a b : List Stmt} {wc : WT} (hc : JT X W c wc) (ha : JSs X W a w) (hb : JSs X W b u) : JS X W (.If c a b pos) (wIf wc w u) := by
  refine (ps_if hc ha hb).weak ?_
  rintro Dn sg H ⟨ep, st, E, he, hs, hw, ok⟩
  refine ⟨ep, st, _, _, he, hs, hw, fun t H' st' k s h => ?_, ok.okX he⟩
  cases t with
  | true => exact ⟨ep, st', E, he.keep k, s, h.1 rfl, ok.keep k⟩
  | false => exact ⟨ep, st', E, he.keep k, s, h.2 rfl, ok.keep k⟩
end

/-! ### targets -/
abbrev DG := D → DE → DS → (DE → DS → Prop) → Prop
def twG (K : PySem.W.Frag) (g : DG) : TG := fun v sg H Q => ∃ d ep st k, Rep K H d v ∧ RepE K H ep sg ∧ RepS K H st ∧ g d ep st k ∧ (∀ sg' H' ep' st', Keep K H st H' st' → RepS K H' st' → RepE K H' ep' sg' → k ep' st' → Q sg' H')
abbrev DGs := List D → DE → DS → (DE → DS → Prop) → Prop
def twGs (K : PySem.W.Frag) (g : DGs) : TGs := fun vs sg H Q => ∃ ds ep st k, Reps K H ds vs ∧ RepE K H ep sg ∧ RepS K H st ∧ g ds ep st k ∧ (∀ sg' H' ep' st', Keep K H st H' st' → RepS K H' st' → RepE K H' ep' sg' → k ep' st' → Q sg' H')
abbrev JG (X : Cx) (e : Expr) (g : DG) : Prop := PG X e (twG X.K g)
abbrev JGs (X : Cx) (e : List Expr) (g : DGs) : Prop := PGs X e (twGs X.K g)
def gN (i : Nat) : DG := fun d ep st k => k (ep.set i (some d)) st
def gsNil : DGs := fun ds ep st k => match ds with
  | [] => k ep st
  | _ :: _ => False
def gsCons (g : DG) (u : DGs) : DGs := fun ds ep st k => match ds with
  | [] => False
  | d :: r => g d ep st (fun ep' st' => u r ep' st' k)
/-- a tuple or a list taken apart -/
def gT (n : Nat) (u : DGs) : DG := fun d ep st k => match d with
  | .tup ds => ds.length = n ∧ u ds ep st k
  | _ => False
def gIx (f : D → D → D → DS → (DS → Prop) → Prop) (wo wi : WE) : DG := fun d ep st k => wo ep st (fun o st1 => wi ep st1 (fun i st2 => f o i d st2 (fun st3 => k ep st3)) (fun _ _ => False)) (fun _ _ => False)
theorem _root_.L2.PG.weak {X : Cx} {e : Expr} {t t' : TG} (h : PG X e t) (f : ∀ v sg H Q, t' v sg H Q → t v sg H Q) : PG X e t' := ⟨fun pins s sg H v u Q I r hw => h.run pins s sg H v u Q I r (f v sg H Q hw)⟩
theorem _root_.L2.PGs.weak {X : Cx} {e : List Expr} {t t' : TGs} (h : PGs X e t) (f : ∀ v sg H Q, t' v sg H Q → t v sg H Q) : PGs X e t' := ⟨fun pins s sg H v u Q I r hw => h.run pins s sg H v u Q I r (f v sg H Q hw)⟩
section
variable {X : Cx} {W : WX} {e : Expr} {es : List Expr} {g : DG} {u : DGs} {pos : Pos}
theorem jg_name {i : Nat} {x : Str} (hN : X.N.Nodup) (hi : X.N[i]? = some x := by rfl) (hx : Loc X.env.scope x := by first | exact Or.inl rfl | exact Or.inr rfl) (hf : X.fn x = true ∨ X.env.scope.names.lookup x = some .local := by first | exact .inl rfl | exact .inr rfl) : JG X (.Name x pos) (gN i) := by
  refine (pg_name hN hi hx hf).weak ?_
  rintro v sg H Q ⟨d, ep, st, k, r, he, hs, hw, hq⟩
  exact hq _ H _ st .refl hs (he.set r i) hw
theorem jgs_nil : JGs X [] gsNil := by
  refine pgs_nil.weak ?_
  rintro vs sg H Q ⟨ds, ep, st, k, r, he, hs, hw, hq⟩
  cases ds with
  | nil => exact ⟨Reps_nil.mp r, hq _ H _ st .refl hs he hw⟩
  | cons d ds => exact hw.elim
theorem jgs_cons (h1 : JG X e g) (h2 : JGs X es u) (hs : (assignEach (e :: es) X.env).map (·.2) = assign e X.env :: (assignEach es X.env).map (·.2) := by rfl) : JGs X (e :: es) (gsCons g u) := by
  refine (pgs_cons h1 h2 hs).weak ?_
  rintro vs sg H Q ⟨ds, ep, st, k, r, he, hs, hw, hq⟩
  cases ds with
  | nil => exact hw.elim
  | cons d ds =>
    obtain ⟨v, t, rfl, r1, r2⟩ := Reps_cons.mp r
    refine ⟨v, t, rfl, d, ep, st, _, r1, he, hs, hw, fun sg' H' ep' st' k1 s1 e1 h => ?_⟩
    exact ⟨ds, ep', st', k, r2.keep k1, e1, s1, h, fun sg2 H2 ep2 st2 k2 => hq sg2 H2 ep2 st2 (k1.trans k2)⟩
theorem jg_tup {k n : Nat} (h : JGs X es u) (hc : X.calm = true := by rfl) (hn : (assignEach es X.env).length = n := by rfl) (hst : (assignEach es X.env).findIdx? (·.1) = none := by rfl) : JG X (.Tuple es k pos) (gT n u) := by
  refine (pg_tup hc h hn hst).weak ?_
  rintro v sg H Q ⟨d, ep, st, k, r, he, hs, hw, hq⟩
  cases d with
  | tup ds =>
    obtain ⟨a, vs, rfl, t, q⟩ := Rep_tup.mp r
    exact ⟨a, vs, rfl, t, by rw [← q.length]; exact hw.1, ds, ep, st, k, q, he, hs, hw.2, hq⟩
  | _ => exact hw.elim
/-- o[i] = .. of a list -/
def setD (o i d : D) (st : DS) (k : DS → Prop) : Prop := match o, i with
  | .ref a, .int z => getL st a fun ds => optP (ixN ds.length z) fun j => k (put st a (.lst (ds.set j d)))
  | _, _ => False
theorem takes_no {X : Cx} : Takes X (fun _ _ _ _ => False) := takes_none5
theorem setD_ok {K : PySem.W.Frag} {H : Hp} {st : DS} {o i v : V} {dO dI d : D} {k : DS → Prop} {Q : Hp → Prop} (hs : RepS K H st) (ro : Rep K H dO o) (ri : Rep K H dI i) (r : Rep K H d v) (h : setD dO dI d st k)
    (hq : ∀ H' st', Keep K H st H' st' → RepS K H' st' → k st' → Q H') : rSetL o i v H Q := by
  cases dO with
  | ref a =>
    cases dI with
    | int z =>
      obtain ⟨ds, e, h⟩ := getL_inv h
      obtain ⟨j, hj, hk⟩ := optP_inv h
      obtain ⟨vs, e1, q⟩ := hs a _ e
      refine ⟨a, vs, z, j, Rep_ref.mp ro, Rep_int.mp ri, e1, by rw [← q.length]; exact hj, ?_⟩
      have k2 := hs.keepW e (HO.lst (vs.set j v)) (OB.lst (ds.set j d))
      exact hq _ _ k2 (hs.write e ⟨_, upd_same, (q.keep k2).set (r.keep k2) j⟩) hk
    | _ => exact h.elim
  | _ => exact h.elim
theorem jg_ix {o i : Expr} {wo wi : WE} (ho : JE X (fun _ _ _ _ => False) o wo) (hi : JE X (fun _ _ _ _ => False) i wi)
    (ha : ∀ v, assign (.Subscript o i pos) X.env v = (do
      let ov ← holding [v] (eval o X.env)
      let iv ← holding [v, ov] (eval i X.env)
      standAt pos
      holding [v, ov, iv] (setItem ov iv v)
      release [v, ov, iv] []) := by intro _; rfl) : JG X (.Subscript o i pos) (gIx setD wo wi) := by
  refine (pg_sub ho hi set_list ha).weak ?_
  rintro v sg H Q ⟨d, ep, st, k, r, he, hs, hw, hq⟩
  refine ⟨ep, st, _, _, he, hs, hw, fun x H1 d1 st1 k1 s1 r1 h1 => ?_, fun _ _ _ _ _ _ _ _ z => z.elim⟩
  refine ⟨ep, st1, _, _, he.keep k1, s1, h1, fun y H2 d2 st2 k2 s2 r2 h2 => ?_, fun _ _ _ _ _ _ _ _ z => z.elim⟩
  exact setD_ok s2 (r1.keep k2) r2 ((r.keep k1).keep k2) h2 fun H3 st3 k3 s3 h3 => hq sg H3 ep st3 ((k1.trans k2).trans k3) s3 (((he.keep k1).keep k2).keep k3) h3
/-- target = value -/
def wAsg (we : WE) (g : DG) : WS := fun E ep st => we ep st (fun d st' => g d ep st' E.nx) (fun x st' => E.ex x ep st')
theorem js_asg {tg : Expr} {we : WE} (h : JE X W e we) (hg : JG X tg g) (hs : swapsWithSole [tg] e pos.line X.env = pure false := by rfl) (hw : swappedStores [tg] e X.env = pure none := by rfl)
    (h1 : (assignEach [tg] X.env).map (·.2) = [assign tg X.env] := by rfl) : JS X W (.Assign [tg] e pos) (wAsg we g) := by
  refine (ps_asg h hg hs hw h1).weak ?_
  rintro Dn sg H ⟨ep, st, E, he, hs, hw, ok⟩
  refine ⟨ep, st, _, _, he, hs, hw, fun v H' d st' k s r h => ?_, ok.okX he⟩
  exact ⟨d, ep, st', E.nx, r, he.keep k, s, h, fun sg2 H2 ep2 st2 k2 s2 e2 h2 => ok.nx sg2 H2 ep2 st2 (k.trans k2) s2 e2 h2⟩
/-- a, b = x, y of plain local names -/
def wPar (i j : Nat) (wa wb : WE) : WS := fun E ep st => wa ep st (fun x st1 => wb ep st1 (fun y st2 => E.nx ((ep.set i (some x)).set j (some y)) st2) (fun x st' => E.ex x ep st')) (fun x st' => E.ex x ep st')
theorem js_par {i j : Nat} {x y : Str} {a b : Expr} {wa wb : WE} {px py pt : Pos} {kt k2 pt2} (hN : X.N.Nodup) (ha : JE X W a wa) (hb : JE X W b wb) (hc : X.calm = true := by rfl) (hi : X.N[i]? = some x := by rfl) (hj : X.N[j]? = some y := by rfl) (hij : i ≠ j := by decide)
    (hx : X.env.scope.names.lookup x = some .local := by rfl) (hy : X.env.scope.names.lookup y = some .local := by rfl) (hs1 : starEach [a, b] X.env = (false, eval a X.env) :: starEach [b] X.env := by rfl) (hs2 : starEach [b] X.env = (false, eval b X.env) :: starEach [] X.env := by rfl)
    (hw : swappedStores [.Tuple [.Name x px, .Name y py] kt pt] (.Tuple [a, b] k2 pt2) X.env = pure (some [x, y]) := by rfl)
    (hs : swapsWithSole [.Tuple [.Name x px, .Name y py] kt pt] (.Tuple [a, b] k2 pt2) pos.line X.env = pure false := by rfl) :
    JS X W (.Assign [.Tuple [.Name x px, .Name y py] kt pt] (.Tuple [a, b] k2 pt2) pos) (wPar i j wa wb) := by
  refine (ps_par hc hN hi hj hij hx hy (pa_cons ha (pa_cons hb pa_nil hs2) hs1) hw hs).weak ?_
  rintro Dn sg H ⟨ep, st, E, he, hs, hw, ok⟩
  refine ⟨ep, st, _, _, he, hs, hw, fun v H1 d st1 k s r h => ?_, ok.okX he⟩
  refine ⟨ep, st1, _, _, he.keep k, s, h, fun v2 H2 d2 st2 k2 s2 r2 h2 => ?_, (ok.okX he).keep k⟩
  exact ⟨v, v2, rfl, ok.nx _ H2 _ st2 (k.trans k2) s2 ((((he.keep k).keep k2).set (r.keep k2) i).set r2 j) h2⟩
end

/-! ### in-place -/
def wAug (i : Nat) (f : F2) (we : WE) : WS := fun E ep st => match lk ep i with
  | some x => we ep st (fun y st1 => f x y st1 (fun z st2 => E.nx (ep.set i (some z)) st2)) (fun x st' => E.ex x ep st')
  | none => False
theorem js_aug {X : Cx} {W : WX} {i : Nat} {x : Str} {e : Expr} {we : WE} {op : Operator} {r : R2} {f : F2} {pos pos' : Pos} (hN : X.N.Nodup) (ho : OpR X (inplaceOp op) r) (hf : Sim2 X.K r f) (h : JE X W e we) (hi : X.N[i]? = some x := by rfl) (hx : Loc X.env.scope x := by first | exact Or.inl rfl | exact Or.inr rfl)
    (hfn : X.fn x = true ∨ X.env.scope.names.lookup x = some .local := by first | exact .inl rfl | exact .inr rfl) : JS X W (.AugAssign (.Name x pos') op e pos) (wAug i f we) := by
  refine (ps_aug hN hi hx h ho hfn).weak ?_
  rintro Dn sg H ⟨ep, st, E, he, hs, hw, ok⟩
  unfold wAug at hw
  cases q : lk ep i with
  | none => rw [q] at hw; exact hw.elim
  | some d =>
    rw [q] at hw
    obtain ⟨v, e1, r1⟩ := he.2 i d (lk_some q)
    refine ⟨v, e1, ep, st, _, _, he, hs, hw, fun y H1 dy st1 k1 s1 r2 h1 => ?_, ok.okX he⟩
    exact hf H1 st1 v y d dy _ _ s1 (r1.keep k1) r2 h1 fun z H2 dz st2 k2 s2 r3 h2 => ok.nx _ H2 _ st2 (k1.trans k2) s2 (((he.keep k1).keep k2).set r3 i) h2
theorem get_list {X : Cx} : PGet X (fun x y H Q => ∃ p xs i v, x = .ref p ∧ y = .int i ∧ SqL X.K H p xs ∧ 0 ≤ i ∧ atI xs i = some v ∧ Q v H) := by
  intro pins s sg H x y v u Q I rx ry h
  obtain ⟨p, xs, i, z, rfl, rfl, hq, h0, he, q⟩ := h
  cases rx
  obtain ⟨t, rfl⟩ := ry
  obtain ⟨its, r, pl, hz⟩ := I.list hq
  obtain ⟨j, h1, h2, h3, h4, h5⟩ := atI_get he
  obtain ⟨w, ew, rw'⟩ := r.get h2
  have hl := r.length
  have hn := line63
  have hj : i.toNat = j := by
    rw [seqIndex_of h0 h5] at h1
    exact Option.some.inj h1
  exact wpAny_getItem_list pl.isList h0 (by omega) (by rw [hj]; simpa using ew) ⟨z, H, I, rw', q⟩
/-- o[i] op= e of a list -/
def asRI (o i : D) (k : Addr → Int → Prop) : Prop := match o, i with
  | .ref a, .int z => k a z
  | _, _ => False
def wAugIx (f : F2) (wo wi we : WE) : WS := fun E ep st => wo ep st (fun o st1 => wi ep st1 (fun i st2 => asRI o i fun a z => 0 ≤ z ∧ getL st2 a fun ds => optP (atI ds z) fun x => we ep st2 (fun y st3 => f x y st3 (fun v st4 => setD (.ref a) (.int z) v st4 (fun st5 => E.nx ep st5))) (fun x st' => E.ex x ep st')) (fun x st' => E.ex x ep st')) (fun x st' => E.ex x ep st')
theorem js_augix {X : Cx} {W : WX} {o i e : Expr} {wo wi we : WE} {op : Operator} {r : R2} {f : F2} {pos tpos : Pos} (ho : JE X W o wo) (hi : JE X W i wi) (hop : OpR X (inplaceOp op) r) (hf : Sim2 X.K r f) (h : JE X W e we)
    (ha : ∀ ov iv new, augStore i ov iv new = (do holding [new, ov, iv] (setItem ov iv new); release [new, ov, iv] []; pure .next) := by intros; rfl) : JS X W (.AugAssign (.Subscript o i tpos) op e pos) (wAugIx f wo wi we) := by
  refine (ps_augS ho hi get_list h hop set_list ha).weak ?_
  rintro Dn sg H ⟨ep, st, E, he, hs, hw, ok⟩
  refine ⟨ep, st, _, _, he, hs, hw, fun x H1 d1 st1 k1 s1 r1 h1 => ?_, ok.okX he⟩
  refine ⟨ep, st1, _, _, he.keep k1, s1, h1, fun y H2 d2 st2 k2 s2 r2 h2 => ?_, (ok.okX he).keep k1⟩
  cases d1 with
  | ref a =>
    cases d2 with
    | int z =>
      obtain ⟨h0, h2⟩ := h2
      obtain ⟨ds, e1, h2⟩ := getL_inv h2
      obtain ⟨dx, hz, h3⟩ := optP_inv h2
      obtain ⟨vs, ev, q⟩ := s2 a _ e1
      obtain ⟨vx, hvx, rx⟩ := atI_rep q hz
      refine ⟨a, vs, z, vx, Rep_ref.mp (r1.keep k2), Rep_int.mp r2, SqL.of ev, h0, hvx, ?_⟩
      have k12 := k1.trans k2
      refine ⟨ep, st2, _, _, he.keep k12, s2, h3, fun vy H3 dy st3 k3 s3 r3 h4 => ?_, (ok.okX he).keep k12⟩
      refine hf H3 st3 vx vy dx dy _ _ s3 (rx.keep k3) r3 h4 fun vz H4 dz st4 k4 s4 r4 h5 => ?_
      refine setD_ok s4 ((r1.keep k2).keep (k3.trans k4)) (r2.keep (k3.trans k4)) r4 h5 fun H5 st5 k5 s5 h6 => ?_
      have kk := ((k12.trans k3).trans k4).trans k5
      exact ok.nx sg H5 ep st5 kk s5 (he.keep kk) h6
    | _ => exact h2.elim
  | _ => exact h2.elim
def iaddD : F2 := fun x y st R => match x, y with
  | .int i, .int j => R (.int (i + j)) st
  | .str a, .str b => a.length + b.length ≤ sizeLine ∧ R (.str (a ++ b)) st
  | _, _ => False
theorem iop_addA {X : Cx} : OpR X (inplaceOp .Add) (fun x y H Q => rI0 (fun i j => .int (i + j)) x y H Q ∨ rStrAdd x y H Q) := OpR_or iop_add iop_add_str
theorem sim_iadd {K : PySem.W.Frag} : Sim2 K (fun x y H Q => rI0 (fun i j => .int (i + j)) x y H Q ∨ rStrAdd x y H Q) iaddD := by
  intro H st x y dx dy R Q hs rx ry hf hq
  cases dx with
  | int i =>
    cases dy with
    | int j => exact .inl ⟨i, j, Rep_int.mp rx, Rep_int.mp ry, hq _ _ _ _ .refl hs (Rep_int.mpr rfl) hf⟩
    | _ => exact hf.elim
  | str i =>
    cases dy with
    | str j => exact .inr ⟨i, j, Rep_str.mp rx, Rep_str.mp ry, hf.1, hq _ _ _ _ .refl hs (Rep_str.mpr rfl) hf.2⟩
    | _ => exact hf.elim
  | _ => exact hf.elim
theorem sim_isub {K : PySem.W.Frag} : Sim2 K (rI0 fun i j => .int (i - j)) subD := sim_sub

/-! ### while -/
def wWhile (c : WT) (b : WS) : WS := fun E ep st => ∃ I : Nat → DE → DS → Prop, (∃ m, I m ep st) ∧ ∀ m ep st, I m ep st →
  c ep st (fun t st' => cnd t (fun _ => b { E with nx := fun ep' st'' => ∃ m', m' < m ∧ I m' ep' st'', ct := fun ep' st'' => ∃ m', m' < m ∧ I m' ep' st'', bk := E.nx } ep st') (fun _ => E.nx ep st')) (fun x st' => E.ex x ep st')
theorem js_while {X : Cx} {W : WX} {c : Expr} {body : List Stmt} {wc : WT} {wb : WS} {pos : Pos} (hp : PassesOwn (model X.prog X.w) X.A X.env X.xe) (hc : JT X W c wc) (hb : JSs X W body wb) : JS X W (.While c body [] pos) (wWhile wc wb) := by
  refine (ps_while hp hc hb).weak ?_
  rintro Dn sg H ⟨ep, st, E, he, hs, ⟨I, ⟨m0, i0⟩, turn⟩, ok⟩
  refine ⟨fun m sg' H' => ∃ ep' st', RepE X.K H' ep' sg' ∧ RepS X.K H' st' ∧ I m ep' st' ∧ OkS X.K W H' st' E Dn, ⟨m0, ep, st, he, hs, i0, ok⟩, ?_⟩
  rintro m sg1 H1 ⟨ep1, st1, e1, s1, i1, ok1⟩
  refine ⟨ep1, st1, _, _, e1, s1, turn m ep1 st1 i1, fun t H2 st2 k2 s2 h2 => ?_, ok1.okX e1⟩
  cases t with
  | true =>
    refine ⟨fun sg' H' => ∃ m', m' < m ∧ ∃ ep' st', RepE X.K H' ep' sg' ∧ RepS X.K H' st' ∧ I m' ep' st' ∧ OkS X.K W H' st' E Dn, fun sg' H' ⟨m', hm, z⟩ => ⟨m', hm, z⟩, ?_⟩
    refine ⟨ep1, st2, _, e1.keep k2, s2, h2.1 rfl, ?_⟩
    have ok2 := ok1.keep k2
    refine ⟨fun sg' H' ep' st' k s e h => ?_, ok2.rt, ok2.nx, fun sg' H' ep' st' k s e h => ?_, ok2.ex⟩
    · obtain ⟨m', hm, i'⟩ := h
      exact ⟨m', hm, ep', st', e, s, i', ok2.keep k⟩
    · obtain ⟨m', hm, i'⟩ := h
      exact ⟨m', hm, ep', st', e, s, i', ok2.keep k⟩
  | false => exact ok1.nx sg1 H2 ep1 st2 k2 s2 (e1.keep k2) (h2.2 rfl)

/-! ### for -/
/-- what a walk gives: items, while the guard stands -/
structure ItD (K : PySem.W.Frag) (H0 : Hp) (st0 : DS) (J : It) (items : List D) (G : DS → Prop) : Prop where
  goes : ∀ i H st, i < items.length → Keep K H0 st0 H st → RepS K H st → G st → J.go i H
  stops : ∀ H st, Keep K H0 st0 H st → RepS K H st → G st → J.stop items.length H
  yields : ∀ i H st x H' d, items[i]? = some d → Keep K H0 st0 H st → RepS K H st → G st → J.yld i H x H' → Keep K H st H' st ∧ RepS K H' st ∧ Rep K H' d x
abbrev WI := DE → DS → (List D → (DS → Prop) → DS → Prop) → RX → Prop
def twI (K : PySem.W.Frag) (W : WX) (w : WI) : TI := fun sg H R => ∃ ep st RR Rx, RepE K H ep sg ∧ RepS K H st ∧ w ep st RR Rx ∧ (∀ H' st' items G J, Keep K H st H' st' → RepS K H' st' → ItD K H' st' J items G → RR items G st' → R J H') ∧ OkX K W sg H st Rx
abbrev JI (X : Cx) (W : WX) (tg e : Expr) (w : WI) : Prop := PI X tg e (twI X.K W w)
theorem _root_.L2.PI.weak {X : Cx} {tg e : Expr} {t t' : TI} (h : PI X tg e t) (f : ∀ sg H R, t' sg H R → t sg H R) : PI X tg e t' := ⟨fun pins s sg H R I hw => h.run pins s sg H R I (f sg H R hw)⟩
def forL (g : DG) (b : WS) (G : DS → Prop) (E : Ed) : List D → DE → DS → Prop
  | [], ep, st => G st ∧ E.nx ep st
  | d :: r, ep, st => G st ∧ g d ep st (fun ep' st' => b { E with nx := forL g b G E r, ct := forL g b G E r, bk := E.nx } ep' st')
def wFor (wi : WI) (g : DG) (b : WS) : WS := fun E ep st => wi ep st (fun items G st' => forL g b G E items ep st') (fun x st' => E.ex x ep st')
theorem js_for {X : Cx} {W : WX} {tg iter : Expr} {body : List Stmt} {wi : WI} {g : DG} {wb : WS} {pos : Pos} (hp : PassesOwn (model X.prog X.w) X.A X.env X.xe) (hi : JI X W tg iter wi) (hg : JG X tg g) (hb : JSs X W body wb) (hc : X.calm = true := by rfl)
    (hs : ∀ x, foldedSetIterable iter X.env x = pure x := by intro _; rfl) : JS X W (.For tg iter body [] pos) (wFor wi g wb) := by
  refine (ps_for hp hc hi hg hb hs).weak ?_
  rintro Dn sg H ⟨ep, st, E, he, hs, hw, ok⟩
  refine ⟨ep, st, _, _, he, hs, hw, fun H1 st1 items G J k1 s1 it hf => ?_, ok.okX he⟩
  refine ⟨fun i m sg' H' => m = items.length - i ∧ i ≤ items.length ∧ ∃ ep' st', RepE X.K H' ep' sg' ∧ RepS X.K H' st' ∧ Keep X.K H1 st1 H' st' ∧ OkS X.K W H' st' E Dn ∧ forL g wb G E (items.drop i) ep' st', ?_, ?_⟩
  · exact ⟨items.length, by simp, Nat.zero_le _, ep, st1, he.keep k1, s1, .refl, ok.keep k1, by rw [List.drop_zero]; exact hf⟩
  · rintro i m sg2 H2 ⟨rfl, hi, ep2, st2, e2, s2, k2, ok2, hf2⟩
    by_cases hlt : i < items.length
    · rw [List.drop_eq_getElem_cons hlt] at hf2
      obtain ⟨gg, hf3⟩ := hf2
      refine .inr ⟨it.goes i H2 st2 hlt k2 s2 gg, fun sg' H' => (i + 1 ≤ items.length) ∧ ∃ ep' st', RepE X.K H' ep' sg' ∧ RepS X.K H' st' ∧ Keep X.K H1 st1 H' st' ∧ OkS X.K W H' st' E Dn ∧ forL g wb G E (items.drop (i + 1)) ep' st', fun sg' H' ⟨hl, z⟩ => ⟨items.length - (i + 1), by omega, rfl, hl, z⟩, fun x H' y => ?_⟩
      obtain ⟨k3, s3, r3⟩ := it.yields i H2 st2 x H' items[i] (List.getElem?_eq_getElem hlt) k2 s2 gg y
      have ok3 := ok2.keep k3
      refine ⟨items[i], ep2, st2, _, r3, e2.keep k3, s3, hf3, fun sg4 H4 ep4 st4 k4 s4 e4 h4 => ?_⟩
      have ok4 := ok3.keep k4
      refine ⟨ep4, st4, _, e4, s4, h4, ⟨fun sg' H' ep' st' k s e h => ⟨hlt, ep', st', e, s, ((k2.trans k3).trans k4).trans k, ok4.keep k, h⟩, ok4.rt, ok4.nx, fun sg' H' ep' st' k s e h => ⟨hlt, ep', st', e, s, ((k2.trans k3).trans k4).trans k, ok4.keep k, h⟩, ok4.ex⟩⟩
    · have e : i = items.length := by omega
      subst e
      rw [List.drop_length] at hf2
      exact .inl ⟨it.stops H2 st2 k2 s2 hf2.1, ok2.nx sg2 H2 ep2 st2 .refl s2 e2 hf2.2⟩
/-- over a list, a tuple, the script -/
def itemsD (d : D) (st : DS) (RR : List D → (DS → Prop) → DS → Prop) : Prop := match d with
  | .ref a => getL st a fun ds => RR ds (fun s => s a = some (.lst ds)) st
  | .tup ds => RR ds (fun _ => True) st
  | .scr ds => RR ds (fun _ => True) st
  | _ => False
def wIt (we : WE) : WI := fun ep st RR Rx => we ep st (fun d st' => itemsD d st' RR) Rx
theorem PI_seq {X : Cx} {tg l : Expr} {tl : TE} (hl : PE X l tl) : PI X tg l (fun sg H R => tl sg H fun x H1 => ∃ a, x = .ref a ∧ (((∃ xs, SqL X.K H1 a xs) ∧ R (Itl X.K a) H1) ∨ ((∃ xs, SqT X.K H1 a xs) ∧ R (Itt X.K a) H1))) := by
  refine ⟨fun pins s sg H R I h => ?_⟩
  refine thn (hl.run pins s sg H _ I h) fun v s1 ⟨x, H1, I1, r1, q1⟩ => ?_
  obtain ⟨a, e, q⟩ := q1
  subst e
  cases r1
  rcases q with ⟨⟨xs, hq⟩, q⟩ | ⟨⟨xs, hq⟩, q⟩
  · obtain ⟨its, rv, p, hz⟩ := I1.list hq
    refine wpAny_pyIter_list p.isList ?_
    refine ⟨s1.heap.objs.size, [s1.heap.objs.size], _, _, H1, rfl, I1.kept (t' := s1.toks) fun b o e => Heap.get?_push_of_some _ e, turn_list a _, ⟨_, Heap.get?_push_size _ rfl, rfl, rfl⟩, fun b hb => ?_, q⟩
    have e : b = s1.heap.objs.size := by simpa using hb
    subst e
    exact I1.fpOk (Nat.le_refl _) (I1.hok.fresh (Nat.le_refl _))
  · obtain ⟨its, rv, p, hz⟩ := I1.tuple hq
    refine wpAny_pyIter_tuple (show s1.heap.IsTuple a its.toArray from p) ?_
    refine ⟨s1.heap.objs.size, [s1.heap.objs.size], _, _, H1, rfl, I1.kept (t' := s1.toks) fun b o e => Heap.get?_push_of_some _ e, turn_tuple a _, ⟨_, Heap.get?_push_size _ rfl, rfl, rfl⟩, fun b hb => ?_, q⟩
    have e : b = s1.heap.objs.size := by simpa using hb
    subst e
    exact I1.fpOk (Nat.le_refl _) (I1.hok.fresh (Nat.le_refl _))
theorem itd_list {K : PySem.W.Frag} {H0 : Hp} {st0 : DS} {a : Addr} {ds : List D} : ItD K H0 st0 (Itl K a) ds (fun s => s a = some (.lst ds)) where
  goes := fun i H st hi k s g => by
    obtain ⟨vs, e, q⟩ := s a _ g
    exact ⟨vs, vs[i]'(by rw [← q.length]; exact hi), SqL.of e, List.getElem?_eq_getElem _⟩
  stops := fun H st k s g => by
    obtain ⟨vs, e, q⟩ := s a _ g
    exact ⟨vs, SqL.of e, by rw [q.length]; exact Nat.le_refl _⟩
  yields := fun i H st x H' d hd k s g y => by
    obtain ⟨rfl, y⟩ := y
    obtain ⟨vs, e, q⟩ := s a _ g
    obtain ⟨v, ev, r⟩ := q.get hd
    have := y vs (SqL.of e)
    rw [ev] at this; cases this
    exact ⟨.refl, s, r⟩
theorem itd_tup {K : PySem.W.Frag} {H0 : Hp} {st0 : DS} {a : Addr} {vs : List V} {ds : List D} (t : SqT K H0 a vs) (q : Reps K H0 ds vs) : ItD K H0 st0 (Itt K a) ds (fun _ => True) where
  goes := fun i H st hi k s g => ⟨vs, vs[i]'(by rw [← q.length]; exact hi), k.tup _ _ t, List.getElem?_eq_getElem _⟩
  stops := fun H st k s g => ⟨vs, k.tup _ _ t, by rw [q.length]; exact Nat.le_refl _⟩
  yields := fun i H st x H' d hd k s g y => by
    obtain ⟨rfl, y⟩ := y
    obtain ⟨v, ev, r⟩ := q.get hd
    have := y vs (k.tup _ _ t)
    rw [ev] at this; cases this
    exact ⟨.refl, s, r.keep k⟩
theorem itd_scr {K : PySem.W.Frag} {H0 : Hp} {st0 : DS} {a : Addr} {vs : List V} {ds : List D} (t : SqF K H0 a vs) (q : Reps K H0 ds vs) : ItD K H0 st0 (Itl K a) ds (fun _ => True) where
  goes := fun i H st hi k s g => ⟨vs, vs[i]'(by rw [← q.length]; exact hi), (k.scr _ _ t).sq, List.getElem?_eq_getElem _⟩
  stops := fun H st k s g => ⟨vs, (k.scr _ _ t).sq, by rw [q.length]; exact Nat.le_refl _⟩
  yields := fun i H st x H' d hd k s g y => by
    obtain ⟨rfl, y⟩ := y
    obtain ⟨v, ev, r⟩ := q.get hd
    have := y vs (k.scr _ _ t).sq
    rw [ev] at this; cases this
    exact ⟨.refl, s, r.keep k⟩
theorem itd_range {K : PySem.W.Frag} {H0 : Hp} {st0 : DS} {lo : Int} {n : Nat} : ItD K H0 st0 (Itr lo n) ((List.range n).map fun i : Nat => D.int (lo + i)) (fun _ => True) where
  goes := fun i H st hi k s g => by simpa [Itr] using hi
  stops := fun H st k s g => by simp [Itr]
  yields := fun i H st x H' d hd k s g y => by
    obtain ⟨rfl, rfl⟩ := y
    rw [List.getElem?_map] at hd
    have hi : i < n := by
      by_cases h : i < n
      · exact h
      · rw [List.getElem?_eq_none (by simpa using h)] at hd; cases hd
    rw [List.getElem?_range hi] at hd
    have : D.int (lo + i) = d := by simpa using hd
    subst this
    exact ⟨.refl, s, Rep_int.mpr rfl⟩
theorem itd_rangeC {K : PySem.W.Frag} {H0 : Hp} {st0 : DS} {lo c : Int} {n : Nat} : ItD K H0 st0 (Itc lo c n) ((List.range n).map fun i : Nat => D.int (lo + i * c)) (fun _ => True) where
  goes := fun i H st hi k s g => by simpa [Itc] using hi
  stops := fun H st k s g => by simp [Itc]
  yields := fun i H st x H' d hd k s g y => by
    obtain ⟨rfl, rfl⟩ := y
    rw [List.getElem?_map] at hd
    have hi : i < n := by
      by_cases h : i < n
      · exact h
      · rw [List.getElem?_eq_none (by simpa using h)] at hd; cases hd
    rw [List.getElem?_range hi] at hd
    have : D.int (lo + i * c) = d := by simpa using hd
    subst this
    exact ⟨.refl, s, Rep_int.mpr rfl⟩
section
variable {X : Cx} {W : WX} {tg e : Expr} {we : WE}
theorem jit (h : JE X W e we) : JI X W tg e (wIt we) := by
  refine (PI_seq h).weak ?_
  rintro sg H R ⟨ep, st, RR, Rx, he, hs, hw, hq, hx⟩
  refine ⟨ep, st, _, _, he, hs, hw, fun v H' d st' k s r h => ?_, hx⟩
  cases d with
  | ref a =>
    obtain ⟨ds, e, h⟩ := getL_inv h
    obtain ⟨vs, ev, q⟩ := s a _ e
    exact ⟨a, Rep_ref.mp r, .inl ⟨⟨vs, SqL.of ev⟩, hq H' st' ds _ _ k s itd_list h⟩⟩
  | tup ds =>
    obtain ⟨a, vs, rfl, t, q⟩ := Rep_tup.mp r
    exact ⟨a, rfl, .inr ⟨⟨vs, t⟩, hq H' st' ds _ _ k s (itd_tup t q) h⟩⟩
  | scr ds =>
    obtain ⟨a, vs, rfl, t, q⟩ := Rep_scr.mp r
    exact ⟨a, rfl, .inl ⟨⟨vs, t.sq⟩, hq H' st' ds _ _ k s (itd_scr t q) h⟩⟩
  | _ => exact h.elim
/-- range(n), range(a, b), range(a, b, -1) -/
def rngD (ds : List D) (st : DS) (RR : List D → (DS → Prop) → DS → Prop) : Prop := match ds with
  | [.int j] => (-(2 ^ 62) ≤ j ∧ j < 2 ^ 62) ∧ RR ((List.range j.toNat).map fun i : Nat => D.int (0 + i)) (fun _ => True) st
  | [.int i, .int j] => (-(2 ^ 62) ≤ i ∧ i < 2 ^ 62 ∧ -(2 ^ 62) ≤ j ∧ j < 2 ^ 62) ∧ RR ((List.range (j - i).toNat).map fun k : Nat => D.int (i + k)) (fun _ => True) st
  | [.int i, .int j, .int c] => ∃ n, RgC i j c n ∧ RR ((List.range n).map fun k : Nat => D.int (i + k * c)) (fun _ => True) st
  | _ => False
def wRng (wa : WA) : WI := fun ep st RR Rx => wa ep st (fun ds st' => rngD ds st' RR) Rx
theorem jir1 {p pos : Pos} {wa : WA} (hm : X.mg "range" = none) (h : JA X W 1 [e] wa) (hg : Gl X "range" := by rfl) (hs : starEach [e] X.env = [(false, eval e X.env)] := by rfl) : JI X W tg (.Call (.Name "range" p) [e] [] pos) (wRng wa) := by
  refine (pi_range1 hg hm h hs).weak ?_
  rintro sg H R ⟨ep, st, RR, Rx, he, hs, hw, hq, hx⟩
  refine ⟨ep, st, _, _, he, hs, hw, fun vs H' ds st' hl k s r h => ?_, hx⟩
  match ds, h, hl with
  | [.int j], h, _ =>
    obtain ⟨v, t, rfl, r1, r2⟩ := Reps_cons.mp r
    rw [Reps_nil.mp r2, Rep_int.mp r1]
    exact ⟨j, rfl, h.1.1, h.1.2, hq H' st' _ _ _ k s itd_range h.2⟩
theorem jir2 {p pos : Pos} {e2 : Expr} {wa : WA} (hm : X.mg "range" = none) (h : JA X W 2 [e, e2] wa) (hg : Gl X "range" := by rfl) (hs : starEach [e, e2] X.env = [(false, eval e X.env), (false, eval e2 X.env)] := by rfl) (hs2 : starEach [e2] X.env = [(false, eval e2 X.env)] := by rfl) :
    JI X W tg (.Call (.Name "range" p) [e, e2] [] pos) (wRng wa) := by
  refine (pi_range2 hg hm h hs hs2).weak ?_
  rintro sg H R ⟨ep, st, RR, Rx, he, hs, hw, hq, hx⟩
  refine ⟨ep, st, _, _, he, hs, hw, fun vs H' ds st' hl k s r h => ?_, hx⟩
  match ds, h, hl with
  | [.int i, .int j], h, _ =>
    obtain ⟨v, t, rfl, r1, r2⟩ := Reps_cons.mp r
    obtain ⟨v', t', rfl, r3, r4⟩ := Reps_cons.mp r2
    rw [Reps_nil.mp r4, Rep_int.mp r1, Rep_int.mp r3]
    exact ⟨i, j, rfl, h.1, hq H' st' _ _ _ k s itd_range h.2⟩
end
end DL

namespace DL
open PySem PySem.Spec PyProof.Rows L2
section
variable {X : Cx} {W : WX} {tg e : Expr} {we : WE}
theorem jir3 {p pos : Pos} {e2 e3 : Expr} {wa : WA} (hm : X.mg "range" = none) (h : JA X W 3 [e, e2, e3] wa) (hg : Gl X "range" := by rfl) (hs : starEach [e, e2, e3] X.env = (false, eval e X.env) :: starEach [e2, e3] X.env := by rfl) (hpl : (backTo pos (starEach [e2, e3] X.env)).any (·.1) = false := by rfl) :
    JI X W tg (.Call (.Name "range" p) [e, e2, e3] [] pos) (wRng wa) := by
  refine (pi_range3 hg hm h hs hpl).weak ?_
  rintro sg H R ⟨ep, st, RR, Rx, he, hs, hw, hq, hx⟩
  refine ⟨ep, st, _, _, he, hs, hw, fun vs H' ds st' hl k s r h => ?_, hx⟩
  match ds, h, hl with
  | [.int i, .int j, .int c], h, _ =>
    obtain ⟨v, t, rfl, r1, r2⟩ := Reps_cons.mp r
    obtain ⟨v', t', rfl, r3, r4⟩ := Reps_cons.mp r2
    obtain ⟨v2, t2, rfl, r5, r6⟩ := Reps_cons.mp r4
    rw [Reps_nil.mp r6, Rep_int.mp r1, Rep_int.mp r3, Rep_int.mp r5]
    obtain ⟨n, hn, h⟩ := h
    exact ⟨i, j, c, n, rfl, hn, hq H' st' _ _ _ k s itd_rangeC h⟩
end

/-! ### comprehensions -/
def wipeD (ep : DE) : List Nat → DE
  | [] => ep
  | v :: vs => (wipeD ep vs).set v none
theorem wipe_rep {K : PySem.W.Frag} {H : Hp} {ep : DE} {sg : L2.St} (h : RepE K H ep sg) : ∀ vs : List Nat, RepE K H (wipeD ep vs) (L2.wipe sg vs)
  | [] => h
  | v :: vs => by
    obtain ⟨h1, h2⟩ := wipe_rep h vs
    unfold wipeD L2.wipe
    refine ⟨by rw [List.length_set, List.length_set, h1], fun i d e => ?_⟩
    by_cases hi : v = i
    · subst hi
      have hl : v < (wipeD ep vs).length := by
        have := (List.getElem?_eq_some_iff.mp e).1
        rw [List.length_set] at this; exact this
      rw [List.getElem?_set_self hl] at e; cases e
    · rw [List.getElem?_set_ne hi] at e ⊢
      exact h2 i d e
/-- names that a target sets, by slots -/
inductive TgI : DG → List Nat → Prop where
  | name (i : Nat) : TgI (gN i) [i]
theorem set_wipe (sg : L2.St) (i : Nat) (x : Option V) : ∀ vs : List Nat, i ∈ vs → L2.wipe (sg.set i x) vs = L2.wipe sg vs
  | [], h => by cases h
  | v :: vs, h => by
    unfold L2.wipe
    by_cases hv : i ∈ vs
    · rw [set_wipe sg i x vs hv]
    · have e : i = v := by
        rcases List.mem_cons.mp h with h | h
        · exact h
        · exact absurd h hv
      subst e
      have key : ∀ us : List Nat, i ∉ us → L2.wipe (sg.set i x) us = (L2.wipe sg us).set i x := by
        intro us
        induction us with
        | nil => intro _; rfl
        | cons u us ih =>
          intro hu
          unfold L2.wipe
          rw [ih (fun z => hu (List.mem_cons_of_mem _ z)), List.set_comm _ _ (fun z => hu (by rw [z]; exact List.mem_cons_self))]
      rw [key vs hv, List.set_set]
theorem wipe_wipe (sg : L2.St) : ∀ vs : List Nat, L2.wipe (L2.wipe sg vs) vs = L2.wipe sg vs := by
  intro vs
  have key : ∀ us : List Nat, (∀ i ∈ us, i ∈ vs) → L2.wipe (L2.wipe sg us) vs = L2.wipe sg vs := by
    intro us
    induction us with
    | nil => intro _; rfl
    | cons u us ih =>
      intro hu
      show L2.wipe ((L2.wipe sg us).set u none) vs = _
      rw [set_wipe _ u none vs (hu u List.mem_cons_self), ih fun i hi => hu i (List.mem_cons_of_mem _ hi)]
  exact key vs fun i h => h
/-- one turn after the other: b the target's binding -/
def lcL (bind : D → DE → (DE → Prop) → Prop) (ep0 : DE) (wt : WT) (we : WE) (G : DS → Prop) (k : List D → DS → Prop) : List D → List D → DS → Prop
  | [], acc, st => G st ∧ k acc st
  | d :: r, acc, st => G st ∧ bind d ep0 fun ep => wt ep st (fun b st2 => cnd b (fun _ => we ep st2 (fun y st3 => acc.length < sizeLine ∧ lcL bind ep0 wt we G k r (acc ++ [y]) st3) (fun _ _ => False)) (fun _ => lcL bind ep0 wt we G k r acc st2)) (fun _ _ => False)
def wLc (wi : WI) (bind : D → DE → (DE → Prop) → Prop) (vs : List Nat) (wt : WT) (we : WE) : WE := fun ep st R Rx =>
  wi ep st (fun items G st' => lcL bind (wipeD ep vs) wt we G (fun acc st2 => ∀ p, st2 p = none → R (.ref p) (put st2 p (.lst acc))) items [] st') Rx
def bN (i : Nat) : D → DE → (DE → Prop) → Prop := fun d ep k => k (ep.set i (some d))
def bTn : List Nat → List D → DE → (DE → Prop) → Prop
  | [], [], ep, k => k ep
  | i :: is, d :: ds, ep, k => bTn is ds (ep.set i (some d)) k
  | _, _, _, _ => False
def bT (is : List Nat) : D → DE → (DE → Prop) → Prop := fun d ep k => match d with
  | .tup ds => bTn is ds ep k
  | _ => False
/-- a target's binding agrees with the hand layer's -/
structure BindOk (K : PySem.W.Frag) (g : TG) (bind : D → DE → (DE → Prop) → Prop) (vs : List Nat) : Prop where
  run : ∀ {H : Hp} {d : D} {v : V} {ep : DE} {sg : L2.St} {k : DE → Prop} {Q : L2.St → Hp → Prop}, Rep K H d v → RepE K H ep sg → bind d ep k → (∀ ep' sg', RepE K H ep' sg' → L2.wipe sg' vs = L2.wipe sg vs → k ep' → Q sg' H) → g v sg H Q
theorem bind_name {K : PySem.W.Frag} {i : Nat} {vs : List Nat} (h : i ∈ vs) : BindOk K (gName i) (bN i) vs := ⟨fun r he hb hq => hq _ _ (he.set r i) (set_wipe _ i _ vs h) hb⟩
def gNames : List Nat → TGs
  | [] => gNil
  | i :: is => gCons (gName i) (gNames is)
theorem bind_names {K : PySem.W.Frag} {vs : List Nat} {H : Hp} {Q : L2.St → Hp → Prop} {k : DE → Prop} : ∀ {is : List Nat} {ds : List D} {us : List V} {ep : DE} {sg : L2.St}, (∀ i ∈ is, i ∈ vs) → Reps K H ds us → RepE K H ep sg → bTn is ds ep k → (∀ ep' sg', RepE K H ep' sg' → L2.wipe sg' vs = L2.wipe sg vs → k ep' → Q sg' H) → gNames is us sg H Q
  | [], [], us, ep, sg, _, r, he, hb, hq => ⟨Reps_nil.mp r, hq _ _ he rfl hb⟩
  | [], _ :: _, _, _, _, _, _, _, hb, _ => hb.elim
  | _ :: _, [], _, _, _, _, _, _, hb, _ => hb.elim
  | i :: is, d :: ds, us, ep, sg, hv, r, he, hb, hq => by
    obtain ⟨v, t, rfl, r1, r2⟩ := Reps_cons.mp r
    refine ⟨v, t, rfl, ?_⟩
    refine bind_names (fun j hj => hv j (List.mem_cons_of_mem _ hj)) r2 (he.set r1 i) hb fun ep' sg' e w h => hq ep' sg' e ?_ h
    rw [w, set_wipe _ i _ vs (hv i List.mem_cons_self)]
theorem bTn_len {k : DE → Prop} : ∀ {is : List Nat} {ds : List D} {ep : DE}, bTn is ds ep k → ds.length = is.length
  | [], [], _, _ => rfl
  | [], _ :: _, _, h => h.elim
  | _ :: _, [], _, h => h.elim
  | i :: is, d :: ds, ep, h => by rw [List.length_cons, List.length_cons, bTn_len (is := is) (ds := ds) h]
theorem bind_tup {K : PySem.W.Frag} {is vs : List Nat} (h : ∀ i ∈ is, i ∈ vs) : BindOk K (gTup K is.length (gNames is)) (bT is) vs := ⟨fun {H d v ep sg k Q} r he hb hq => by
  cases d with
  | tup ds =>
    obtain ⟨a, us, rfl, t, q⟩ := Rep_tup.mp r
    exact ⟨a, us, rfl, t, by rw [← q.length]; exact bTn_len hb, bind_names h q he hb hq⟩
  | _ => exact hb.elim⟩
abbrev JTs (X : Cx) (W : WX) (ifs : List Expr) (w : WT) : Prop := PTs X ifs (twT X.K W w)
def wYes : WT := fun _ st R _ => R true st
theorem jts_nil {X : Cx} {W : WX} : JTs X W [] wYes := ⟨fun pins s sg H Q I h => pts_nil.run pins s sg H Q I (by
  obtain ⟨ep, st, R, Rx, he, hs, hw, hq, hx⟩ := h
  exact hq true H st .refl hs hw)⟩
theorem jts_one {X : Cx} {W : WX} {c : Expr} {w : WT} (h : JT X W c w) : JTs X W [c] w := pts_one h
/-- the reading of a comprehension -/
theorem lc_ok {K : PySem.W.Frag} {W : WX} {g : TG} {bind : D → DE → (DE → Prop) → Prop} {vs : List Nat} {wi : WI} {wt : WT} {we : WE} (bo : BindOk K g bind vs) : ∀ sg H Q, twE K W (wLc wi bind vs wt we) sg H Q →
    tLc (twI K W wi) g (twT K (fun _ _ _ _ => False) wt) (twE K (fun _ _ _ _ => False) we) vs sg H Q := by
  rintro sg H Q ⟨ep, st, R, Rx, he, hs, hw, hq, hx⟩
  refine ⟨ep, st, _, _, he, hs, hw, fun H1 st1 items G J k1 s1 it hf Dl hD => ?_, hx⟩
  -- the list at Dl is the comprehension's own
  refine ⟨fun i m H' => m = items.length - i ∧ i ≤ items.length ∧ ∃ acc accV st', Reps K H' acc accV ∧ H' Dl = some (.lst accV) ∧ st' Dl = none ∧ RepS K H' st' ∧ Keep K H1 st1 H' st' ∧
    lcL bind (wipeD ep vs) wt we G (fun acc st2 => ∀ p, st2 p = none → R (.ref p) (put st2 p (.lst acc))) (items.drop i) acc st', ?_, ?_⟩
  · exact ⟨items.length, by simp, Nat.zero_le _, [], [], st1, Reps.nil, upd_same, s1.free hD, s1.untold hD _, Keep.untold hD _, by rw [List.drop_zero]; exact hf⟩
  · rintro i m H2 ⟨rfl, hi, acc, accV, st2, ra, eD, nD, s2, k2, hf2⟩
    by_cases hlt : i < items.length
    · rw [List.drop_eq_getElem_cons hlt] at hf2
      obtain ⟨gg, hf3⟩ := hf2
      refine .inr ⟨it.goes i H2 st2 hlt k2 s2 gg, fun H' => (i + 1 ≤ items.length) ∧ ∃ acc accV st', Reps K H' acc accV ∧ H' Dl = some (.lst accV) ∧ st' Dl = none ∧ RepS K H' st' ∧ Keep K H1 st1 H' st' ∧
        lcL bind (wipeD ep vs) wt we G (fun acc st2 => ∀ p, st2 p = none → R (.ref p) (put st2 p (.lst acc))) (items.drop (i + 1)) acc st', fun H' ⟨hl, z⟩ => ⟨items.length - (i + 1), by omega, rfl, hl, z⟩, fun x H' y => ?_⟩
      obtain ⟨k3, s3, r3⟩ := it.yields i H2 st2 x H' items[i] (List.getElem?_eq_getElem hlt) k2 s2 gg y
      have he3 : RepE K H' (wipeD ep vs) (L2.wipe sg vs) := wipe_rep (((he.keep k1).keep k2).keep k3) vs
      refine bo.run r3 he3 hf3 fun ep4 sg4 e4 w4 h4 => ⟨by rw [w4, wipe_wipe], ?_⟩
      have d3 := k3.oth Dl _ eD nD
      refine ⟨ep4, st2, _, _, e4, s3, h4, fun b H5 st5 k5 s5 h5 => ?_, fun _ _ _ _ _ _ _ _ z => z.elim⟩
      have d5 := k5.oth Dl _ d3.1 d3.2
      cases b with
      | true =>
        replace h5 := h5.1 rfl
        dsimp only
        rw [if_pos rfl]
        refine ⟨ep4, st5, _, _, e4.keep k5, s5, h5, fun v H6 d st6 k6 s6 r6 h6 => ?_, fun _ _ _ _ _ _ _ _ z => z.elim⟩
        have d6 := k6.oth Dl _ d5.1 d5.2
        have ra6 := ((ra.keep k3).keep k5).keep k6
        refine ⟨accV, d6.1, by rw [← ra6.length]; exact h6.1, hlt, acc ++ [d], accV ++ [v], st6, ?_, upd_same, d6.2, ?_, ?_, h6.2⟩
        · have kk : ∀ a vs, SqT K H6 a vs → SqT K (upd H6 Dl (.lst (accV ++ [v]))) a vs := fun a vs => sqT_upd (by rw [d6.1]; trivial)
          have jj : ∀ a vs, SqF K H6 a vs → SqF K (upd H6 Dl (.lst (accV ++ [v]))) a vs := fun a vs => sqF_upd (by rw [d6.1]; trivial)
          exact (Reps.mono kk jj _ _ ra6).append (.cons (Rep.mono kk jj _ _ r6) Reps.nil)
        · intro a o ea
          exact (s6 a o ea).upd (by rw [d6.1]; trivial) (fun z => by rw [z, d6.2] at ea; cases ea)
        · have kk : Keep K H1 st1 H6 st6 := ((k2.trans k3).trans k5).trans k6
          refine ⟨fun a vs h => sqT_upd (by rw [d6.1]; trivial) (kk.tup a vs h), fun a vs h => sqF_upd (by rw [d6.1]; trivial) (kk.scr a vs h), fun a o h n => ?_⟩
          have ne : a ≠ Dl := fun z => by rw [z, hD] at h; cases h
          rw [upd_ne ne]
          exact kk.oth a o h n
      | false =>
        replace h5 := h5.2 rfl
        dsimp only
        rw [if_neg Bool.false_ne_true]
        exact ⟨hlt, acc, accV, st5, (ra.keep k3).keep k5, d5.1, d5.2, s5, (k2.trans k3).trans k5, h5⟩
    · have e : i = items.length := by omega
      subst e
      rw [List.drop_length] at hf2
      refine .inl ⟨it.stops H2 st2 k2 s2 hf2.1, ?_⟩
      have kk := k1.trans k2
      refine hq _ H2 _ (put st2 Dl (.lst acc)) ⟨kk.tup, kk.scr, fun a o h n => ⟨(kk.oth a o h n).1, ?_⟩⟩ (fun a o h => ?_) (Rep_ref.mpr rfl) (hf2.2 Dl nD)
      · have h1 := (k1.oth a o h n).1
        have ne : a ≠ Dl := fun z => by rw [z, hD] at h1; cases h1
        rw [put_ne ne]; exact (kk.oth a o h n).2
      · by_cases ne : a = Dl
        · subst ne
          rw [put_same] at h; cases h
          exact ⟨accV, eD, ra⟩
        · rw [put_ne ne] at h
          exact s2 a o h
end DL

namespace DL
open PySem PySem.Spec PyProof.Rows L2
abbrev noW : WX := fun _ _ _ _ => False
section
variable {X : Cx} {W : WX} {elt tg iter : Expr} {ifs : List Expr} {scope : Scope} {own : List (Str × Nat)} {pos : Pos} {wi : WI} {g : TG} {bind : D → DE → (DE → Prop) → Prop} {wt : WT} {we : WE}
/-- [elt for target in iter if ..] -/
theorem je_lc (hN : X.N.Nodup) (hi : JI X W tg iter wi) (ok : blkC X.N X.env.scope scope own = true) (bo : BindOk X.K g bind (own.map (·.2)))
    (hg : ∀ (s : Shared) (H : Hp) (C : Addr) (cl : List (Str × Addr)) (fp : List Addr), PG (X.blk s H scope (compEnvC scope cl C X.env) fp) tg g) (ht : ∀ (s : Shared) (H : Hp) (C : Addr) (cl : List (Str × Addr)) (fp : List Addr), JTs (X.blk s H scope (compEnvC scope cl C X.env) fp) noW ifs wt)
    (he : ∀ (s : Shared) (H : Hp) (C : Addr) (cl : List (Str × Addr)) (fp : List Addr), JE (X.blk s H scope (compEnvC scope cl C X.env) fp) noW elt we) (hc : X.calm = true := by rfl) (hs : ∀ x, foldedSetIterable iter X.env x = pure x := by intro _; rfl) :
    JE X W (.ListComp elt [⟨tg, iter, ifs, 0⟩] scope pos) (wLc wi bind (own.map (·.2)) wt we) :=
  (pe_lc hc hN hi (blkOk_by ok) hg ht he hs).weak (lc_ok bo)
/-- name = [..] -/
theorem js_setlc {i : Nat} {y : Str} {py spos : Pos} (hN : X.N.Nodup) (hi : JI X W tg iter wi) (ok : blkC X.N X.env.scope scope own = true) (bo : BindOk X.K g bind (own.map (·.2)))
    (hg : ∀ (s : Shared) (H : Hp) (C : Addr) (cl : List (Str × Addr)) (fp : List Addr), PG (X.blk s H scope (compEnvC scope cl C X.env) fp) tg g) (ht : ∀ (s : Shared) (H : Hp) (C : Addr) (cl : List (Str × Addr)) (fp : List Addr), JTs (X.blk s H scope (compEnvC scope cl C X.env) fp) noW ifs wt)
    (he : ∀ (s : Shared) (H : Hp) (C : Addr) (cl : List (Str × Addr)) (fp : List Addr), JE (X.blk s H scope (compEnvC scope cl C X.env) fp) noW elt we)
    (hsw : swapsWith (.ListComp elt [⟨tg, iter, ifs, 0⟩] scope pos) (some (.Name y py)) spos.line X.env = pure true) (hc : X.calm = true := by rfl) (hy : X.N[i]? = some y := by rfl) (hyl : X.env.scope.names.lookup y = some .local := by rfl) (hs : ∀ x, foldedSetIterable iter X.env x = pure x := by intro _; rfl) :
    JS X W (.Assign [.Name y py] (.ListComp elt [⟨tg, iter, ifs, 0⟩] scope pos) spos) (wSet i (wLc wi bind (own.map (·.2)) wt we)) := by
  refine (ps_setLc (te := twE X.K noW we) (tt := twT X.K noW wt) hc hN hy hyl hsw hi (blkOk_by ok) hg ht he hs).weak ?_
  rintro Dn sg H ⟨ep, st, E, he, hs, hw, ok⟩
  refine lc_ok bo sg H _ ⟨ep, st, _, _, he, hs, hw, fun v H' d st' k s r h => ?_, ok.okX he⟩
  exact ok.nx _ H' _ st' k s ((he.keep k).set r i) h
end

/-! ### isinstance against built-in types -/
inductive Ty5 where
  | int | bool | str | tup | lst
def Ty5.nm : Ty5 → String
  | .int => "int" | .bool => "bool" | .str => "str" | .tup => "tuple" | .lst => "list"
/-- is it one; of a list or an instance ask the store -/
def isTy : Ty5 → D → Bool
  | .int, .int _ => true
  | .int, .bl _ => true
  | .bool, .bl _ => true
  | .str, .str _ => true
  | .tup, .tup _ => true
  | .lst, .ref _ => true
  | .lst, .scr _ => true
  | _, _ => false
def lstOk (d : D) (st : DS) : Prop := match d with
  | .ref a => getL st a fun _ => True
  | _ => True
def wIsi (T : Ty5) (we : WE) : WE := fun ep st R Rx => we ep st (fun d st' => lstOk d st' ∧ R (.bl (isTy T d)) st') Rx
theorem tyx_of {K : PySem.W.Frag} {H : Hp} {st : DS} {d : D} {v : V} (hs : RepS K H st) (r : Rep K H d v) (h : lstOk d st) :
    ∃ n : String, TyX K H v (.type n) ∧ ∀ T : Ty5, kitB n T.nm = some (isTy T d) := by
  cases d with
  | non => rw [Rep_non.mp r]; exact ⟨_, .base .non, fun T => by cases T <;> decide +kernel⟩
  | bl b => rw [Rep_bl.mp r]; exact ⟨_, .base (.bl b), fun T => by cases T <;> (show kitB _ _ = some _; simp only [isTy, Ty5.nm]; decide +kernel)⟩
  | int b => rw [Rep_int.mp r]; exact ⟨_, .base (.int b), fun T => by cases T <;> (show kitB _ _ = some _; simp only [isTy, Ty5.nm]; decide +kernel)⟩
  | str b => rw [Rep_str.mp r]; exact ⟨_, .base (.str b), fun T => by cases T <;> (show kitB _ _ = some _; simp only [isTy, Ty5.nm]; decide +kernel)⟩
  | tup ds =>
    obtain ⟨a, vs, rfl, t, q⟩ := Rep_tup.mp r
    have fin : ∀ T : Ty5, kitB "tuple" T.nm = some (isTy T (.tup ds)) := fun T => by cases T <;> (simp only [isTy, Ty5.nm]; decide +kernel)
    rcases t with (h | ⟨o, h⟩) | ⟨o, its, n, hk, hc, _⟩
    · exact ⟨"tuple", .base (.tup h), fin⟩
    · exact ⟨"tuple", .fTuple h, fin⟩
    · exact ⟨"tuple", .kTuple hk hc, fin⟩
  | ref a =>
    obtain ⟨ds, e, _⟩ := getL_inv h
    obtain ⟨vs, e1, _⟩ := hs a _ e
    rw [Rep_ref.mp r]
    exact ⟨"list", .base (.lst e1), fun T => by cases T <;> (simp only [isTy, Ty5.nm]; decide +kernel)⟩
  | scr ds =>
    obtain ⟨a, vs, rfl, t, q⟩ := Rep_scr.mp r
    have fin : ∀ T : Ty5, kitB "list" T.nm = some (isTy T (.scr ds)) := fun T => by cases T <;> (simp only [isTy, Ty5.nm]; decide +kernel)
    rcases t with ⟨o, h⟩ | ⟨o, its, n, hk, hc, _⟩
    · exact ⟨"list", .base (.frz h), fin⟩
    · exact ⟨"list", .kList hk hc, fin⟩
section
variable {X : Cx} {W : WX} {e : Expr} {we : WE} {p p2 pos : Pos}
theorem j_isi (T : Ty5) {x : Str} (hm : X.mg "isinstance" = none) (hmT : X.mg x = none) (hv : bootBuiltins x = some (.type T.nm)) (h : JE X W e we) (hg : Gl X "isinstance" := by rfl) (hgT : Gl X x := by rfl) (hn : x ≠ "__name__" := by decide) (hdb : (x == ("__debug__" : Str)) = false := by decide)
    (hs : starEach [e, .Name x p2] X.env = (false, eval e X.env) :: starEach [.Name x p2] X.env := by rfl) (hs2 : starEach [.Name x p2] X.env = (false, eval (.Name x p2) X.env) :: starEach [] X.env := by rfl) (hpl : (backTo pos (starEach [.Name x p2] X.env)).any (·.1) = false := by rfl) :
    JE X W (.Call (.Name "isinstance" p) [e, .Name x p2] [] pos) (wIsi T we) := by
  refine (pe_callB call_isi hg hm (by decide +kernel) (pa_cons h (pa_cons (pe_bltn (v := .ty T.nm) hgT hmT hv rfl hn hdb) pa_nil hs2) hs) (by decide) (by decide) hs hpl).weak ?_
  rintro sg H Q ⟨ep, st, R, Rx, he, hs, hw, hq, hx⟩
  refine ⟨ep, st, _, _, he, hs, hw, fun v H' d st' k s r h => ?_, hx⟩
  obtain ⟨h1, h2⟩ := h
  obtain ⟨n, ty, kit⟩ := tyx_of s r h1
  exact ⟨v, .ty T.nm, .type n, .type T.nm, isTy T d, rfl, .ty _, ty, kit_ty (kit T), hq _ H' _ st' k s (Rep_bl.mpr rfl) h2⟩
end

/-! ### methods of lists -/
def isLst (d : D) (st : DS) : Prop := match d with
  | .ref a => getL st a fun _ => True
  | _ => False
abbrev FM := D → List D → DS → RD → Prop
def wM (f : FM) (wo : WE) (wa : WA) : WE := fun ep st R Rx => wo ep st (fun o st1 => isLst o st1 ∧ wa ep st1 (fun ds st2 => f o ds st2 R) Rx) Rx
def SimM (K : PySem.W.Frag) (r : V → List V → Hp → VK → Prop) (f : FM) : Prop := ∀ H st o v vs ds R Q, RepS K H st → Rep K H o v → Reps K H ds vs → f o ds st R → OkQ K H st R Q → r v vs H Q
theorem lst_tyV {K : PySem.W.Frag} {H : Hp} {st : DS} {d : D} {v : V} (hs : RepS K H st) (r : Rep K H d v) (h : isLst d st) : tyV K "list" v H := by
  cases d with
  | ref a =>
    obtain ⟨ds, e, _⟩ := getL_inv h
    obtain ⟨vs, e1, _⟩ := hs a _ e
    rw [Rep_ref.mp r]
    exact .inl ⟨rfl, vs, SqL.of e1⟩
  | _ => exact h.elim
section
variable {X : Cx} {W : WX} {o e : Expr} {es : List Expr} {wo : WE} {wa : WA} {n : Nat} {name : Str} {apos cpos : Pos} {id : String} {r : V → List V → Hp → VK → Prop} {f : FM}
theorem j_meth (slot : Slot "list" name id) (hty : typeOf (.builtin id) = pure (.type "method_descriptor")) (hm : MtR X id r) (hf : SimM X.K r f) (ho : JE X W o wo) (ha : JA X W n (e :: es) wa)
    (hbase : attributeBase o name X.env (eval o X.env) = eval o X.env := by rfl)
    (hfew : ((backTo cpos (starEach (e :: es) X.env)).all (fun x => !x.1) && (backToKw cpos (keywordEach [] X.env)).all (fun x => x.1.isSome)
      && decide ((e :: es).length + ([] : List Keyword).length + (if ([] : List Keyword).isEmpty then 0 else 1) < 30)) = true := by rfl)
    (hline : (apos.endLine == cpos.line) = true := by rfl) (hs : starEach (e :: es) X.env = (false, eval e X.env) :: starEach es X.env := by rfl) (hplain : (backTo cpos (starEach es X.env)).any (·.1) = false := by rfl) :
    JE X W (.Call (.Attribute o name apos) (e :: es) [] cpos) (wM f wo wa) := by
  refine (pe_bm PySem.F.plainAttrs_list slot hty hm ho ha hbase hfew hline hs hplain).weak ?_
  rintro sg H Q ⟨ep, st, R, Rx, he, hs, hw, hq, hx⟩
  refine ⟨ep, st, _, _, he, hs, hw, fun v H1 d st1 k s r1 h => ⟨lst_tyV s r1 h.1, ?_⟩, hx⟩
  exact ⟨ep, st1, _, _, he.keep k, s, h.2, fun vs H2 ds st2 hl k2 s2 r2 h2 => hf H2 st2 d v vs ds R Q s2 (r1.keep k2) r2 h2 (hq.keep (k.trans k2)), hx.keep k⟩
theorem j_meth0 (slot : Slot "list" name id) (hty : typeOf (.builtin id) = pure (.type "method_descriptor")) (hm : MtR X id r) (hf : SimM X.K r f) (ho : JE X W o wo)
    (hbase : attributeBase o name X.env (eval o X.env) = eval o X.env := by rfl) (hline : (apos.endLine == cpos.line) = true := by rfl) : JE X W (.Call (.Attribute o name apos) [] [] cpos) (wM f wo wANil) := by
  refine (pe_bm0 PySem.F.plainAttrs_list slot hty hm ho hbase hline).weak ?_
  rintro sg H Q ⟨ep, st, R, Rx, he, hs, hw, hq, hx⟩
  refine ⟨ep, st, _, _, he, hs, hw, fun v H1 d st1 k s r1 h => ⟨lst_tyV s r1 h.1, ?_⟩, hx⟩
  exact hf H1 st1 d v [] [] R Q s r1 Reps.nil h.2 (hq.keep k)
end
def appendD : FM := fun o ds st R => match o, ds with
  | .ref a, [d] => getL st a fun es => es.length < sizeLine ∧ R .non (put st a (.lst (es ++ [d])))
  | _, _ => False
def extendD : FM := fun o ds st R => match o, ds with
  | .ref a, [.ref b] => getL st a fun es => getL st b fun fs => es.length + fs.length ≤ sizeLine ∧ R .non (put st a (.lst (es ++ fs)))
  | _, _ => False
def popD : FM := fun o ds st R => match o, ds with
  | .ref a, [] => getL st a fun es => optP es[es.length - 1]? fun d => R d (put st a (.lst es.dropLast))
  | .ref a, [.int i] => getL st a fun es => (-(2 ^ 63) ≤ i ∧ i < 2 ^ 63) ∧ optP (ixN es.length i) fun k => optP es[k]? fun d => R d (put st a (.lst (es.eraseIdx k)))
  | _, _ => False
def reverseD : FM := fun o ds st R => match o, ds with
  | .ref a, [] => getL st a fun es => R .non (put st a (.lst es.reverse))
  | _, _ => False
section
variable {K : PySem.W.Frag}
theorem sim_append : SimM K rAppend appendD := by
  intro H st o v vs ds R Q hs ro rs hf hq
  match o, ds, hf with
  | .ref a, [d], hf =>
    obtain ⟨es, e, hl, h⟩ := getL_inv hf
    obtain ⟨us, e1, q⟩ := hs a _ e
    obtain ⟨x, t, rfl, r1, r2⟩ := Reps_cons.mp rs
    rw [Reps_nil.mp r2]
    refine ⟨a, us, x, Rep_ref.mp ro, rfl, e1, by rw [← q.length]; exact hl, ?_⟩
    have k := hs.keepW e (HO.lst (us ++ [x])) (OB.lst (es ++ [d]))
    exact hq _ _ _ _ k (hs.write e ⟨_, upd_same, (q.keep k).append (.cons (r1.keep k) Reps.nil)⟩) (Rep_non.mpr rfl) h
theorem sim_extend : SimM K rExtend extendD := by
  intro H st o v vs ds R Q hs ro rs hf hq
  match o, ds, hf with
  | .ref a, [.ref b], hf =>
    obtain ⟨es, e, hf⟩ := getL_inv hf
    obtain ⟨fs, f, hl, h⟩ := getL_inv hf
    obtain ⟨us, e1, q⟩ := hs a _ e
    obtain ⟨ws, f1, q2⟩ := hs b _ f
    obtain ⟨x, t, rfl, r1, r2⟩ := Reps_cons.mp rs
    rw [Reps_nil.mp r2, Rep_ref.mp r1]
    refine ⟨a, b, us, ws, Rep_ref.mp ro, rfl, e1, f1, by rw [← q.length, ← q2.length]; exact hl, ?_⟩
    have k := hs.keepW e (HO.lst (us ++ ws)) (OB.lst (es ++ fs))
    exact hq _ _ _ _ k (hs.write e ⟨_, upd_same, (q.keep k).append (q2.keep k)⟩) (Rep_non.mpr rfl) h
theorem Reps.dropLast {H : Hp} : ∀ {ds : List D} {vs : List V}, Reps K H ds vs → Reps K H ds.dropLast vs.dropLast
  | [], _, h => by rw [Reps_nil.mp h]; exact Reps.nil
  | [d], _, h => by
    obtain ⟨x, t, rfl, r1, r2⟩ := Reps_cons.mp h
    rw [Reps_nil.mp r2]; exact Reps.nil
  | d :: e :: ds, _, h => by
    obtain ⟨x, t, rfl, r1, r2⟩ := Reps_cons.mp h
    obtain ⟨y, t2, rfl, r3, r4⟩ := Reps_cons.mp r2
    exact .cons r1 (Reps.dropLast r2)
theorem sim_pop : SimM K (fun x xs H Q => rPop x xs H Q ∨ rPopAt x xs H Q) popD := by
  intro H st o v vs ds R Q hs ro rs hf hq
  match o, ds, hf with
  | .ref a, [], hf =>
    obtain ⟨es, e, hf⟩ := getL_inv hf
    obtain ⟨d, hd, h⟩ := optP_inv hf
    obtain ⟨us, e1, q⟩ := hs a _ e
    rw [Reps_nil.mp rs]
    obtain ⟨y, hy, ry⟩ := q.get hd
    refine .inl ⟨a, us, y, Rep_ref.mp ro, rfl, e1, by rw [← q.length]; exact hy, ?_⟩
    have k := hs.keepW e (HO.lst us.dropLast) (OB.lst es.dropLast)
    exact hq _ _ _ _ k (hs.write e ⟨_, upd_same, (q.keep k).dropLast⟩) (ry.keep k) h
  | .ref a, [.int i], hf =>
    obtain ⟨es, e, hi, hf⟩ := getL_inv hf
    obtain ⟨j, hj, hf⟩ := optP_inv hf
    obtain ⟨d, hd, h⟩ := optP_inv hf
    obtain ⟨us, e1, q⟩ := hs a _ e
    obtain ⟨x, t, rfl, r1, r2⟩ := Reps_cons.mp rs
    rw [Reps_nil.mp r2, Rep_int.mp r1]
    obtain ⟨y, hy, ry⟩ := q.get hd
    refine .inr ⟨a, us, i, j, y, Rep_ref.mp ro, rfl, e1, hi.1, hi.2, by rw [← q.length]; exact (ixN_seq hj).1, hy, ?_⟩
    have k := hs.keepW e (HO.lst (us.eraseIdx j)) (OB.lst (es.eraseIdx j))
    exact hq _ _ _ _ k (hs.write e ⟨_, upd_same, (q.keep k).eraseIdx j⟩) (ry.keep k) h
theorem sim_reverse : SimM K rReverse reverseD := by
  intro H st o v vs ds R Q hs ro rs hf hq
  match o, ds, hf with
  | .ref a, [], hf =>
    obtain ⟨es, e, h⟩ := getL_inv hf
    obtain ⟨us, e1, q⟩ := hs a _ e
    rw [Reps_nil.mp rs]
    refine ⟨a, us, Rep_ref.mp ro, rfl, e1, ?_⟩
    have k := hs.keepW e (HO.lst us.reverse) (OB.lst es.reverse)
    exact hq _ _ _ _ k (hs.write e ⟨_, upd_same, (q.keep k).reverse⟩) (Rep_non.mpr rfl) h
end
section
variable {X : Cx} {W : WX} {o e : Expr} {wo : WE} {wa : WA} {n : Nat} {apos cpos : Pos}
theorem j_append (ho : JE X W o wo) (ha : JA X W n [e] wa) (hbase : attributeBase o "append" X.env (eval o X.env) = eval o X.env := by rfl)
    (hfew : ((backTo cpos (starEach [e] X.env)).all (fun x => !x.1) && (backToKw cpos (keywordEach [] X.env)).all (fun x => x.1.isSome)
      && decide ([e].length + ([] : List Keyword).length + (if ([] : List Keyword).isEmpty then 0 else 1) < 30)) = true := by rfl) (hline : (apos.endLine == cpos.line) = true := by rfl) (hs : starEach [e] X.env = (false, eval e X.env) :: starEach [] X.env := by rfl) :
    JE X W (.Call (.Attribute o "append" apos) [e] [] cpos) (wM appendD wo wa) := j_meth PySem.F.slot_list_append PySem.F.type_list_append mt_append sim_append ho ha hbase hfew hline hs
theorem j_extend (ho : JE X W o wo) (ha : JA X W n [e] wa) (hbase : attributeBase o "extend" X.env (eval o X.env) = eval o X.env := by rfl)
    (hfew : ((backTo cpos (starEach [e] X.env)).all (fun x => !x.1) && (backToKw cpos (keywordEach [] X.env)).all (fun x => x.1.isSome)
      && decide ([e].length + ([] : List Keyword).length + (if ([] : List Keyword).isEmpty then 0 else 1) < 30)) = true := by rfl) (hline : (apos.endLine == cpos.line) = true := by rfl) (hs : starEach [e] X.env = (false, eval e X.env) :: starEach [] X.env := by rfl) :
    JE X W (.Call (.Attribute o "extend" apos) [e] [] cpos) (wM extendD wo wa) := j_meth PySem.F.slot_list_extend PySem.F.type_list_extend mt_extend sim_extend ho ha hbase hfew hline hs
theorem j_popAt (ho : JE X W o wo) (ha : JA X W n [e] wa) (hbase : attributeBase o "pop" X.env (eval o X.env) = eval o X.env := by rfl)
    (hfew : ((backTo cpos (starEach [e] X.env)).all (fun x => !x.1) && (backToKw cpos (keywordEach [] X.env)).all (fun x => x.1.isSome)
      && decide ([e].length + ([] : List Keyword).length + (if ([] : List Keyword).isEmpty then 0 else 1) < 30)) = true := by rfl) (hline : (apos.endLine == cpos.line) = true := by rfl) (hs : starEach [e] X.env = (false, eval e X.env) :: starEach [] X.env := by rfl) :
    JE X W (.Call (.Attribute o "pop" apos) [e] [] cpos) (wM popD wo wa) := j_meth PySem.F.slot_list_pop PySem.F.type_list_pop (MtR.or mt_pop mt_popAt) sim_pop ho ha hbase hfew hline hs
theorem j_pop (ho : JE X W o wo) (hbase : attributeBase o "pop" X.env (eval o X.env) = eval o X.env := by rfl) (hline : (apos.endLine == cpos.line) = true := by rfl) :
    JE X W (.Call (.Attribute o "pop" apos) [] [] cpos) (wM popD wo wANil) := j_meth0 PySem.F.slot_list_pop PySem.F.type_list_pop (MtR.or mt_pop mt_popAt) sim_pop ho hbase hline
end
end DL

namespace DL
open PySem PySem.Spec PyProof.Rows L2
def wNeg (wa : WE) : WE := fun ep st R Rx => wa ep st (fun d st' => asI d fun i => R (.int (-i)) st') Rx
def wNotV (wa : WE) : WE := fun ep st R Rx => wB wa ep st (fun c st' => R (.bl (!c)) st') Rx
def wAndV (wa wb : WE) : WE := fun ep st R Rx => wB wa ep st (fun c st' => cnd c (fun _ => wb ep st' R Rx) (fun _ => R (.bl false) st')) Rx
def wOrV (wa wb : WE) : WE := fun ep st R Rx => wB wa ep st (fun c st' => cnd c (fun _ => R (.bl true) st') (fun _ => wb ep st' R Rx)) Rx
def wNoneT (neg : Bool) (wa : WE) : WT := fun ep st R Rx => wa ep st (fun d st' => R (if neg = true then !d.isNon else d.isNon) st') Rx
section
variable {X : Cx} {W : WX} {a b : Expr} {wa wb : WE} {k : Nat} {pos : Pos}
theorem jc_lt (ha : JE X W a wa) (hb : JE X W b wb) : JE X W (.Compare a [.Lt] [b] pos) (wBin ltD wa wb) := j_cmp op_lt sim_cmp ha hb
theorem jc_le (ha : JE X W a wa) (hb : JE X W b wb) : JE X W (.Compare a [.LtE] [b] pos) (wBin leD wa wb) := j_cmp op_le sim_cmp ha hb
theorem jc_gt (ha : JE X W a wa) (hb : JE X W b wb) : JE X W (.Compare a [.Gt] [b] pos) (wBin gtD wa wb) := j_cmp op_gt sim_cmp ha hb
theorem jc_ge (ha : JE X W a wa) (hb : JE X W b wb) : JE X W (.Compare a [.GtE] [b] pos) (wBin geD wa wb) := j_cmp op_ge sim_cmp ha hb
theorem jc_eq (hr : Room k X.A) (ha : JE X W a wa) (hb : JE X W b wb) : JE X W (.Compare a [.Eq] [b] pos) (wBin eqD wa wb) := j_cmp (OpR_or op_eq (op_eqD hr.units)) sim_eq ha hb
theorem jc_ne (hr : Room k X.A) (ha : JE X W a wa) (hb : JE X W b wb) : JE X W (.Compare a [.NotEq] [b] pos) (wBin neD wa wb) := j_cmp (OpR_or op_ne (op_neD hr.units)) sim_ne ha hb
theorem jc_in (ha : JE X W a wa) (hb : JE X W b wb) (hm : behindInMarks .In b = false := by rfl) : JE X W (.Compare a [.In] [b] pos) (wBin (inD false) wa wb) := j_cmp op_inA sim_in ha hb hm
theorem jc_nin (ha : JE X W a wa) (hb : JE X W b wb) (hm : behindInMarks .NotIn b = false := by rfl) : JE X W (.Compare a [.NotIn] [b] pos) (wBin (inD true) wa wb) := j_cmp op_notInA sim_in ha hb hm
theorem jt_lt (ha : JE X W a wa) (hb : JE X W b wb) : JT X W (.Compare a [.Lt] [b] pos) (wBinT ltD wa wb) := j_cmpT op_lt sim_cmp ha hb
theorem jt_le (ha : JE X W a wa) (hb : JE X W b wb) : JT X W (.Compare a [.LtE] [b] pos) (wBinT leD wa wb) := j_cmpT op_le sim_cmp ha hb
theorem jt_gt (ha : JE X W a wa) (hb : JE X W b wb) : JT X W (.Compare a [.Gt] [b] pos) (wBinT gtD wa wb) := j_cmpT op_gt sim_cmp ha hb
theorem jt_ge (ha : JE X W a wa) (hb : JE X W b wb) : JT X W (.Compare a [.GtE] [b] pos) (wBinT geD wa wb) := j_cmpT op_ge sim_cmp ha hb
theorem jt_eq (hr : Room k X.A) (ha : JE X W a wa) (hb : JE X W b wb) : JT X W (.Compare a [.Eq] [b] pos) (wBinT eqD wa wb) := j_cmpT (OpR_or op_eq (op_eqD hr.units)) sim_eq ha hb
theorem jt_ne (hr : Room k X.A) (ha : JE X W a wa) (hb : JE X W b wb) : JT X W (.Compare a [.NotEq] [b] pos) (wBinT neD wa wb) := j_cmpT (OpR_or op_ne (op_neD hr.units)) sim_ne ha hb
theorem jt_in (ha : JE X W a wa) (hb : JE X W b wb) (hm : behindInMarks .In b = false := by rfl) : JT X W (.Compare a [.In] [b] pos) (wBinT (inD false) wa wb) := j_cmpT op_inA sim_in ha hb hm
theorem jt_nin (ha : JE X W a wa) (hb : JE X W b wb) (hm : behindInMarks .NotIn b = false := by rfl) : JT X W (.Compare a [.NotIn] [b] pos) (wBinT (inD true) wa wb) := j_cmpT op_notInA sim_in ha hb hm
theorem jt_isN {j p2} (ha : JE X W a wa) : JT X W (.Compare a [.Is] [.Constant .none j p2] pos) (wNoneT false wa) := by
  refine (pt_cmp (pc_isN ha)).weak ?_
  rintro sg H Q ⟨ep, st, R, Rx, he, hs, hw, hq, hx⟩
  refine ⟨ep, st, _, Rx, he, hs, hw, fun v H' d st' k s r h => ?_, hx⟩
  refine ⟨_, rfl, ?_⟩
  rw [non_dec r]
  exact hq _ _ _ k s h
theorem jt_notN {j p2} (ha : JE X W a wa) : JT X W (.Compare a [.IsNot] [.Constant .none j p2] pos) (wNoneT true wa) := by
  refine (pt_cmp (pc_notN ha)).weak ?_
  rintro sg H Q ⟨ep, st, R, Rx, he, hs, hw, hq, hx⟩
  refine ⟨ep, st, _, Rx, he, hs, hw, fun v H' d st' k s r h => ?_, hx⟩
  refine ⟨_, rfl, ?_⟩
  rw [non_dec r]
  exact hq _ _ _ k s h
end
end DL

/-! Steps of a reading, from the left. -/
namespace DL
open PySem PySem.Spec PyProof.Rows L2
section
variable {E : Ed} {ep : DE} {st : DS} {R : RD} {Rx : RX} {i j k : Nat} {a b c : WS} {wa wb wc : WE} {ta tb : WT} {as : WA} {A B : Unit → Prop} {f : F2} {d x y : D} {RA : List D → DS → Prop} {RT : Bool → DS → Prop}
theorem s_seq (h : a { nx := fun ep' st' => b E ep' st', rt := E.rt, bk := E.bk, ct := E.ct, ex := E.ex } ep st) : wSeq a b E ep st := h
theorem s_seqM {nx rt bk ct ex} (h : a { nx := fun ep' st' => b { nx := nx, rt := rt, bk := bk, ct := ct, ex := ex } ep' st', rt := rt, bk := bk, ct := ct, ex := ex } ep st) : wSeq a b { nx := nx, rt := rt, bk := bk, ct := ct, ex := ex } ep st := h
theorem s_asB {b : Bool} {q : Bool → Prop} (h : q b) : asB (.bl b) q := h
theorem s_asI {b : Int} {q : Int → Prop} (h : q b) : asI (.int b) q := h
theorem s_asRI {p : Addr} {z : Int} {q : Addr → Int → Prop} (h : q p z) : asRI (.ref p) (.int z) q := h
theorem s_next (h : E.nx ep st) : wNext E ep st := h
theorem s_nextM {nx rt bk ct ex} (h : nx ep st) : wNext { nx := nx, rt := rt, bk := bk, ct := ct, ex := ex } ep st := h
theorem s_set {nx rt bk ct ex} (h : wa ep st (fun d st' => nx (ep.set i (some d)) st') (fun x st' => ex x ep st')) : wSet i wa { nx := nx, rt := rt, bk := bk, ct := ct, ex := ex } ep st := h
theorem s_drop {nx rt bk ct ex} (h : wa ep st (fun _ st' => nx ep st') (fun x st' => ex x ep st')) : wDrop wa { nx := nx, rt := rt, bk := bk, ct := ct, ex := ex } ep st := h
theorem s_ret {nx rt bk ct ex} (h : wa ep st (fun d st' => rt d st') (fun x st' => ex x ep st')) : wRet wa { nx := nx, rt := rt, bk := bk, ct := ct, ex := ex } ep st := h
theorem s_retN {nx rt bk ct ex} (h : rt .non st) : wRetN { nx := nx, rt := rt, bk := bk, ct := ct, ex := ex } ep st := h
theorem s_brk {nx rt bk ct ex} (h : bk ep st) : wBrk { nx := nx, rt := rt, bk := bk, ct := ct, ex := ex } ep st := h
theorem s_cnt {nx rt bk ct ex} (h : ct ep st) : wCnt { nx := nx, rt := rt, bk := bk, ct := ct, ex := ex } ep st := h
theorem s_if {nx rt bk ct ex} (h : ta ep st (fun t st' => cnd t (fun _ => a { nx := nx, rt := rt, bk := bk, ct := ct, ex := ex } ep st') (fun _ => b { nx := nx, rt := rt, bk := bk, ct := ct, ex := ex } ep st')) (fun x st' => ex x ep st')) : wIf ta a b { nx := nx, rt := rt, bk := bk, ct := ct, ex := ex } ep st := h
theorem s_par {nx rt bk ct ex} (h : wa ep st (fun x st1 => wb ep st1 (fun y st2 => nx ((ep.set i (some x)).set j (some y)) st2) (fun x st' => ex x ep st')) (fun x st' => ex x ep st')) : wPar i j wa wb { nx := nx, rt := rt, bk := bk, ct := ct, ex := ex } ep st := h
theorem s_asg {g : DG} {nx rt bk ct ex} (h : wa ep st (fun d st' => g d ep st' nx) (fun x st' => ex x ep st')) : wAsg wa g { nx := nx, rt := rt, bk := bk, ct := ct, ex := ex } ep st := h
theorem s_for {wi : WI} {g : DG} {nx rt bk ct ex} (h : wi ep st (fun items G st' => forL g b G { nx := nx, rt := rt, bk := bk, ct := ct, ex := ex } items ep st') (fun x st' => ex x ep st')) : wFor wi g b { nx := nx, rt := rt, bk := bk, ct := ct, ex := ex } ep st := h
theorem s_aug {v : D} {nx rt bk ct ex} (e : lk ep i = some v) (h : wa ep st (fun y st1 => f v y st1 (fun z st2 => nx (ep.set i (some z)) st2)) (fun x st' => ex x ep st')) : wAug i f wa { nx := nx, rt := rt, bk := bk, ct := ct, ex := ex } ep st := by
  unfold wAug; rw [e]; exact h
theorem s_augix {nx rt bk ct ex} (h : wa ep st (fun o st1 => wb ep st1 (fun i st2 => asRI o i fun a z => 0 ≤ z ∧ getL st2 a fun ds => optP (atI ds z) fun x => wc ep st2 (fun y st3 => f x y st3 (fun v st4 => setD (.ref a) (.int z) v st4 (fun st5 => nx ep st5))) (fun x st' => ex x ep st')) (fun x st' => ex x ep st')) (fun x st' => ex x ep st')) : wAugIx f wa wb wc { nx := nx, rt := rt, bk := bk, ct := ct, ex := ex } ep st := h
theorem s_gN {kk : DE → DS → Prop} (h : kk (ep.set i (some d)) st) : gN i d ep st kk := h
theorem s_gT {n : Nat} {u : DGs} {ds : List D} {kk : DE → DS → Prop} (e : ds.length = n) (h : u ds ep st kk) : gT n u (.tup ds) ep st kk := ⟨e, h⟩
theorem s_gsC {g : DG} {u : DGs} {ds : List D} {kk : DE → DS → Prop} (h : g d ep st (fun ep' st' => u ds ep' st' kk)) : gsCons g u (d :: ds) ep st kk := h
theorem s_gsN {kk : DE → DS → Prop} (h : kk ep st) : gsNil [] ep st kk := h
theorem s_gIx {ff : D → D → D → DS → (DS → Prop) → Prop} {kk : DE → DS → Prop} (h : wa ep st (fun o st1 => wb ep st1 (fun i st2 => ff o i d st2 (fun st3 => kk ep st3)) (fun _ _ => False)) (fun _ _ => False)) : gIx ff wa wb d ep st kk := h
theorem s_setD {z : Int} {p : Addr} {q : DS → Prop} (h : getL st p fun ds => optP (ixN ds.length z) fun j => q (put st p (.lst (ds.set j d)))) : setD (.ref p) (.int z) d st q := h
-- expressions
theorem s_var (e : lk ep i = some d) (h : R d st) : wVar i ep st R Rx := by unfold wVar; rw [e]; exact h
theorem s_c (h : R d st) : wC d ep st R Rx := h
theorem s_bin (h : wa ep st (fun x st1 => wb ep st1 (fun y st2 => f x y st2 R) Rx) Rx) : wBin f wa wb ep st R Rx := h
theorem s_binT (h : wa ep st (fun x st1 => wb ep st1 (fun y st2 => f x y st2 (fun d st' => asB d fun b => RT b st')) Rx) Rx) : wBinT f wa wb ep st RT Rx := h
theorem s_cb {ff : FC} (h : as ep st (fun ds st' => ff ds st' R) Rx) : wCB ff as ep st R Rx := h
theorem s_call {S : SpD} (h : as ep st (fun ds st' => S ds st' R Rx) Rx) : wCall S as ep st R Rx := h
theorem s_acons (h : wa ep st (fun d st1 => as ep st1 (fun ds st2 => RA (d :: ds) st2) Rx) Rx) : wACons wa as ep st RA Rx := h
theorem s_anil (h : RA [] st) : wANil ep st RA Rx := h
theorem s_tup (h : as ep st (fun ds st' => R (.tup ds) st') Rx) : wTup as ep st R Rx := h
theorem s_lst (h : as ep st (fun ds st' => ∀ p, st' p = none → R (.ref p) (put st' p (.lst ds))) Rx) : wLst as ep st R Rx := h
theorem s_b (h : wa ep st (fun d st' => asB d fun b => RT b st') Rx) : wB wa ep st RT Rx := h
theorem s_and (h : ta ep st (fun c st' => cnd c (fun _ => tb ep st' RT Rx) (fun _ => RT false st')) Rx) : wAnd ta tb ep st RT Rx := h
theorem s_or (h : ta ep st (fun c st' => cnd c (fun _ => RT true st') (fun _ => tb ep st' RT Rx)) Rx) : wOr ta tb ep st RT Rx := h
theorem s_not (h : ta ep st (fun c st' => RT (!c) st') Rx) : wNot ta ep st RT Rx := h
theorem s_ife (h : ta ep st (fun t st' => cnd t (fun _ => wa ep st' R Rx) (fun _ => wb ep st' R Rx)) Rx) : wIfE ta wa wb ep st R Rx := h
theorem s_neg (h : wa ep st (fun d st' => asI d fun i => R (.int (-i)) st') Rx) : wNeg wa ep st R Rx := h
theorem s_notV (h : wa ep st (fun d st' => asB d fun c => R (.bl (!c)) st') Rx) : wNotV wa ep st R Rx := h
theorem s_andV (h : wB wa ep st (fun c st' => cnd c (fun _ => wb ep st' R Rx) (fun _ => R (.bl false) st')) Rx) : wAndV wa wb ep st R Rx := h
theorem s_orV (h : wB wa ep st (fun c st' => cnd c (fun _ => R (.bl true) st') (fun _ => wb ep st' R Rx)) Rx) : wOrV wa wb ep st R Rx := h
theorem s_none {neg : Bool} (h : wa ep st (fun d st' => R (.bl (if neg = true then !d.isNon else d.isNon)) st') Rx) : wNone neg wa ep st R Rx := h
theorem s_noneT {neg : Bool} (h : wa ep st (fun d st' => RT (if neg = true then !d.isNon else d.isNon) st') Rx) : wNoneT neg wa ep st RT Rx := h
theorem s_isi {T : Ty5} (h : wa ep st (fun d st' => lstOk d st' ∧ R (.bl (isTy T d)) st') Rx) : wIsi T wa ep st R Rx := h
theorem s_m {ff : FM} (h : wa ep st (fun o st1 => isLst o st1 ∧ as ep st1 (fun ds st2 => ff o ds st2 R) Rx) Rx) : wM ff wa as ep st R Rx := h
theorem s_sl {wl wh : WO} (h : wa ep st (fun x st1 => wl ep st1 (fun lo st2 => wh ep st2 (fun hi st3 => slD x lo hi st3 R) Rx) Rx) Rx) : wSl wa wl wh ep st R Rx := h
theorem s_oN {RO : Option Int → DS → Prop} (h : RO none st) : wONone ep st RO Rx := h
theorem s_oS {RO : Option Int → DS → Prop} (h : wa ep st (fun d st' => asI d fun i => RO (some i) st') Rx) : wOSome wa ep st RO Rx := h
theorem s_lc {wi : WI} {bind : D → DE → (DE → Prop) → Prop} {vs : List Nat} (h : wi ep st (fun items G st' => lcL bind (wipeD ep vs) ta wa G (fun acc st2 => ∀ p, st2 p = none → R (.ref p) (put st2 p (.lst acc))) items [] st') Rx) : wLc wi bind vs ta wa ep st R Rx := h
theorem s_it {RR : List D → (DS → Prop) → DS → Prop} (h : wa ep st (fun d st' => itemsD d st' RR) Rx) : wIt wa ep st RR Rx := h
theorem s_rng {RR : List D → (DS → Prop) → DS → Prop} (h : as ep st (fun ds st' => rngD ds st' RR) Rx) : wRng as ep st RR Rx := h
theorem s_yes (h : RT true st) : wYes ep st RT Rx := h
-- decisions
theorem s_cT (h : A ()) : cnd true A B := by rw [cnd_true]; exact h
theorem s_cF (h : B ()) : cnd false A B := by rw [cnd_false]; exact h
theorem s_dec {p : Prop} [Decidable p] (h1 : p → A ()) (h2 : ¬ p → B ()) : cnd (decide p) A B := ⟨fun e => h1 (of_decide_eq_true e), fun e => h2 (of_decide_eq_false e)⟩
theorem s_ndec {p : Prop} [Decidable p] (h1 : ¬ p → A ()) (h2 : p → B ()) : cnd (!decide p) A B := by
  rw [cnd_not]; exact s_dec h2 h1
theorem s_yesP {p : Prop} [Decidable p] (e : p) (h : A ()) : cnd (decide p) A B := by rw [decide_eq_true e]; exact s_cT h
theorem s_noP {p : Prop} [Decidable p] (e : ¬ p) (h : B ()) : cnd (decide p) A B := by rw [decide_eq_false e]; exact s_cF h
theorem s_nyesP {p : Prop} [Decidable p] (e : ¬ p) (h : A ()) : cnd (!decide p) A B := by rw [decide_eq_false e]; exact s_cT h
theorem s_nnoP {p : Prop} [Decidable p] (e : p) (h : B ()) : cnd (!decide p) A B := by rw [decide_eq_true e]; exact s_cF h
theorem s_b2 {t : Bool} (h1 : t = true → A ()) (h2 : t = false → B ()) : cnd t A B := ⟨h1, h2⟩
-- look-ups
theorem s_getL {p : Addr} {q : List D → Prop} {ds : List D} (e : st p = some (.lst ds)) (h : q ds) : getL st p q := by rw [getL_eq e]; exact h
theorem s_opt {α : Type} {o : Option α} {z : α} {q : α → Prop} (e : o = some z) (h : q z) : optP o q := by rw [e]; exact h
theorem look_ne {p q : Addr} {o : OB} {z : Option OB} (n : q ≠ p) (e : st q = z) : put st p o q = z := by rw [put_ne n]; exact e
theorem look_new {p q : Addr} {o u : OB} (n : st p = none) (e : st q = some u) : put st p o q = some u := by
  rw [put_ne (fun z => by rw [z, n] at e; cases e)]; exact e
theorem ne_new {p q : Addr} {u : OB} (n : st p = none) (e : st q = some u) : q ≠ p := fun z => by rw [z, n] at e; cases e
-- operations
theorem s_addI {m n : Int} (h : R (.int (m + n)) st) : addD (.int m) (.int n) st R := h
theorem s_addT {m n : List D} (e : m.length + n.length ≤ sizeLine) (h : R (.tup (m ++ n)) st) : addD (.tup m) (.tup n) st R := ⟨e, h⟩
theorem s_addS {m n : Str} (e : m.length + n.length ≤ sizeLine) (h : R (.str (m ++ n)) st) : addD (.str m) (.str n) st R := ⟨e, h⟩
theorem s_subI {m n : Int} (h : R (.int (m - n)) st) : subD (.int m) (.int n) st R := h
theorem s_mulI {m n : Int} (e : MulOk m n) (h : R (.int (m * n)) st) : mulD (.int m) (.int n) st R := ⟨e, h⟩
theorem s_divI {m n : Int} (e : 0 < n ∧ n.natAbs.log2 < 9000) (h : R (.int (m / n)) st) : divD (.int m) (.int n) st R := ⟨e, h⟩
theorem s_modI {m n : Int} (e : 0 < n) (h : R (.int (m % n)) st) : modD (.int m) (.int n) st R := ⟨e, h⟩
theorem s_powI {m n : Int} (e : CPow m n) (h : R (.int (m ^ n.toNat)) st) : powD (.int m) (.int n) st R := ⟨e, h⟩
theorem s_shlI {m n : Int} (e : CPow m n) (h : R (.int (m * 2 ^ n.toNat)) st) : shlD (.int m) (.int n) st R := ⟨e, h⟩
theorem s_iaddI {m n : Int} (h : R (.int (m + n)) st) : iaddD (.int m) (.int n) st R := h
theorem s_iaddS {m n : Str} (e : m.length + n.length ≤ sizeLine) (h : R (.str (m ++ n)) st) : iaddD (.str m) (.str n) st R := ⟨e, h⟩
theorem s_eqI {m n : Int} (h : R (.bl (decide (m = n))) st) : eqD (.int m) (.int n) st R := h
theorem s_neI {m n : Int} (h : R (.bl (!decide (m = n))) st) : neD (.int m) (.int n) st R := h
theorem s_eqS {m n : Str} (h : R (.bl (decide (m = n))) st) : eqD (.str m) (.str n) st R := h
theorem s_neS {m n : Str} (h : R (.bl (!decide (m = n))) st) : neD (.str m) (.str n) st R := h
theorem s_eqB {m n : Bool} (h : R (.bl (decide (m = n))) st) : eqD (.bl m) (.bl n) st R := h
theorem s_neB {m n : Bool} (h : R (.bl (!decide (m = n))) st) : neD (.bl m) (.bl n) st R := h
theorem s_cmp {p : Int → Int → Bool} {m n : Int} (h : R (.bl (p m n)) st) : cmpD p (.int m) (.int n) st R := h
theorem s_ixT {ds : List D} {z : Int} (h : optP (atI ds z) fun d => R d st) : ixD (.tup ds) (.int z) st R := h
theorem s_ixS {ds : List D} {z : Int} (h : optP (atI ds z) fun d => R d st) : ixD (.scr ds) (.int z) st R := h
theorem s_ixL {p : Addr} {z : Int} (h : getL st p fun ds => optP (atI ds z) fun d => R d st) : ixD (.ref p) (.int z) st R := h
theorem s_ixX {s : Str} {z : Int} (e : s.length ≤ sizeLine) (h : optP (atI s.cps.toList z) fun c => R (.str ⟨#[c]⟩) st) : ixD (.str s) (.int z) st R := ⟨e, h⟩
theorem s_lenT {ds : List D} (h : R (.int ds.length) st) : lenD [.tup ds] st R := h
theorem s_lenC {ds : List D} (h : R (.int ds.length) st) : lenD [.scr ds] st R := h
theorem s_lenL {p : Addr} (h : getL st p fun es => R (.int es.length) st) : lenD [.ref p] st R := h
theorem s_lenS {s : Str} (e : s.length ≤ sizeLine) (h : R (.int s.length) st) : lenD [.str s] st R := ⟨e, h⟩
theorem s_abs {m : Int} (h : R (.int (if m < 0 then -m else m)) st) : absD [.int m] st R := h
theorem s_intI {m : Int} (h : R (.int m) st) : intD [.int m] st R := h
theorem s_intB {m : Bool} (h : R (.int (if m = true then 1 else 0)) st) : intD [.bl m] st R := h
theorem s_gcd {m n : Int} (h : R (.int ((Nat.gcd m.natAbs n.natAbs : Nat) : Int)) st) : gcdD [.int m, .int n] st R := h
theorem s_listT {ds : List D} (h : ∀ p, st p = none → R (.ref p) (put st p (.lst ds))) : listD [.tup ds] st R := h
theorem s_listL {p : Addr} (h : getL st p fun es => ∀ p, st p = none → R (.ref p) (put st p (.lst es))) : listD [.ref p] st R := h
theorem s_tupT {ds : List D} (h : R (.tup ds) st) : tupleD [.tup ds] st R := h
theorem s_tupL {p : Addr} (h : getL st p fun es => R (.tup es) st) : tupleD [.ref p] st R := h
theorem s_all {p : Addr} (h : getL st p fun es => optP (boolsOf es) fun bs => R (.bl (bs.all fun b => b)) st) : allD [.ref p] st R := h
theorem s_any {p : Addr} (h : getL st p fun es => optP (boolsOf es) fun bs => R (.bl (bs.any fun b => b)) st) : anyD [.ref p] st R := h
theorem s_sum {p : Addr} (h : getL st p fun es => optP (intsOf es) fun ns => R (.int ns.sum) st) : sumD [.ref p] st R := h
theorem s_inL {neg : Bool} {v : D} {p : Addr} (h : getL st p fun ds => v.flat = true ∧ ds.all D.flat = true ∧ R (.bl (if neg = true then !(ds.any fun d => D.feq d v) else ds.any fun d => D.feq d v)) st) : inD neg v (.ref p) st R := h
theorem s_inT {neg : Bool} {v : D} {ds : List D} (h : v.flat = true ∧ ds.all D.flat = true ∧ R (.bl (if neg = true then !(ds.any fun d => D.feq d v) else ds.any fun d => D.feq d v)) st) : inD neg v (.tup ds) st R := h
theorem s_append {p : Addr} (h : getL st p fun es => es.length < sizeLine ∧ R .non (put st p (.lst (es ++ [d])))) : appendD (.ref p) [d] st R := h
theorem s_extend {p q : Addr} (h : getL st p fun es => getL st q fun fs => es.length + fs.length ≤ sizeLine ∧ R .non (put st p (.lst (es ++ fs)))) : extendD (.ref p) [.ref q] st R := h
theorem s_popAt {p : Addr} {z : Int} (h : getL st p fun es => (-(2 ^ 63) ≤ z ∧ z < 2 ^ 63) ∧ optP (ixN es.length z) fun k => optP es[k]? fun d => R d (put st p (.lst (es.eraseIdx k)))) : popD (.ref p) [.int z] st R := h
theorem s_pop {p : Addr} (h : getL st p fun es => optP es[es.length - 1]? fun d => R d (put st p (.lst es.dropLast))) : popD (.ref p) [] st R := h
theorem s_slT {ds : List D} {lo hi : Option Int} (h : R (.tup (cutD ds lo hi)) st) : slD (.tup ds) lo hi st R := h
theorem s_slL {p : Addr} {lo hi : Option Int} (h : getL st p fun ds => ∀ p, st p = none → R (.ref p) (put st p (.lst (cutD ds lo hi)))) : slD (.ref p) lo hi st R := h
theorem s_itT {ds : List D} {RR : List D → (DS → Prop) → DS → Prop} (h : RR ds (fun _ => True) st) : itemsD (.tup ds) st RR := h
theorem s_itC {ds : List D} {RR : List D → (DS → Prop) → DS → Prop} (h : RR ds (fun _ => True) st) : itemsD (.scr ds) st RR := h
theorem s_itL {p : Addr} {RR : List D → (DS → Prop) → DS → Prop} (h : getL st p fun ds => RR ds (fun s => s p = some (.lst ds)) st) : itemsD (.ref p) st RR := h
theorem s_rng1 {z : Int} {RR : List D → (DS → Prop) → DS → Prop} (e : -(2 ^ 62) ≤ z ∧ z < 2 ^ 62) (h : RR ((List.range z.toNat).map fun i : Nat => D.int (0 + i)) (fun _ => True) st) : rngD [.int z] st RR := ⟨e, h⟩
theorem s_rng2 {y z : Int} {RR : List D → (DS → Prop) → DS → Prop} (e : -(2 ^ 62) ≤ y ∧ y < 2 ^ 62 ∧ -(2 ^ 62) ≤ z ∧ z < 2 ^ 62) (h : RR ((List.range (z - y).toNat).map fun i : Nat => D.int (y + i)) (fun _ => True) st) : rngD [.int y, .int z] st RR := ⟨e, h⟩
theorem s_rngD {y z : Int} {RR : List D → (DS → Prop) → DS → Prop} (e : -(2 ^ 62) ≤ y ∧ y < 2 ^ 62 ∧ -(2 ^ 62) ≤ z ∧ z < 2 ^ 62) (h : RR ((List.range (y - z).toNat).map fun i : Nat => D.int (y + i * (-1))) (fun _ => True) st) : rngD [.int y, .int z, .int (-1)] st RR :=
  ⟨_, RgC.neg e.1 e.2.1 e.2.2.1 e.2.2.2, h⟩
/-- the end of a def's body -/
theorem s_end {R : RD} (h : R d st) : ∃ s2, Sub s2 st ∧ R d s2 := ⟨st, .refl _, h⟩
theorem s_endS {R : RD} {s2 : DS} (e : Sub s2 st) (h : R d s2) : ∃ s2, Sub s2 st ∧ R d s2 := ⟨s2, e, h⟩
end
end DL

/-! Loops and comprehensions, by induction. -/
namespace DL
open PySem L2
section
variable {g : DG} {b : WS} {G : DS → Prop} {E : Ed} {ep : DE} {st : DS} {d : D} {r items : List D}
theorem for_nil (hG : G st) (h : E.nx ep st) : forL g b G E [] ep st := ⟨hG, h⟩
theorem for_cons {nx rt bk ct ex} (hG : G st) (h : g d ep st (fun ep' st' => b { nx := forL g b G { nx := nx, rt := rt, bk := bk, ct := ct, ex := ex } r, rt := rt, bk := nx, ct := forL g b G { nx := nx, rt := rt, bk := bk, ct := ct, ex := ex } r, ex := ex } ep' st')) : forL g b G { nx := nx, rt := rt, bk := bk, ct := ct, ex := ex } (d :: r) ep st := ⟨hG, h⟩
/-- a loop by an invariant over what is left -/
theorem for_ind {nx rt bk ct ex} (I : List D → DE → DS → Prop) (h0 : ∀ ep st, I [] ep st → G st ∧ nx ep st)
    (hs : ∀ d r ep st, I (d :: r) ep st → (∀ ep' st', I r ep' st' → forL g b G { nx := nx, rt := rt, bk := bk, ct := ct, ex := ex } r ep' st') → G st ∧ g d ep st (fun ep' st' => b { nx := forL g b G { nx := nx, rt := rt, bk := bk, ct := ct, ex := ex } r, rt := rt, bk := nx, ct := forL g b G { nx := nx, rt := rt, bk := bk, ct := ct, ex := ex } r, ex := ex } ep' st')) :
    ∀ items ep st, I items ep st → forL g b G { nx := nx, rt := rt, bk := bk, ct := ct, ex := ex } items ep st := by
  intro items
  induction items with
  | nil => exact fun ep st i => h0 ep st i
  | cons d r ih => exact fun ep st i => hs d r ep st i ih
end
section
variable {bind : D → DE → (DE → Prop) → Prop} {ep0 ep : DE} {wt : WT} {we : WE} {G : DS → Prop} {k : List D → DS → Prop} {d : D} {r acc items : List D} {st : DS} {q : DE → Prop} {i : Nat}
theorem lc_nil (hG : G st) (h : k acc st) : lcL bind ep0 wt we G k [] acc st := ⟨hG, h⟩
theorem lc_cons (hG : G st) (h : bind d ep0 fun ep => wt ep st (fun b st2 => cnd b (fun _ => we ep st2 (fun y st3 => acc.length < sizeLine ∧ lcL bind ep0 wt we G k r (acc ++ [y]) st3) (fun _ _ => False)) (fun _ => lcL bind ep0 wt we G k r acc st2)) (fun _ _ => False)) :
    lcL bind ep0 wt we G k (d :: r) acc st := ⟨hG, h⟩
theorem s_bN (h : q (ep.set i (some d))) : bN i d ep q := h
theorem s_bT {is : List Nat} {ds : List D} (h : bTn is ds ep q) : bT is (.tup ds) ep q := h
theorem s_bTC {is : List Nat} {ds : List D} (h : bTn is ds (ep.set i (some d)) q) : bTn (i :: is) (d :: ds) ep q := h
theorem s_bTN (h : q ep) : bTn [] [] ep q := h
/-- a comprehension whose turns leave the store as it is -/
theorem lc_calm (f : D → D) (p : D → Bool) (hG : G st) (hl : acc.length + items.length ≤ sizeLine)
    (hs : ∀ d ∈ items, ∀ (kk : D → DS → Prop) (kn : DS → Prop), (p d = true → kk (f d) st) → (p d = false → kn st) → bind d ep0 fun ep => wt ep st (fun b st2 => cnd b (fun _ => we ep st2 kk (fun _ _ => False)) (fun _ => kn st2)) (fun _ _ => False))
    (h : k (acc ++ (items.filter p).map f) st) : lcL bind ep0 wt we G k items acc st := by
  induction items generalizing acc with
  | nil => exact ⟨hG, by simpa using h⟩
  | cons d r ih =>
    refine ⟨hG, hs d List.mem_cons_self _ _ (fun e => ?_) (fun e => ?_)⟩
    · refine ⟨by simp only [List.length_cons] at hl; omega, ih (by simp only [List.length_cons, List.length_append, List.length_nil] at hl ⊢; omega) (fun d hd => hs d (List.mem_cons_of_mem _ hd)) ?_⟩
      rw [List.filter_cons_of_pos e] at h
      simpa using h
    · refine ih (by simp only [List.length_cons] at hl; omega) (fun d hd => hs d (List.mem_cons_of_mem _ hd)) ?_
      rw [List.filter_cons_of_neg (by rw [e]; decide)] at h
      exact h
/-- a comprehension by an invariant -/
theorem lc_ind (I : List D → List D → DS → Prop) (h0 : ∀ acc st, I [] acc st → G st ∧ k acc st)
    (hs : ∀ d r acc st, I (d :: r) acc st → (∀ acc' st', I r acc' st' → lcL bind ep0 wt we G k r acc' st') → G st ∧ bind d ep0 fun ep => wt ep st (fun b st2 => cnd b (fun _ => we ep st2 (fun y st3 => acc.length < sizeLine ∧ lcL bind ep0 wt we G k r (acc ++ [y]) st3) (fun _ _ => False)) (fun _ => lcL bind ep0 wt we G k r acc st2)) (fun _ _ => False)) :
    ∀ items acc st, I items acc st → lcL bind ep0 wt we G k items acc st := by
  intro items
  induction items with
  | nil => exact fun acc st i => h0 acc st i
  | cons d r ih => exact fun acc st i => hs d r acc st i ih
end
theorem s_isLst {p : Addr} {st : DS} {Q : Prop} {ds : List D} (e : st p = some (.lst ds)) (h : Q) : isLst (.ref p) st ∧ Q := ⟨by unfold isLst; exact s_getL e trivial, h⟩
theorem s_lstOkL {p : Addr} {st : DS} {Q : Prop} {ds : List D} (e : st p = some (.lst ds)) (h : Q) : lstOk (.ref p) st ∧ Q := ⟨by unfold lstOk; exact s_getL e trivial, h⟩
end DL

/-! The law's own start. -/
namespace DL
open PySem PySem.Spec PyProof.Rows L2
theorem sqF_of {K : PySem.W.Frag} {H : Hp} {a : Addr} {vs : List V} (hO : Only H) (hS : SqL K H a vs) : SqF K H a vs := by
  rcases hS with (h | h) | h
  · rcases hO a with z | ⟨o, xs, z⟩
    · rw [h] at z; cases z
    · rw [h] at z; cases z
  · exact .inl h
  · exact .inr h
theorem reps_ints {K : PySem.W.Frag} {H : Hp} : ∀ ns : List Int, Reps K H (ns.map D.int) (ns.map V.int)
  | [] => Reps_nil.mpr rfl
  | n :: ns => Reps_cons.mpr ⟨_, _, rfl, Rep_int.mpr rfl, reps_ints ns⟩
theorem law_start {K : PySem.W.Frag} {H : Hp} {a : Addr} {ns : List Int} {S : SpD} (hO : Only H) (hS : SqL K H a (ns.map V.int)) (h : S [.scr (ns.map D.int)] (fun _ => none) (fun d _ => d = .bl true) (fun _ _ => False)) :
    spOf K S [.ref a] H (fun v _ => v = .bl true) fun _ _ _ => False := by
  refine ⟨[.scr (ns.map D.int)], fun _ => none, _, _, Reps_cons.mpr ⟨_, _, rfl, Rep_scr.mpr ⟨a, _, rfl, sqF_of hO hS, reps_ints ns⟩, Reps_nil.mpr rfl⟩, fun _ _ e => (by cases e), h, ?_, fun _ _ _ _ _ _ _ _ z => z.elim⟩
  rintro v H' d st' - - r rfl
  exact Rep_bl.mp r
theorem no_cx {P : Program} {w : World} {H : Hp} {s : Shared} {e : Value} {s' : Shared} (h : L2.CX P w [] H s (fun _ _ _ => False) e s') : False := by
  obtain ⟨_, _, _, _, _, -, -, -, -, -, -, -, z⟩ := h
  exact z
end DL

namespace DL
namespace C
open PySem L2
/-- _law_draw(d, many): slots 0=d 1=many 2=found 3=size 4=cell -/
def wb_law_draw : WS :=
    (wSeq (wIf (wBinT gtD (wBin ixD (wVar 0) (wC (.int 2))) (wC (.int 0))) (wSeq (wSet 2 (wBin ixD (wVar 0) (wC (.int 2))))
    (wSeq (wAsg (wBin divD (wVar 2) (wVar 1)) (gIx setD (wVar 0) (wC (.int 2))))
    (wRet (wBin modD (wCB intD (wACons (wVar 2) wANil)) (wVar 1))))) wNext)
    (wSeq (wSet 3 (wC (.int 0)))
    (wSeq (wIf (wBinT ltD (wBin ixD (wVar 0) (wC (.int 1))) (wCB lenD (wACons (wBin ixD (wVar 0) (wC (.int 0))) wANil))) (wSeq (wSet 4 (wBin ixD (wBin ixD (wVar 0) (wC (.int 0))) (wBin ixD (wVar 0) (wC (.int 1)))))
    (wSet 3 (wBin addD (wBin mulD (wC (.int 2)) (wCB absD (wACons (wVar 4) wANil))) (wCB intD (wACons (wBin ltD (wVar 4) (wC (.int 0))) wANil))))) wNext)
    (wSeq (wAugIx iaddD (wVar 0) (wC (.int 1)) (wC (.int 1)))
    (wSeq (wIf (wBinT geD (wVar 3) (wBin mulD (wC (.int 2)) (wBin powD (wC (.int 10)) (wC (.int 18))))) (wSeq (wSet 2 (wBin modD (wCB intD (wACons (wBin divD (wVar 3) (wC (.int 2))) wANil)) (wBin shlD (wC (.int 1)) (wC (.int 6000)))))
    (wSeq (wAsg (wBin divD (wVar 2) (wVar 1)) (gIx setD (wVar 0) (wC (.int 2))))
    (wRet (wBin modD (wCB intD (wACons (wVar 2) wANil)) (wVar 1))))) wNext)
    (wSeq (wAsg (wBin modD (wCB intD (wACons (wBin addD (wBin addD (wBin addD (wBin mulD (wBin ixD (wVar 0) (wC (.int 3))) (wC (.int 48271))) (wBin mulD (wBin modD (wCB intD (wACons (wVar 3) wANil)) (wC (.int 2147483629))) (wC (.int 16807)))) (wBin mulD (wBin ixD (wVar 0) (wC (.int 1))) (wC (.int 69621)))) (wC (.int 11))) wANil)) (wC (.int 2147483647))) (gIx setD (wVar 0) (wC (.int 3))))
    (wRet (wBin modD (wCB intD (wACons (wBin divD (wBin ixD (wVar 0) (wC (.int 3))) (wC (.int 16))) wANil)) (wVar 1)))))))))
/-- _law_gcd(a, b): slots 0=a 1=b -/
def wb_law_gcd : WS :=
    (wSeq (wPar 0 1 (wCB absD (wACons (wVar 0) wANil)) (wCB absD (wACons (wVar 1) wANil)))
    (wSeq (wWhile (wBinT neD (wVar 1) (wC (.int 0))) (wPar 0 1 (wVar 1) (wBin modD (wCB intD (wACons (wVar 0) wANil)) (wVar 1))))
    (wRet (wVar 0))))
/-- _law_frac(n, d): slots 0=n 1=d 2=common -/
def wb_law_frac (sp_law_gcd : SpD) : WS :=
    (wSeq (wIf (wBinT ltD (wVar 1) (wC (.int 0))) (wPar 0 1 (wNeg (wVar 0)) (wNeg (wVar 1))) wNext)
    (wSeq (wSet 2 (wCall sp_law_gcd (wACons (wVar 0) (wACons (wVar 1) wANil))))
    (wRet (wTup (wACons (wBin divD (wVar 0) (wVar 2)) (wACons (wBin divD (wVar 1) (wVar 2)) wANil))))))
/-- _law_above_zero(d, bottom): slots 0=d 1=bottom 2=under -/
def wb_law_above_zero (sp_law_draw : SpD) (sp_law_frac : SpD) : WS :=
    (wSeq (wSet 2 (wBin addD (wC (.int 1)) (wCall sp_law_draw (wACons (wVar 0) (wACons (wVar 1) wANil)))))
    (wRet (wCall sp_law_frac (wACons (wBin addD (wC (.int 1)) (wCall sp_law_draw (wACons (wVar 0) (wACons (wVar 2) wANil)))) (wACons (wVar 2) wANil)))))
/-- _law_is_int(thing): slots 0=thing -/
def wb_law_is_int : WS :=
    (wRet (wAndV (wIsi .int (wVar 0)) (wNotV (wIsi .bool (wVar 0)))))
/-- _law_all_rows(letters, many): slots 0=letters 1=many 2=found 3=k 4=longer 5=row 6=letter -/
def wb_law_all_rows : WS :=
    (wSeq (wSet 2 (wLst (wACons (wTup wANil) wANil)))
    (wSeq (wFor (wRng (wACons (wVar 1) wANil)) (gN 3) (wSeq (wSet 4 (wLst wANil))
    (wSeq (wFor (wIt (wVar 2)) (gN 5) (wDrop (wM extendD (wVar 4) (wACons (wLc (wRng (wACons (wVar 0) wANil)) (bN 6) [6] wYes (wBin addD (wVar 5) (wTup (wACons (wVar 6) wANil)))) wANil))))
    (wSet 2 (wVar 4)))))
    (wRet (wVar 2))))
/-- _law_less(a, b): slots 0=a 1=b -/
def wb_law_less : WS :=
    (wRet (wBin ltD (wBin mulD (wBin ixD (wVar 0) (wC (.int 0))) (wBin ixD (wVar 1) (wC (.int 1)))) (wBin mulD (wBin ixD (wVar 1) (wC (.int 0))) (wBin ixD (wVar 0) (wC (.int 1))))))
/-- _law_over(a, b): slots 0=a 1=b -/
def wb_law_over (sp_law_frac : SpD) : WS :=
    (wRet (wCall sp_law_frac (wACons (wBin mulD (wBin ixD (wVar 0) (wC (.int 0))) (wBin ixD (wVar 1) (wC (.int 1)))) (wACons (wBin mulD (wBin ixD (wVar 0) (wC (.int 1))) (wBin ixD (wVar 1) (wC (.int 0)))) wANil))))
/-- _law_begin(script): slots 0=script 1=cell -/
def wb_law_begin : WS :=
    (wRet (wLst (wACons (wLc (wIt (wVar 0)) (bN 1) [1] wYes (wCB intD (wACons (wVar 1) wANil))) (wACons (wC (.int 0)) (wACons (wC (.int 0)) (wACons (wC (.int 5)) wANil))))))
/-- _law_fraction(d, top, bottom): slots 0=d 1=top 2=bottom -/
def wb_law_fraction (sp_law_frac : SpD) (sp_law_draw : SpD) : WS :=
    (wRet (wCall sp_law_frac (wACons (wCall sp_law_draw (wACons (wVar 0) (wACons (wBin addD (wVar 1) (wC (.int 1))) wANil))) (wACons (wBin addD (wC (.int 1)) (wCall sp_law_draw (wACons (wVar 0) (wACons (wVar 2) wANil)))) wANil))))
/-- _law_times(a, b): slots 0=a 1=b -/
def wb_law_times (sp_law_frac : SpD) : WS :=
    (wRet (wCall sp_law_frac (wACons (wBin mulD (wBin ixD (wVar 0) (wC (.int 0))) (wBin ixD (wVar 1) (wC (.int 0)))) (wACons (wBin mulD (wBin ixD (wVar 0) (wC (.int 1))) (wBin ixD (wVar 1) (wC (.int 1)))) wANil))))
/-- _law_least(row): slots 0=row 1=best 2=one -/
def wb_law_least (sp_law_less : SpD) : WS :=
    (wSeq (wSet 1 (wBin ixD (wVar 0) (wC (.int 0))))
    (wSeq (wFor (wIt (wVar 0)) (gN 2) (wIf (wB (wCall sp_law_less (wACons (wVar 2) (wACons (wVar 1) wANil)))) (wSet 1 (wVar 2)) wNext))
    (wRet (wVar 1))))
/-- fraction(n, d): slots 0=n 1=d 2=common -/
def wb_fraction : WS :=
    (wSeq (wIf (wBinT eqD (wVar 1) (wC (.int 0))) wNever wNext)
    (wSeq (wIf (wBinT ltD (wVar 1) (wC (.int 0))) (wPar 0 1 (wNeg (wVar 0)) (wNeg (wVar 1))) wNext)
    (wSeq (wSet 2 (wCB gcdD (wACons (wVar 0) (wACons (wVar 1) wANil))))
    (wRet (wTup (wACons (wBin divD (wVar 0) (wVar 2)) (wACons (wBin divD (wVar 1) (wVar 2)) wANil)))))))
/-- _law_lot(weights): slots 0=weights 1=whole 2=weight -/
def wb_law_lot (sp_law_frac : SpD) : WS :=
    (wSeq (wSet 1 (wCB sumD (wACons (wVar 0) wANil)))
    (wRet (wCB tupleD (wACons (wLc (wIt (wVar 0)) (bN 2) [2] wYes (wCall sp_law_frac (wACons (wVar 2) (wACons (wVar 1) wANil)))) wANil))))
/-- at_most(a, b): slots 0=a 1=b -/
def wb_at_most : WS :=
    (wRet (wBin leD (wBin mulD (wBin ixD (wVar 0) (wC (.int 0))) (wBin ixD (wVar 1) (wC (.int 1)))) (wBin mulD (wBin ixD (wVar 1) (wC (.int 0))) (wBin ixD (wVar 0) (wC (.int 1))))))
/-- over(a, b): slots 0=a 1=b -/
def wb_over (sp_fraction : SpD) : WS :=
    (wRet (wCall sp_fraction (wACons (wBin mulD (wBin ixD (wVar 0) (wC (.int 0))) (wBin ixD (wVar 1) (wC (.int 1)))) (wACons (wBin mulD (wBin ixD (wVar 0) (wC (.int 1))) (wBin ixD (wVar 1) (wC (.int 0)))) wANil))))
/-- times(a, b): slots 0=a 1=b -/
def wb_times (sp_fraction : SpD) : WS :=
    (wRet (wCall sp_fraction (wACons (wBin mulD (wBin ixD (wVar 0) (wC (.int 0))) (wBin ixD (wVar 1) (wC (.int 0)))) (wACons (wBin mulD (wBin ixD (wVar 0) (wC (.int 1))) (wBin ixD (wVar 1) (wC (.int 1)))) wANil))))
/-- step_up(marks, rate): slots 0=marks 1=rate 2=many 3=count 4=edge 5=found 6=at -/
def wb_step_up (sp_times : SpD) (sp_fraction : SpD) (sp_at_most : SpD) : WS :=
    (wSeq (wSet 2 (wCB lenD (wACons (wVar 0) wANil)))
    (wSeq (wFor (wRng (wACons (wVar 2) (wACons (wC (.int 0)) (wACons (wNeg (wC (.int 1))) wANil)))) (gN 3) (wSeq (wSet 4 (wCall sp_times (wACons (wVar 1) (wACons (wCall sp_fraction (wACons (wVar 3) (wACons (wVar 2) wANil))) wANil))))
    (wSeq (wSet 5 (wCB tupleD (wACons (wLc (wRng (wACons (wVar 2) wANil)) (bN 6) [6] (wB (wCall sp_at_most (wACons (wBin ixD (wVar 0) (wVar 6)) (wACons (wVar 4) wANil)))) (wVar 6)) wANil)))
    (wIf (wBinT geD (wCB lenD (wACons (wVar 5) wANil)) (wVar 3)) (wRet (wVar 5)) wNext))))
    (wRet (wTup wANil))))
end C
end DL

namespace DL
namespace K64
open PySem L2 C
/-- share_names(shown, rate): slots 0=shown 1=rate 2=many 3=count 4=height 5=found 6=at -/
def wb_share_names (sp_over : SpD) (sp_times : SpD) (sp_at_most : SpD) : WS :=
    (wSeq (wSet 2 (wCB lenD (wACons (wVar 0) wANil)))
    (wSeq (wFor (wRng (wACons (wVar 2) (wACons (wC (.int 0)) (wACons (wNeg (wC (.int 1))) wANil)))) (gN 3) (wSeq (wSet 4 (wCall sp_over (wACons (wTup (wACons (wVar 2) (wACons (wC (.int 1)) wANil))) (wACons (wCall sp_times (wACons (wTup (wACons (wVar 3) (wACons (wC (.int 1)) wANil))) (wACons (wVar 1) wANil))) wANil))))
    (wSeq (wSet 5 (wCB tupleD (wACons (wLc (wRng (wACons (wVar 2) wANil)) (bN 6) [6] (wB (wCall sp_at_most (wACons (wVar 4) (wACons (wBin ixD (wVar 0) (wVar 6)) wANil)))) (wVar 6)) wANil)))
    (wIf (wBinT geD (wCB lenD (wACons (wVar 5) wANil)) (wVar 3)) (wRet (wVar 5)) wNext))))
    (wRet (wTup wANil))))
/-- _law_shown(d, many, rate): slots 0=d 1=many 2=rate 3=edge 4=kind -/
def wb_law_shown (sp_law_frac : SpD) (sp_law_draw : SpD) (sp_law_times : SpD) (sp_law_fraction : SpD) : WS :=
    (wSeq (wSet 3 (wCall sp_law_frac (wACons (wBin mulD (wVar 1) (wBin ixD (wVar 2) (wC (.int 1)))) (wACons (wBin mulD (wBin addD (wC (.int 1)) (wCall sp_law_draw (wACons (wVar 0) (wACons (wVar 1) wANil)))) (wBin ixD (wVar 2) (wC (.int 0)))) wANil))))
    (wSeq (wSet 4 (wCall sp_law_draw (wACons (wVar 0) (wACons (wC (.int 9)) wANil))))
    (wSeq (wIf (wBinT eqD (wVar 4) (wC (.int 0))) (wRet (wTup (wACons (wC (.int 0)) (wACons (wC (.int 1)) wANil)))) wNext)
    (wSeq (wIf (wBinT eqD (wVar 4) (wC (.int 1))) (wRet (wCall sp_law_times (wACons (wVar 3) (wACons (wTup (wACons (wC (.int 999)) (wACons (wC (.int 1000)) wANil))) wANil)))) wNext)
    (wSeq (wIf (wBinT eqD (wVar 4) (wC (.int 2))) (wRet (wCall sp_law_times (wACons (wVar 3) (wACons (wTup (wACons (wC (.int 1001)) (wACons (wC (.int 1000)) wANil))) wANil)))) wNext)
    (wSeq (wIf (wBinT eqD (wVar 4) (wC (.int 3))) (wRet (wCall sp_law_fraction (wACons (wVar 0) (wACons (wC (.int 40)) (wACons (wC (.int 7)) wANil))))) wNext)
    (wSeq (wIf (wBinT eqD (wVar 4) (wC (.int 4))) (wRet (wCall sp_law_fraction (wACons (wVar 0) (wACons (wBin powD (wC (.int 10)) (wC (.int 9))) (wACons (wC (.int 1000)) wANil))))) wNext)
    (wRet (wVar 3)))))))))
/-- _law_mark(d, many, rate): slots 0=d 1=many 2=rate 3=edge 4=kind -/
def wb_law_mark (sp_law_frac : SpD) (sp_law_draw : SpD) (sp_law_times : SpD) (sp_law_least : SpD) (sp_law_above_zero : SpD) : WS :=
    (wSeq (wSet 3 (wCall sp_law_frac (wACons (wBin mulD (wBin addD (wC (.int 1)) (wCall sp_law_draw (wACons (wVar 0) (wACons (wVar 1) wANil)))) (wBin ixD (wVar 2) (wC (.int 0)))) (wACons (wBin mulD (wVar 1) (wBin ixD (wVar 2) (wC (.int 1)))) wANil))))
    (wSeq (wSet 4 (wCall sp_law_draw (wACons (wVar 0) (wACons (wC (.int 8)) wANil))))
    (wSeq (wIf (wBinT eqD (wVar 4) (wC (.int 0))) (wRet (wTup (wACons (wC (.int 1)) (wACons (wC (.int 1)) wANil)))) wNext)
    (wSeq (wIf (wBinT eqD (wVar 4) (wC (.int 1))) (wRet (wCall sp_law_times (wACons (wVar 3) (wACons (wTup (wACons (wC (.int 999)) (wACons (wC (.int 1000)) wANil))) wANil)))) wNext)
    (wSeq (wIf (wBinT eqD (wVar 4) (wC (.int 2))) (wRet (wCall sp_law_least (wACons (wLst (wACons (wCall sp_law_times (wACons (wVar 3) (wACons (wTup (wACons (wC (.int 1001)) (wACons (wC (.int 1000)) wANil))) wANil))) (wACons (wTup (wACons (wC (.int 1)) (wACons (wC (.int 1)) wANil))) wANil))) wANil))) wNext)
    (wSeq (wIf (wBinT eqD (wVar 4) (wC (.int 3))) (wRet (wCall sp_law_above_zero (wACons (wVar 0) (wACons (wC (.int 40)) wANil)))) wNext)
    (wRet (wVar 3))))))))
/-- _law_is_backed(shown, members, rate): slots 0=shown 1=members 2=rate 3=at -/
def wb_law_is_backed : WS :=
    (wSeq (wFor (wIt (wVar 1)) (gN 3) (wIf (wBinT ltD (wBin mulD (wBin mulD (wBin ixD (wBin ixD (wVar 0) (wVar 3)) (wC (.int 0))) (wCB lenD (wACons (wVar 1) wANil))) (wBin ixD (wVar 2) (wC (.int 0)))) (wBin mulD (wBin mulD (wCB lenD (wACons (wVar 0) wANil)) (wBin ixD (wBin ixD (wVar 0) (wVar 3)) (wC (.int 1)))) (wBin ixD (wVar 2) (wC (.int 1))))) (wRet (wC (.bl false))) wNext))
    (wRet (wC (.bl true))))
/-- _law_union(shown, rate): slots 0=shown 1=rate 2=many 3=found 4=picks 5=members 6=at -/
def wb_law_union (sp_law_all_rows : SpD) (sp_law_is_backed : SpD) : WS :=
    (wSeq (wSet 2 (wCB lenD (wACons (wVar 0) wANil)))
    (wSeq (wSet 3 (wLst wANil))
    (wSeq (wFor (wIt (wCall sp_law_all_rows (wACons (wC (.int 2)) (wACons (wVar 2) wANil)))) (gN 4) (wSeq (wSet 5 (wLc (wRng (wACons (wVar 2) wANil)) (bN 6) [6] (wBinT eqD (wBin ixD (wVar 4) (wVar 6)) (wC (.int 1))) (wVar 6)))
    (wIf (wB (wCall sp_law_is_backed (wACons (wVar 0) (wACons (wVar 5) (wACons (wVar 1) wANil))))) (wDrop (wM extendD (wVar 3) (wACons (wVar 5) wANil))) wNext)))
    (wRet (wLc (wRng (wACons (wVar 2) wANil)) (bN 6) [6] (wBinT (inD false) (wVar 6) (wVar 3)) (wVar 6))))))
/-- _law_is_row(told, due): slots 0=told 1=due 2=at -/
def wb_law_is_row (sp_law_is_int : SpD) : WS :=
    (wSeq (wIf (wOr (wNot (wB (wIsi .tup (wVar 0)))) (wBinT neD (wCB lenD (wACons (wVar 0) wANil)) (wCB lenD (wACons (wVar 1) wANil)))) (wRet (wC (.bl false))) wNext)
    (wRet (wCB allD (wACons (wLc (wRng (wACons (wCB lenD (wACons (wVar 1) wANil)) wANil)) (bN 2) [2] wYes (wAndV (wCall sp_law_is_int (wACons (wBin ixD (wVar 0) (wVar 2)) wANil)) (wBin eqD (wBin ixD (wVar 0) (wVar 2)) (wBin ixD (wVar 1) (wVar 2))))) wANil))))
/-- _law_lot(d): slots 0=d 1=many 2=most 3=rate 4=at -/
def wb_law_lot (sp_law_draw : SpD) (sp_law_frac : SpD) (sp_law_shown : SpD) : WS :=
    (wSeq (wSet 1 (wBin addD (wC (.int 1)) (wCall sp_law_draw (wACons (wVar 0) (wACons (wC (.int 5)) wANil)))))
    (wSeq (wSet 2 (wIfE (wBinT eqD (wCall sp_law_draw (wACons (wVar 0) (wACons (wC (.int 4)) wANil))) (wC (.int 1))) (wBin powD (wC (.int 10)) (wC (.int 6))) (wC (.int 40))))
    (wSeq (wSet 3 (wCall sp_law_frac (wACons (wBin addD (wC (.int 1)) (wCall sp_law_draw (wACons (wVar 0) (wACons (wC (.int 9)) wANil)))) (wACons (wBin addD (wC (.int 1)) (wCall sp_law_draw (wACons (wVar 0) (wACons (wVar 2) wANil)))) wANil))))
    (wRet (wTup (wACons (wCB tupleD (wACons (wLc (wRng (wACons (wVar 1) wANil)) (bN 4) [4] wYes (wCall sp_law_shown (wACons (wVar 0) (wACons (wVar 1) (wACons (wVar 3) wANil))))) wANil)) (wACons (wVar 3) wANil)))))))
/-- law(script): slots 0=script 1=d 2=one 3=other 4=lot 5=many 6=rate 7=marks 8=shown 9=due 10=at 11=mark -/
def wb_law (sp_law_begin : SpD) (sp_law_lot : SpD) (sp_law_is_row : SpD) (sp_share_names : SpD) (sp_law_union : SpD) (sp_law_draw : SpD) (sp_law_above_zero : SpD) (sp_law_mark : SpD) (sp_law_over : SpD) (sp_step_up : SpD) : WS :=
    (wSeq (wSet 1 (wCall sp_law_begin (wACons (wVar 0) wANil)))
    (wSeq (wSet 2 (wCall sp_law_lot (wACons (wVar 1) wANil)))
    (wSeq (wSet 3 (wCall sp_law_lot (wACons (wVar 1) wANil)))
    (wSeq (wFor (wIt (wLst (wACons (wVar 2) (wACons (wVar 3) (wACons (wVar 2) wANil))))) (gN 4) (wIf (wNot (wB (wCall sp_law_is_row (wACons (wCall sp_share_names (wACons (wBin ixD (wVar 4) (wC (.int 0))) (wACons (wBin ixD (wVar 4) (wC (.int 1))) wANil))) (wACons (wCall sp_law_union (wACons (wBin ixD (wVar 4) (wC (.int 0))) (wACons (wBin ixD (wVar 4) (wC (.int 1))) wANil))) wANil))))) (wRet (wC (.bl false))) wNext))
    (wSeq (wSet 5 (wBin addD (wC (.int 1)) (wCall sp_law_draw (wACons (wVar 1) (wACons (wC (.int 5)) wANil)))))
    (wSeq (wSet 6 (wCall sp_law_above_zero (wACons (wVar 1) (wACons (wC (.int 20)) wANil))))
    (wSeq (wSet 7 (wCB tupleD (wACons (wLc (wRng (wACons (wVar 5) wANil)) (bN 10) [10] wYes (wCall sp_law_mark (wACons (wVar 1) (wACons (wVar 5) (wACons (wVar 6) wANil))))) wANil)))
    (wSeq (wSet 8 (wCB tupleD (wACons (wLc (wIt (wVar 7)) (bN 11) [11] wYes (wCall sp_law_over (wACons (wTup (wACons (wC (.int 1)) (wACons (wC (.int 1)) wANil))) (wACons (wVar 11) wANil)))) wANil)))
    (wSeq (wSet 9 (wCall sp_law_union (wACons (wVar 8) (wACons (wVar 6) wANil))))
    (wSeq (wIf (wNot (wB (wCall sp_law_is_row (wACons (wCall sp_step_up (wACons (wVar 7) (wACons (wVar 6) wANil))) (wACons (wVar 9) wANil))))) (wRet (wC (.bl false))) wNext)
    (wRet (wCall sp_law_is_row (wACons (wCall sp_share_names (wACons (wVar 8) (wACons (wVar 6) wANil))) (wACons (wVar 9) wANil))))))))))))))
end K64
end DL

namespace DL
namespace K64
open PySem PySem.Spec PyProof.Rows L2 C
def topS (i : Nat) : Stmt := PySem.Challenge.pw_carriedstakes_k64_share_names.main.body.getD i (.Pass ⟨0, 0, 0, 0⟩)
abbrev s_fraction : Stmt := topS 5
abbrev s_times : Stmt := topS 6
abbrev s_over : Stmt := topS 7
abbrev s_at_most : Stmt := topS 8
abbrev s_share_names : Stmt := topS 10
abbrev s_step_up : Stmt := topS 12
abbrev s_law_begin : Stmt := topS 14
abbrev s_law_draw : Stmt := topS 15
abbrev s_law_is_int : Stmt := topS 16
abbrev s_law_gcd : Stmt := topS 17
abbrev s_law_frac : Stmt := topS 18
abbrev s_law_times : Stmt := topS 19
abbrev s_law_over : Stmt := topS 20
abbrev s_law_less : Stmt := topS 21
abbrev s_law_least : Stmt := topS 22
abbrev s_law_fraction : Stmt := topS 23
abbrev s_law_all_rows : Stmt := topS 24
abbrev s_law_above_zero : Stmt := topS 25
abbrev s_law_shown : Stmt := topS 26
abbrev s_law_mark : Stmt := topS 27
abbrev s_law_is_backed : Stmt := topS 28
abbrev s_law_union : Stmt := topS 29
abbrev s_law_is_row : Stmt := topS 30
abbrev s_law_lot : Stmt := topS 31
abbrev s_law : Stmt := topS 32
structure Txt (K : PySem.W.Frag) (mg : Str → Option Value) where
  f_fraction : Addr
  fd_fraction : FuncData
  F_fraction : Fun K "fraction" "fraction" s_fraction f_fraction fd_fraction
  m_fraction : mg "fraction" = some (.ref f_fraction)
  b_fraction : Binds K fd_fraction ["n", "d"] []
  f_times : Addr
  fd_times : FuncData
  F_times : Fun K "times" "times" s_times f_times fd_times
  m_times : mg "times" = some (.ref f_times)
  b_times : Binds K fd_times ["a", "b"] []
  f_over : Addr
  fd_over : FuncData
  F_over : Fun K "over" "over" s_over f_over fd_over
  m_over : mg "over" = some (.ref f_over)
  b_over : Binds K fd_over ["a", "b"] []
  f_at_most : Addr
  fd_at_most : FuncData
  F_at_most : Fun K "at_most" "at_most" s_at_most f_at_most fd_at_most
  m_at_most : mg "at_most" = some (.ref f_at_most)
  b_at_most : Binds K fd_at_most ["a", "b"] []
  f_share_names : Addr
  fd_share_names : FuncData
  F_share_names : Fun K "share_names" "share_names" s_share_names f_share_names fd_share_names
  m_share_names : mg "share_names" = some (.ref f_share_names)
  b_share_names : Binds K fd_share_names ["shown", "rate"] []
  f_step_up : Addr
  fd_step_up : FuncData
  F_step_up : Fun K "step_up" "step_up" s_step_up f_step_up fd_step_up
  m_step_up : mg "step_up" = some (.ref f_step_up)
  b_step_up : Binds K fd_step_up ["marks", "rate"] []
  f_law_begin : Addr
  fd_law_begin : FuncData
  F_law_begin : Fun K "_law_begin" "_law_begin" s_law_begin f_law_begin fd_law_begin
  m_law_begin : mg "_law_begin" = some (.ref f_law_begin)
  b_law_begin : Binds K fd_law_begin ["script"] []
  f_law_draw : Addr
  fd_law_draw : FuncData
  F_law_draw : Fun K "_law_draw" "_law_draw" s_law_draw f_law_draw fd_law_draw
  m_law_draw : mg "_law_draw" = some (.ref f_law_draw)
  b_law_draw : Binds K fd_law_draw ["d", "many"] []
  f_law_is_int : Addr
  fd_law_is_int : FuncData
  F_law_is_int : Fun K "_law_is_int" "_law_is_int" s_law_is_int f_law_is_int fd_law_is_int
  m_law_is_int : mg "_law_is_int" = some (.ref f_law_is_int)
  b_law_is_int : Binds K fd_law_is_int ["thing"] []
  f_law_gcd : Addr
  fd_law_gcd : FuncData
  F_law_gcd : Fun K "_law_gcd" "_law_gcd" s_law_gcd f_law_gcd fd_law_gcd
  m_law_gcd : mg "_law_gcd" = some (.ref f_law_gcd)
  b_law_gcd : Binds K fd_law_gcd ["a", "b"] []
  f_law_frac : Addr
  fd_law_frac : FuncData
  F_law_frac : Fun K "_law_frac" "_law_frac" s_law_frac f_law_frac fd_law_frac
  m_law_frac : mg "_law_frac" = some (.ref f_law_frac)
  b_law_frac : Binds K fd_law_frac ["n", "d"] []
  f_law_times : Addr
  fd_law_times : FuncData
  F_law_times : Fun K "_law_times" "_law_times" s_law_times f_law_times fd_law_times
  m_law_times : mg "_law_times" = some (.ref f_law_times)
  b_law_times : Binds K fd_law_times ["a", "b"] []
  f_law_over : Addr
  fd_law_over : FuncData
  F_law_over : Fun K "_law_over" "_law_over" s_law_over f_law_over fd_law_over
  m_law_over : mg "_law_over" = some (.ref f_law_over)
  b_law_over : Binds K fd_law_over ["a", "b"] []
  f_law_less : Addr
  fd_law_less : FuncData
  F_law_less : Fun K "_law_less" "_law_less" s_law_less f_law_less fd_law_less
  m_law_less : mg "_law_less" = some (.ref f_law_less)
  b_law_less : Binds K fd_law_less ["a", "b"] []
  f_law_least : Addr
  fd_law_least : FuncData
  F_law_least : Fun K "_law_least" "_law_least" s_law_least f_law_least fd_law_least
  m_law_least : mg "_law_least" = some (.ref f_law_least)
  b_law_least : Binds K fd_law_least ["row"] []
  f_law_fraction : Addr
  fd_law_fraction : FuncData
  F_law_fraction : Fun K "_law_fraction" "_law_fraction" s_law_fraction f_law_fraction fd_law_fraction
  m_law_fraction : mg "_law_fraction" = some (.ref f_law_fraction)
  b_law_fraction : Binds K fd_law_fraction ["d", "top", "bottom"] []
  f_law_all_rows : Addr
  fd_law_all_rows : FuncData
  F_law_all_rows : Fun K "_law_all_rows" "_law_all_rows" s_law_all_rows f_law_all_rows fd_law_all_rows
  m_law_all_rows : mg "_law_all_rows" = some (.ref f_law_all_rows)
  b_law_all_rows : Binds K fd_law_all_rows ["letters", "many"] []
  f_law_above_zero : Addr
  fd_law_above_zero : FuncData
  F_law_above_zero : Fun K "_law_above_zero" "_law_above_zero" s_law_above_zero f_law_above_zero fd_law_above_zero
  m_law_above_zero : mg "_law_above_zero" = some (.ref f_law_above_zero)
  b_law_above_zero : Binds K fd_law_above_zero ["d", "bottom"] []
  f_law_shown : Addr
  fd_law_shown : FuncData
  F_law_shown : Fun K "_law_shown" "_law_shown" s_law_shown f_law_shown fd_law_shown
  m_law_shown : mg "_law_shown" = some (.ref f_law_shown)
  b_law_shown : Binds K fd_law_shown ["d", "many", "rate"] []
  f_law_mark : Addr
  fd_law_mark : FuncData
  F_law_mark : Fun K "_law_mark" "_law_mark" s_law_mark f_law_mark fd_law_mark
  m_law_mark : mg "_law_mark" = some (.ref f_law_mark)
  b_law_mark : Binds K fd_law_mark ["d", "many", "rate"] []
  f_law_is_backed : Addr
  fd_law_is_backed : FuncData
  F_law_is_backed : Fun K "_law_is_backed" "_law_is_backed" s_law_is_backed f_law_is_backed fd_law_is_backed
  m_law_is_backed : mg "_law_is_backed" = some (.ref f_law_is_backed)
  b_law_is_backed : Binds K fd_law_is_backed ["shown", "members", "rate"] []
  f_law_union : Addr
  fd_law_union : FuncData
  F_law_union : Fun K "_law_union" "_law_union" s_law_union f_law_union fd_law_union
  m_law_union : mg "_law_union" = some (.ref f_law_union)
  b_law_union : Binds K fd_law_union ["shown", "rate"] []
  f_law_is_row : Addr
  fd_law_is_row : FuncData
  F_law_is_row : Fun K "_law_is_row" "_law_is_row" s_law_is_row f_law_is_row fd_law_is_row
  m_law_is_row : mg "_law_is_row" = some (.ref f_law_is_row)
  b_law_is_row : Binds K fd_law_is_row ["told", "due"] []
  f_law_lot : Addr
  fd_law_lot : FuncData
  F_law_lot : Fun K "_law_lot" "_law_lot" s_law_lot f_law_lot fd_law_lot
  m_law_lot : mg "_law_lot" = some (.ref f_law_lot)
  b_law_lot : Binds K fd_law_lot ["d"] []
  f_law : Addr
  fd_law : FuncData
  F_law : Fun K "law" "law" s_law f_law fd_law
  m_law : mg "law" = some (.ref f_law)
  b_law : Binds K fd_law ["script"] []
  z_abs : mg "abs" = none
  z_all : mg "all" = none
  z_bool : mg "bool" = none
  g_gcd : mg "gcd" = some (.builtin "math.gcd")
  z_int : mg "int" = none
  z_isinstance : mg "isinstance" = none
  z_len : mg "len" = none
  z_range : mg "range" = none
  z_tuple : mg "tuple" = none
section
variable {P : Program} {w : World} {K : PySem.W.Frag} {mg : Str → Option Value} {base : Heap}
theorem sc_fraction : FnScope ["n", "d", "common"] ["n", "d"] (defScope s_fraction) := ⟨rfl, rfl, rfl, by decide +kernel, rfl, by decide +kernel, by decide +kernel⟩
theorem ok_fraction (T : Txt K mg) {S : SpD} (len : ∀ ds st R Rx, S ds st R Rx → ds.length = 2) (read : ∀ ds st R Rx, S ds st R Rx → wb_fraction (bodyEd R Rx) (startD 3 ds) st) : FnD P w K mg base 1 T.f_fraction T.fd_fraction ["n", "d"] S :=
  fn_D T.F_fraction sc_fraction len (fun cdv A outer s H E hr tk hp => have nd : (["n", "d", "common"] : List Str).Nodup := sc_fraction.nd
    (jss_cons (js_if (jt_eq hr (jv 1) ji) (jss_one js_never) jss_nil)
    (jss_cons (js_if (jt_lt (jv 1) ji) (jss_one (js_par (i := 0) (j := 1) nd (je_neg (jv 0)) (je_neg (jv 1)))) jss_nil)
    (jss_cons (js_set (i := 2) nd (j_gcd T.g_gcd (ja_cons (jv 0) (ja_cons (jv 1) ja_nil))))
    (jss_one (js_ret (je_tup (ja_cons (j_div (jv 0) (jv 2)) (ja_cons (j_div (jv 1) (jv 2)) ja_nil))))))))) read
theorem sc_times : FnScope ["a", "b"] ["a", "b"] (defScope s_times) := ⟨rfl, rfl, rfl, by decide +kernel, rfl, by decide +kernel, by decide +kernel⟩
theorem ok_times (T : Txt K mg) {sp_fraction : SpD} (h_fraction : FnD P w K mg base 1 T.f_fraction T.fd_fraction ["n", "d"] sp_fraction) {S : SpD} (len : ∀ ds st R Rx, S ds st R Rx → ds.length = 2) (read : ∀ ds st R Rx, S ds st R Rx → wb_times sp_fraction (bodyEd R Rx) (startD 2 ds) st) : FnD P w K mg base 2 T.f_times T.fd_times ["a", "b"] S :=
  fn_D T.F_times sc_times len (fun cdv A outer s H E hr tk hp => have nd : (["a", "b"] : List Str).Nodup := sc_times.nd
    (jss_one (js_ret (j_call h_fraction (hr.mono (by decide)) T.m_fraction T.F_fraction.kp T.b_fraction tk (ja_cons (j_mul (j_ix (jv 0) ji) (j_ix (jv 1) ji)) (ja_cons (j_mul (j_ix (jv 0) ji) (j_ix (jv 1) ji)) ja_nil)))))) read
theorem sc_over : FnScope ["a", "b"] ["a", "b"] (defScope s_over) := ⟨rfl, rfl, rfl, by decide +kernel, rfl, by decide +kernel, by decide +kernel⟩
theorem ok_over (T : Txt K mg) {sp_fraction : SpD} (h_fraction : FnD P w K mg base 1 T.f_fraction T.fd_fraction ["n", "d"] sp_fraction) {S : SpD} (len : ∀ ds st R Rx, S ds st R Rx → ds.length = 2) (read : ∀ ds st R Rx, S ds st R Rx → wb_over sp_fraction (bodyEd R Rx) (startD 2 ds) st) : FnD P w K mg base 2 T.f_over T.fd_over ["a", "b"] S :=
  fn_D T.F_over sc_over len (fun cdv A outer s H E hr tk hp => have nd : (["a", "b"] : List Str).Nodup := sc_over.nd
    (jss_one (js_ret (j_call h_fraction (hr.mono (by decide)) T.m_fraction T.F_fraction.kp T.b_fraction tk (ja_cons (j_mul (j_ix (jv 0) ji) (j_ix (jv 1) ji)) (ja_cons (j_mul (j_ix (jv 0) ji) (j_ix (jv 1) ji)) ja_nil)))))) read
theorem sc_at_most : FnScope ["a", "b"] ["a", "b"] (defScope s_at_most) := ⟨rfl, rfl, rfl, by decide +kernel, rfl, by decide +kernel, by decide +kernel⟩
theorem ok_at_most (T : Txt K mg) {S : SpD} (len : ∀ ds st R Rx, S ds st R Rx → ds.length = 2) (read : ∀ ds st R Rx, S ds st R Rx → wb_at_most (bodyEd R Rx) (startD 2 ds) st) : FnD P w K mg base 1 T.f_at_most T.fd_at_most ["a", "b"] S :=
  fn_D T.F_at_most sc_at_most len (fun cdv A outer s H E hr tk hp => have nd : (["a", "b"] : List Str).Nodup := sc_at_most.nd
    (jss_one (js_ret (jc_le (j_mul (j_ix (jv 0) ji) (j_ix (jv 1) ji)) (j_mul (j_ix (jv 1) ji) (j_ix (jv 0) ji)))))) read
theorem sc_share_names : FnScope ["shown", "rate", "many", "count", "height", "found", "at"] ["shown", "rate"] (defScope s_share_names) := ⟨rfl, rfl, rfl, by decide +kernel, rfl, by decide +kernel, by decide +kernel⟩
theorem ok_share_names (T : Txt K mg) {sp_over : SpD} (h_over : FnD P w K mg base 2 T.f_over T.fd_over ["a", "b"] sp_over) {sp_times : SpD} (h_times : FnD P w K mg base 2 T.f_times T.fd_times ["a", "b"] sp_times) {sp_at_most : SpD} (h_at_most : FnD P w K mg base 1 T.f_at_most T.fd_at_most ["a", "b"] sp_at_most) {S : SpD} (len : ∀ ds st R Rx, S ds st R Rx → ds.length = 2) (read : ∀ ds st R Rx, S ds st R Rx → wb_share_names sp_over sp_times sp_at_most (bodyEd R Rx) (startD 7 ds) st) : FnD P w K mg base 3 T.f_share_names T.fd_share_names ["shown", "rate"] S :=
  fn_D T.F_share_names sc_share_names len (fun cdv A outer s H E hr tk hp => have nd : (["shown", "rate", "many", "count", "height", "found", "at"] : List Str).Nodup := sc_share_names.nd
    (jss_cons (js_set (i := 2) nd (j_len T.z_len (ja_cons (jv 0) ja_nil)))
    (jss_cons (js_for hp (jir3 T.z_range (ja_cons (jv 2) (ja_cons ji (ja_cons (je_neg ji) ja_nil)))) (jg_name (i := 3) nd) (jss_cons (js_set (i := 4) nd (j_call h_over (hr.mono (by decide)) T.m_over T.F_over.kp T.b_over tk (ja_cons (je_tup (ja_cons (jv 2) (ja_cons ji ja_nil))) (ja_cons (j_call h_times (hr.mono (by decide)) T.m_times T.F_times.kp T.b_times tk (ja_cons (je_tup (ja_cons (jv 3) (ja_cons ji ja_nil))) (ja_cons (jv 1) ja_nil))) ja_nil))))
    (jss_cons (js_set (i := 5) nd (j_tuple T.z_tuple (ja_cons (je_lc (own := [("at", 6)]) nd (jir1 T.z_range (ja_cons (jv 2) ja_nil)) (by kernel_rfl) (bind_name (i := 6) (by decide)) (fun _ _ _ _ _ => pg_name (i := 6) nd rfl (by first | exact Or.inl rfl | exact Or.inr rfl)) (fun _ _ _ _ _ => (jts_one (jt_val (j_call h_at_most (hr.mono (by decide)) T.m_at_most T.F_at_most.kp T.b_at_most takes_no (ja_cons (jv 4) (ja_cons (j_ix (jv 0) (jv 6)) ja_nil)))))) (fun _ _ _ _ _ => (jv 6))) ja_nil)))
    (jss_one (js_if (jt_ge (j_len T.z_len (ja_cons (jv 5) ja_nil)) (jv 3)) (jss_one (js_ret (jv 5))) jss_nil)))))
    (jss_one (js_ret (je_tup ja_nil)))))) read
theorem sc_step_up : FnScope ["marks", "rate", "many", "count", "edge", "found", "at"] ["marks", "rate"] (defScope s_step_up) := ⟨rfl, rfl, rfl, by decide +kernel, rfl, by decide +kernel, by decide +kernel⟩
theorem ok_step_up (T : Txt K mg) {sp_times : SpD} (h_times : FnD P w K mg base 2 T.f_times T.fd_times ["a", "b"] sp_times) {sp_fraction : SpD} (h_fraction : FnD P w K mg base 1 T.f_fraction T.fd_fraction ["n", "d"] sp_fraction) {sp_at_most : SpD} (h_at_most : FnD P w K mg base 1 T.f_at_most T.fd_at_most ["a", "b"] sp_at_most) {S : SpD} (len : ∀ ds st R Rx, S ds st R Rx → ds.length = 2) (read : ∀ ds st R Rx, S ds st R Rx → wb_step_up sp_times sp_fraction sp_at_most (bodyEd R Rx) (startD 7 ds) st) : FnD P w K mg base 3 T.f_step_up T.fd_step_up ["marks", "rate"] S :=
  fn_D T.F_step_up sc_step_up len (fun cdv A outer s H E hr tk hp => have nd : (["marks", "rate", "many", "count", "edge", "found", "at"] : List Str).Nodup := sc_step_up.nd
    (jss_cons (js_set (i := 2) nd (j_len T.z_len (ja_cons (jv 0) ja_nil)))
    (jss_cons (js_for hp (jir3 T.z_range (ja_cons (jv 2) (ja_cons ji (ja_cons (je_neg ji) ja_nil)))) (jg_name (i := 3) nd) (jss_cons (js_set (i := 4) nd (j_call h_times (hr.mono (by decide)) T.m_times T.F_times.kp T.b_times tk (ja_cons (jv 1) (ja_cons (j_call h_fraction (hr.mono (by decide)) T.m_fraction T.F_fraction.kp T.b_fraction tk (ja_cons (jv 3) (ja_cons (jv 2) ja_nil))) ja_nil))))
    (jss_cons (js_set (i := 5) nd (j_tuple T.z_tuple (ja_cons (je_lc (own := [("at", 6)]) nd (jir1 T.z_range (ja_cons (jv 2) ja_nil)) (by kernel_rfl) (bind_name (i := 6) (by decide)) (fun _ _ _ _ _ => pg_name (i := 6) nd rfl (by first | exact Or.inl rfl | exact Or.inr rfl)) (fun _ _ _ _ _ => (jts_one (jt_val (j_call h_at_most (hr.mono (by decide)) T.m_at_most T.F_at_most.kp T.b_at_most takes_no (ja_cons (j_ix (jv 0) (jv 6)) (ja_cons (jv 4) ja_nil)))))) (fun _ _ _ _ _ => (jv 6))) ja_nil)))
    (jss_one (js_if (jt_ge (j_len T.z_len (ja_cons (jv 5) ja_nil)) (jv 3)) (jss_one (js_ret (jv 5))) jss_nil)))))
    (jss_one (js_ret (je_tup ja_nil)))))) read
theorem sc_law_begin : FnScope ["script", "cell"] ["script"] (defScope s_law_begin) := ⟨rfl, rfl, rfl, by decide +kernel, rfl, by decide +kernel, by decide +kernel⟩
theorem ok_law_begin (T : Txt K mg) {S : SpD} (len : ∀ ds st R Rx, S ds st R Rx → ds.length = 1) (read : ∀ ds st R Rx, S ds st R Rx → wb_law_begin (bodyEd R Rx) (startD 2 ds) st) : FnD P w K mg base 1 T.f_law_begin T.fd_law_begin ["script"] S :=
  fn_D T.F_law_begin sc_law_begin len (fun cdv A outer s H E hr tk hp => have nd : (["script", "cell"] : List Str).Nodup := sc_law_begin.nd
    (jss_one (js_ret (je_lst (ja_cons (je_lc (own := [("cell", 1)]) nd (jit (jv 0)) (by kernel_rfl) (bind_name (i := 1) (by decide)) (fun _ _ _ _ _ => pg_name (i := 1) nd rfl (by first | exact Or.inl rfl | exact Or.inr rfl)) (fun _ _ _ _ _ => jts_nil) (fun _ _ _ _ _ => (j_int T.z_int (ja_cons (jv 1) ja_nil)))) (ja_cons ji (ja_cons ji (ja_cons ji ja_nil)))))))) read
theorem sc_law_draw : FnScope ["d", "many", "found", "size", "cell"] ["d", "many"] (defScope s_law_draw) := ⟨rfl, rfl, rfl, by decide +kernel, rfl, by decide +kernel, by decide +kernel⟩
theorem ok_law_draw (T : Txt K mg) {S : SpD} (len : ∀ ds st R Rx, S ds st R Rx → ds.length = 2) (read : ∀ ds st R Rx, S ds st R Rx → wb_law_draw (bodyEd R Rx) (startD 5 ds) st) : FnD P w K mg base 1 T.f_law_draw T.fd_law_draw ["d", "many"] S :=
  fn_D T.F_law_draw sc_law_draw len (fun cdv A outer s H E hr tk hp => have nd : (["d", "many", "found", "size", "cell"] : List Str).Nodup := sc_law_draw.nd
    (jss_cons (js_if (jt_gt (j_ix (jv 0) ji) ji) (jss_cons (js_set (i := 2) nd (j_ix (jv 0) ji))
    (jss_cons (js_asg (j_div (jv 2) (jv 1)) (jg_ix (jv 0) ji))
    (jss_one (js_ret (j_mod (j_int T.z_int (ja_cons (jv 2) ja_nil)) (jv 1)))))) jss_nil)
    (jss_cons (js_set (i := 3) nd ji)
    (jss_cons (js_if (jt_lt (j_ix (jv 0) ji) (j_len T.z_len (ja_cons (j_ix (jv 0) ji) ja_nil))) (jss_cons (js_set (i := 4) nd (j_ix (j_ix (jv 0) ji) (j_ix (jv 0) ji)))
    (jss_one (js_set (i := 3) nd (j_add (j_mul ji (j_abs T.z_abs (ja_cons (jv 4) ja_nil))) (j_int T.z_int (ja_cons (jc_lt (jv 4) ji) ja_nil)))))) jss_nil)
    (jss_cons (js_augix (jv 0) ji iop_addA sim_iadd ji)
    (jss_cons (js_if (jt_ge (jv 3) (j_mul ji (j_pow ji ji))) (jss_cons (js_set (i := 2) nd (j_mod (j_int T.z_int (ja_cons (j_div (jv 3) ji) ja_nil)) (j_shl ji ji)))
    (jss_cons (js_asg (j_div (jv 2) (jv 1)) (jg_ix (jv 0) ji))
    (jss_one (js_ret (j_mod (j_int T.z_int (ja_cons (jv 2) ja_nil)) (jv 1)))))) jss_nil)
    (jss_cons (js_asg (j_mod (j_int T.z_int (ja_cons (j_add (j_add (j_add (j_mul (j_ix (jv 0) ji) ji) (j_mul (j_mod (j_int T.z_int (ja_cons (jv 3) ja_nil)) ji) ji)) (j_mul (j_ix (jv 0) ji) ji)) ji) ja_nil)) ji) (jg_ix (jv 0) ji))
    (jss_one (js_ret (j_mod (j_int T.z_int (ja_cons (j_div (j_ix (jv 0) ji) ji) ja_nil)) (jv 1))))))))))) read
theorem sc_law_is_int : FnScope ["thing"] ["thing"] (defScope s_law_is_int) := ⟨rfl, rfl, rfl, by decide +kernel, rfl, by decide +kernel, by decide +kernel⟩
theorem ok_law_is_int (T : Txt K mg) {S : SpD} (len : ∀ ds st R Rx, S ds st R Rx → ds.length = 1) (read : ∀ ds st R Rx, S ds st R Rx → wb_law_is_int (bodyEd R Rx) (startD 1 ds) st) : FnD P w K mg base 1 T.f_law_is_int T.fd_law_is_int ["thing"] S :=
  fn_D T.F_law_is_int sc_law_is_int len (fun cdv A outer s H E hr tk hp => have nd : (["thing"] : List Str).Nodup := sc_law_is_int.nd
    (jss_one (js_ret (je_and (j_isi .int T.z_isinstance T.z_int (by decide +kernel) (jv 0)) (je_one (je_not (j_isi .bool T.z_isinstance T.z_bool (by decide +kernel) (jv 0)))))))) read
theorem sc_law_gcd : FnScope ["a", "b"] ["a", "b"] (defScope s_law_gcd) := ⟨rfl, rfl, rfl, by decide +kernel, rfl, by decide +kernel, by decide +kernel⟩
theorem ok_law_gcd (T : Txt K mg) {S : SpD} (len : ∀ ds st R Rx, S ds st R Rx → ds.length = 2) (read : ∀ ds st R Rx, S ds st R Rx → wb_law_gcd (bodyEd R Rx) (startD 2 ds) st) : FnD P w K mg base 1 T.f_law_gcd T.fd_law_gcd ["a", "b"] S :=
  fn_D T.F_law_gcd sc_law_gcd len (fun cdv A outer s H E hr tk hp => have nd : (["a", "b"] : List Str).Nodup := sc_law_gcd.nd
    (jss_cons (js_par (i := 0) (j := 1) nd (j_abs T.z_abs (ja_cons (jv 0) ja_nil)) (j_abs T.z_abs (ja_cons (jv 1) ja_nil)))
    (jss_cons (js_while hp (jt_ne hr (jv 1) ji) (jss_one (js_par (i := 0) (j := 1) nd (jv 1) (j_mod (j_int T.z_int (ja_cons (jv 0) ja_nil)) (jv 1)))))
    (jss_one (js_ret (jv 0)))))) read
theorem sc_law_frac : FnScope ["n", "d", "common"] ["n", "d"] (defScope s_law_frac) := ⟨rfl, rfl, rfl, by decide +kernel, rfl, by decide +kernel, by decide +kernel⟩
theorem ok_law_frac (T : Txt K mg) {sp_law_gcd : SpD} (h_law_gcd : FnD P w K mg base 1 T.f_law_gcd T.fd_law_gcd ["a", "b"] sp_law_gcd) {S : SpD} (len : ∀ ds st R Rx, S ds st R Rx → ds.length = 2) (read : ∀ ds st R Rx, S ds st R Rx → wb_law_frac sp_law_gcd (bodyEd R Rx) (startD 3 ds) st) : FnD P w K mg base 2 T.f_law_frac T.fd_law_frac ["n", "d"] S :=
  fn_D T.F_law_frac sc_law_frac len (fun cdv A outer s H E hr tk hp => have nd : (["n", "d", "common"] : List Str).Nodup := sc_law_frac.nd
    (jss_cons (js_if (jt_lt (jv 1) ji) (jss_one (js_par (i := 0) (j := 1) nd (je_neg (jv 0)) (je_neg (jv 1)))) jss_nil)
    (jss_cons (js_set (i := 2) nd (j_call h_law_gcd (hr.mono (by decide)) T.m_law_gcd T.F_law_gcd.kp T.b_law_gcd tk (ja_cons (jv 0) (ja_cons (jv 1) ja_nil))))
    (jss_one (js_ret (je_tup (ja_cons (j_div (jv 0) (jv 2)) (ja_cons (j_div (jv 1) (jv 2)) ja_nil)))))))) read
theorem sc_law_times : FnScope ["a", "b"] ["a", "b"] (defScope s_law_times) := ⟨rfl, rfl, rfl, by decide +kernel, rfl, by decide +kernel, by decide +kernel⟩
theorem ok_law_times (T : Txt K mg) {sp_law_frac : SpD} (h_law_frac : FnD P w K mg base 2 T.f_law_frac T.fd_law_frac ["n", "d"] sp_law_frac) {S : SpD} (len : ∀ ds st R Rx, S ds st R Rx → ds.length = 2) (read : ∀ ds st R Rx, S ds st R Rx → wb_law_times sp_law_frac (bodyEd R Rx) (startD 2 ds) st) : FnD P w K mg base 3 T.f_law_times T.fd_law_times ["a", "b"] S :=
  fn_D T.F_law_times sc_law_times len (fun cdv A outer s H E hr tk hp => have nd : (["a", "b"] : List Str).Nodup := sc_law_times.nd
    (jss_one (js_ret (j_call h_law_frac (hr.mono (by decide)) T.m_law_frac T.F_law_frac.kp T.b_law_frac tk (ja_cons (j_mul (j_ix (jv 0) ji) (j_ix (jv 1) ji)) (ja_cons (j_mul (j_ix (jv 0) ji) (j_ix (jv 1) ji)) ja_nil)))))) read
theorem sc_law_over : FnScope ["a", "b"] ["a", "b"] (defScope s_law_over) := ⟨rfl, rfl, rfl, by decide +kernel, rfl, by decide +kernel, by decide +kernel⟩
theorem ok_law_over (T : Txt K mg) {sp_law_frac : SpD} (h_law_frac : FnD P w K mg base 2 T.f_law_frac T.fd_law_frac ["n", "d"] sp_law_frac) {S : SpD} (len : ∀ ds st R Rx, S ds st R Rx → ds.length = 2) (read : ∀ ds st R Rx, S ds st R Rx → wb_law_over sp_law_frac (bodyEd R Rx) (startD 2 ds) st) : FnD P w K mg base 3 T.f_law_over T.fd_law_over ["a", "b"] S :=
  fn_D T.F_law_over sc_law_over len (fun cdv A outer s H E hr tk hp => have nd : (["a", "b"] : List Str).Nodup := sc_law_over.nd
    (jss_one (js_ret (j_call h_law_frac (hr.mono (by decide)) T.m_law_frac T.F_law_frac.kp T.b_law_frac tk (ja_cons (j_mul (j_ix (jv 0) ji) (j_ix (jv 1) ji)) (ja_cons (j_mul (j_ix (jv 0) ji) (j_ix (jv 1) ji)) ja_nil)))))) read
theorem sc_law_less : FnScope ["a", "b"] ["a", "b"] (defScope s_law_less) := ⟨rfl, rfl, rfl, by decide +kernel, rfl, by decide +kernel, by decide +kernel⟩
theorem ok_law_less (T : Txt K mg) {S : SpD} (len : ∀ ds st R Rx, S ds st R Rx → ds.length = 2) (read : ∀ ds st R Rx, S ds st R Rx → wb_law_less (bodyEd R Rx) (startD 2 ds) st) : FnD P w K mg base 1 T.f_law_less T.fd_law_less ["a", "b"] S :=
  fn_D T.F_law_less sc_law_less len (fun cdv A outer s H E hr tk hp => have nd : (["a", "b"] : List Str).Nodup := sc_law_less.nd
    (jss_one (js_ret (jc_lt (j_mul (j_ix (jv 0) ji) (j_ix (jv 1) ji)) (j_mul (j_ix (jv 1) ji) (j_ix (jv 0) ji)))))) read
theorem sc_law_least : FnScope ["row", "best", "one"] ["row"] (defScope s_law_least) := ⟨rfl, rfl, rfl, by decide +kernel, rfl, by decide +kernel, by decide +kernel⟩
theorem ok_law_least (T : Txt K mg) {sp_law_less : SpD} (h_law_less : FnD P w K mg base 1 T.f_law_less T.fd_law_less ["a", "b"] sp_law_less) {S : SpD} (len : ∀ ds st R Rx, S ds st R Rx → ds.length = 1) (read : ∀ ds st R Rx, S ds st R Rx → wb_law_least sp_law_less (bodyEd R Rx) (startD 3 ds) st) : FnD P w K mg base 2 T.f_law_least T.fd_law_least ["row"] S :=
  fn_D T.F_law_least sc_law_least len (fun cdv A outer s H E hr tk hp => have nd : (["row", "best", "one"] : List Str).Nodup := sc_law_least.nd
    (jss_cons (js_set (i := 1) nd (j_ix (jv 0) ji))
    (jss_cons (js_for hp (jit (jv 0)) (jg_name (i := 2) nd) (jss_one (js_if (jt_val (j_call h_law_less (hr.mono (by decide)) T.m_law_less T.F_law_less.kp T.b_law_less tk (ja_cons (jv 2) (ja_cons (jv 1) ja_nil)))) (jss_one (js_set (i := 1) nd (jv 2))) jss_nil)))
    (jss_one (js_ret (jv 1)))))) read
theorem sc_law_fraction : FnScope ["d", "top", "bottom"] ["d", "top", "bottom"] (defScope s_law_fraction) := ⟨rfl, rfl, rfl, by decide +kernel, rfl, by decide +kernel, by decide +kernel⟩
theorem ok_law_fraction (T : Txt K mg) {sp_law_frac : SpD} (h_law_frac : FnD P w K mg base 2 T.f_law_frac T.fd_law_frac ["n", "d"] sp_law_frac) {sp_law_draw : SpD} (h_law_draw : FnD P w K mg base 1 T.f_law_draw T.fd_law_draw ["d", "many"] sp_law_draw) {S : SpD} (len : ∀ ds st R Rx, S ds st R Rx → ds.length = 3) (read : ∀ ds st R Rx, S ds st R Rx → wb_law_fraction sp_law_frac sp_law_draw (bodyEd R Rx) (startD 3 ds) st) : FnD P w K mg base 3 T.f_law_fraction T.fd_law_fraction ["d", "top", "bottom"] S :=
  fn_D T.F_law_fraction sc_law_fraction len (fun cdv A outer s H E hr tk hp => have nd : (["d", "top", "bottom"] : List Str).Nodup := sc_law_fraction.nd
    (jss_one (js_ret (j_call h_law_frac (hr.mono (by decide)) T.m_law_frac T.F_law_frac.kp T.b_law_frac tk (ja_cons (j_call h_law_draw (hr.mono (by decide)) T.m_law_draw T.F_law_draw.kp T.b_law_draw tk (ja_cons (jv 0) (ja_cons (j_add (jv 1) ji) ja_nil))) (ja_cons (j_add ji (j_call h_law_draw (hr.mono (by decide)) T.m_law_draw T.F_law_draw.kp T.b_law_draw tk (ja_cons (jv 0) (ja_cons (jv 2) ja_nil)))) ja_nil)))))) read
theorem sc_law_all_rows : FnScope ["letters", "many", "found", "k", "longer", "row", "letter"] ["letters", "many"] (defScope s_law_all_rows) := ⟨rfl, rfl, rfl, by decide +kernel, rfl, by decide +kernel, by decide +kernel⟩
theorem ok_law_all_rows (T : Txt K mg) {S : SpD} (len : ∀ ds st R Rx, S ds st R Rx → ds.length = 2) (read : ∀ ds st R Rx, S ds st R Rx → wb_law_all_rows (bodyEd R Rx) (startD 7 ds) st) : FnD P w K mg base 1 T.f_law_all_rows T.fd_law_all_rows ["letters", "many"] S :=
  fn_D T.F_law_all_rows sc_law_all_rows len (fun cdv A outer s H E hr tk hp => have nd : (["letters", "many", "found", "k", "longer", "row", "letter"] : List Str).Nodup := sc_law_all_rows.nd
    (jss_cons (js_set (i := 2) nd (je_lst (ja_cons (je_tup ja_nil) ja_nil)))
    (jss_cons (js_for hp (jir1 T.z_range (ja_cons (jv 1) ja_nil)) (jg_name (i := 3) nd) (jss_cons (js_set (i := 4) nd (je_lst ja_nil))
    (jss_cons (js_for hp (jit (jv 2)) (jg_name (i := 5) nd) (jss_one (js_expr (j_extend (jv 4) (ja_cons (je_lc (own := [("letter", 6)]) nd (jir1 T.z_range (ja_cons (jv 0) ja_nil)) (by kernel_rfl) (bind_name (i := 6) (by decide)) (fun _ _ _ _ _ => pg_name (i := 6) nd rfl (by first | exact Or.inl rfl | exact Or.inr rfl)) (fun _ _ _ _ _ => jts_nil) (fun _ _ _ _ _ => (j_add (jv 5) (je_tup (ja_cons (jv 6) ja_nil))))) ja_nil)))))
    (jss_one (js_set (i := 2) nd (jv 4))))))
    (jss_one (js_ret (jv 2)))))) read
theorem sc_law_above_zero : FnScope ["d", "bottom", "under"] ["d", "bottom"] (defScope s_law_above_zero) := ⟨rfl, rfl, rfl, by decide +kernel, rfl, by decide +kernel, by decide +kernel⟩
theorem ok_law_above_zero (T : Txt K mg) {sp_law_draw : SpD} (h_law_draw : FnD P w K mg base 1 T.f_law_draw T.fd_law_draw ["d", "many"] sp_law_draw) {sp_law_frac : SpD} (h_law_frac : FnD P w K mg base 2 T.f_law_frac T.fd_law_frac ["n", "d"] sp_law_frac) {S : SpD} (len : ∀ ds st R Rx, S ds st R Rx → ds.length = 2) (read : ∀ ds st R Rx, S ds st R Rx → wb_law_above_zero sp_law_draw sp_law_frac (bodyEd R Rx) (startD 3 ds) st) : FnD P w K mg base 3 T.f_law_above_zero T.fd_law_above_zero ["d", "bottom"] S :=
  fn_D T.F_law_above_zero sc_law_above_zero len (fun cdv A outer s H E hr tk hp => have nd : (["d", "bottom", "under"] : List Str).Nodup := sc_law_above_zero.nd
    (jss_cons (js_set (i := 2) nd (j_add ji (j_call h_law_draw (hr.mono (by decide)) T.m_law_draw T.F_law_draw.kp T.b_law_draw tk (ja_cons (jv 0) (ja_cons (jv 1) ja_nil)))))
    (jss_one (js_ret (j_call h_law_frac (hr.mono (by decide)) T.m_law_frac T.F_law_frac.kp T.b_law_frac tk (ja_cons (j_add ji (j_call h_law_draw (hr.mono (by decide)) T.m_law_draw T.F_law_draw.kp T.b_law_draw tk (ja_cons (jv 0) (ja_cons (jv 2) ja_nil)))) (ja_cons (jv 2) ja_nil))))))) read
theorem sc_law_shown : FnScope ["d", "many", "rate", "edge", "kind"] ["d", "many", "rate"] (defScope s_law_shown) := ⟨rfl, rfl, rfl, by decide +kernel, rfl, by decide +kernel, by decide +kernel⟩
theorem ok_law_shown (T : Txt K mg) {sp_law_frac : SpD} (h_law_frac : FnD P w K mg base 2 T.f_law_frac T.fd_law_frac ["n", "d"] sp_law_frac) {sp_law_draw : SpD} (h_law_draw : FnD P w K mg base 1 T.f_law_draw T.fd_law_draw ["d", "many"] sp_law_draw) {sp_law_times : SpD} (h_law_times : FnD P w K mg base 3 T.f_law_times T.fd_law_times ["a", "b"] sp_law_times) {sp_law_fraction : SpD} (h_law_fraction : FnD P w K mg base 3 T.f_law_fraction T.fd_law_fraction ["d", "top", "bottom"] sp_law_fraction) {S : SpD} (len : ∀ ds st R Rx, S ds st R Rx → ds.length = 3) (read : ∀ ds st R Rx, S ds st R Rx → wb_law_shown sp_law_frac sp_law_draw sp_law_times sp_law_fraction (bodyEd R Rx) (startD 5 ds) st) : FnD P w K mg base 4 T.f_law_shown T.fd_law_shown ["d", "many", "rate"] S :=
  fn_D T.F_law_shown sc_law_shown len (fun cdv A outer s H E hr tk hp => have nd : (["d", "many", "rate", "edge", "kind"] : List Str).Nodup := sc_law_shown.nd
    (jss_cons (js_set (i := 3) nd (j_call h_law_frac (hr.mono (by decide)) T.m_law_frac T.F_law_frac.kp T.b_law_frac tk (ja_cons (j_mul (jv 1) (j_ix (jv 2) ji)) (ja_cons (j_mul (j_add ji (j_call h_law_draw (hr.mono (by decide)) T.m_law_draw T.F_law_draw.kp T.b_law_draw tk (ja_cons (jv 0) (ja_cons (jv 1) ja_nil)))) (j_ix (jv 2) ji)) ja_nil))))
    (jss_cons (js_set (i := 4) nd (j_call h_law_draw (hr.mono (by decide)) T.m_law_draw T.F_law_draw.kp T.b_law_draw tk (ja_cons (jv 0) (ja_cons ji ja_nil))))
    (jss_cons (js_if (jt_eq hr (jv 4) ji) (jss_one (js_ret (je_tup (ja_cons ji (ja_cons ji ja_nil))))) jss_nil)
    (jss_cons (js_if (jt_eq hr (jv 4) ji) (jss_one (js_ret (j_call h_law_times (hr.mono (by decide)) T.m_law_times T.F_law_times.kp T.b_law_times tk (ja_cons (jv 3) (ja_cons (je_tup (ja_cons ji (ja_cons ji ja_nil))) ja_nil))))) jss_nil)
    (jss_cons (js_if (jt_eq hr (jv 4) ji) (jss_one (js_ret (j_call h_law_times (hr.mono (by decide)) T.m_law_times T.F_law_times.kp T.b_law_times tk (ja_cons (jv 3) (ja_cons (je_tup (ja_cons ji (ja_cons ji ja_nil))) ja_nil))))) jss_nil)
    (jss_cons (js_if (jt_eq hr (jv 4) ji) (jss_one (js_ret (j_call h_law_fraction (hr.mono (by decide)) T.m_law_fraction T.F_law_fraction.kp T.b_law_fraction tk (ja_cons (jv 0) (ja_cons ji (ja_cons ji ja_nil)))))) jss_nil)
    (jss_cons (js_if (jt_eq hr (jv 4) ji) (jss_one (js_ret (j_call h_law_fraction (hr.mono (by decide)) T.m_law_fraction T.F_law_fraction.kp T.b_law_fraction tk (ja_cons (jv 0) (ja_cons (j_pow ji ji) (ja_cons ji ja_nil)))))) jss_nil)
    (jss_one (js_ret (jv 3))))))))))) read
theorem sc_law_mark : FnScope ["d", "many", "rate", "edge", "kind"] ["d", "many", "rate"] (defScope s_law_mark) := ⟨rfl, rfl, rfl, by decide +kernel, rfl, by decide +kernel, by decide +kernel⟩
theorem ok_law_mark (T : Txt K mg) {sp_law_frac : SpD} (h_law_frac : FnD P w K mg base 2 T.f_law_frac T.fd_law_frac ["n", "d"] sp_law_frac) {sp_law_draw : SpD} (h_law_draw : FnD P w K mg base 1 T.f_law_draw T.fd_law_draw ["d", "many"] sp_law_draw) {sp_law_times : SpD} (h_law_times : FnD P w K mg base 3 T.f_law_times T.fd_law_times ["a", "b"] sp_law_times) {sp_law_least : SpD} (h_law_least : FnD P w K mg base 2 T.f_law_least T.fd_law_least ["row"] sp_law_least) {sp_law_above_zero : SpD} (h_law_above_zero : FnD P w K mg base 3 T.f_law_above_zero T.fd_law_above_zero ["d", "bottom"] sp_law_above_zero) {S : SpD} (len : ∀ ds st R Rx, S ds st R Rx → ds.length = 3) (read : ∀ ds st R Rx, S ds st R Rx → wb_law_mark sp_law_frac sp_law_draw sp_law_times sp_law_least sp_law_above_zero (bodyEd R Rx) (startD 5 ds) st) : FnD P w K mg base 4 T.f_law_mark T.fd_law_mark ["d", "many", "rate"] S :=
  fn_D T.F_law_mark sc_law_mark len (fun cdv A outer s H E hr tk hp => have nd : (["d", "many", "rate", "edge", "kind"] : List Str).Nodup := sc_law_mark.nd
    (jss_cons (js_set (i := 3) nd (j_call h_law_frac (hr.mono (by decide)) T.m_law_frac T.F_law_frac.kp T.b_law_frac tk (ja_cons (j_mul (j_add ji (j_call h_law_draw (hr.mono (by decide)) T.m_law_draw T.F_law_draw.kp T.b_law_draw tk (ja_cons (jv 0) (ja_cons (jv 1) ja_nil)))) (j_ix (jv 2) ji)) (ja_cons (j_mul (jv 1) (j_ix (jv 2) ji)) ja_nil))))
    (jss_cons (js_set (i := 4) nd (j_call h_law_draw (hr.mono (by decide)) T.m_law_draw T.F_law_draw.kp T.b_law_draw tk (ja_cons (jv 0) (ja_cons ji ja_nil))))
    (jss_cons (js_if (jt_eq hr (jv 4) ji) (jss_one (js_ret (je_tup (ja_cons ji (ja_cons ji ja_nil))))) jss_nil)
    (jss_cons (js_if (jt_eq hr (jv 4) ji) (jss_one (js_ret (j_call h_law_times (hr.mono (by decide)) T.m_law_times T.F_law_times.kp T.b_law_times tk (ja_cons (jv 3) (ja_cons (je_tup (ja_cons ji (ja_cons ji ja_nil))) ja_nil))))) jss_nil)
    (jss_cons (js_if (jt_eq hr (jv 4) ji) (jss_one (js_ret (j_call h_law_least (hr.mono (by decide)) T.m_law_least T.F_law_least.kp T.b_law_least tk (ja_cons (je_lst (ja_cons (j_call h_law_times (hr.mono (by decide)) T.m_law_times T.F_law_times.kp T.b_law_times tk (ja_cons (jv 3) (ja_cons (je_tup (ja_cons ji (ja_cons ji ja_nil))) ja_nil))) (ja_cons (je_tup (ja_cons ji (ja_cons ji ja_nil))) ja_nil))) ja_nil)))) jss_nil)
    (jss_cons (js_if (jt_eq hr (jv 4) ji) (jss_one (js_ret (j_call h_law_above_zero (hr.mono (by decide)) T.m_law_above_zero T.F_law_above_zero.kp T.b_law_above_zero tk (ja_cons (jv 0) (ja_cons ji ja_nil))))) jss_nil)
    (jss_one (js_ret (jv 3)))))))))) read
theorem sc_law_is_backed : FnScope ["shown", "members", "rate", "at"] ["shown", "members", "rate"] (defScope s_law_is_backed) := ⟨rfl, rfl, rfl, by decide +kernel, rfl, by decide +kernel, by decide +kernel⟩
theorem ok_law_is_backed (T : Txt K mg) {S : SpD} (len : ∀ ds st R Rx, S ds st R Rx → ds.length = 3) (read : ∀ ds st R Rx, S ds st R Rx → wb_law_is_backed (bodyEd R Rx) (startD 4 ds) st) : FnD P w K mg base 1 T.f_law_is_backed T.fd_law_is_backed ["shown", "members", "rate"] S :=
  fn_D T.F_law_is_backed sc_law_is_backed len (fun cdv A outer s H E hr tk hp => have nd : (["shown", "members", "rate", "at"] : List Str).Nodup := sc_law_is_backed.nd
    (jss_cons (js_for hp (jit (jv 1)) (jg_name (i := 3) nd) (jss_one (js_if (jt_lt (j_mul (j_mul (j_ix (j_ix (jv 0) (jv 3)) ji) (j_len T.z_len (ja_cons (jv 1) ja_nil))) (j_ix (jv 2) ji)) (j_mul (j_mul (j_len T.z_len (ja_cons (jv 0) ja_nil)) (j_ix (j_ix (jv 0) (jv 3)) ji)) (j_ix (jv 2) ji))) (jss_one (js_ret jb)) jss_nil)))
    (jss_one (js_ret jb)))) read
theorem sc_law_union : FnScope ["shown", "rate", "many", "found", "picks", "members", "at"] ["shown", "rate"] (defScope s_law_union) := ⟨rfl, rfl, rfl, by decide +kernel, rfl, by decide +kernel, by decide +kernel⟩
theorem ok_law_union (T : Txt K mg) {sp_law_all_rows : SpD} (h_law_all_rows : FnD P w K mg base 1 T.f_law_all_rows T.fd_law_all_rows ["letters", "many"] sp_law_all_rows) {sp_law_is_backed : SpD} (h_law_is_backed : FnD P w K mg base 1 T.f_law_is_backed T.fd_law_is_backed ["shown", "members", "rate"] sp_law_is_backed) {S : SpD} (len : ∀ ds st R Rx, S ds st R Rx → ds.length = 2) (read : ∀ ds st R Rx, S ds st R Rx → wb_law_union sp_law_all_rows sp_law_is_backed (bodyEd R Rx) (startD 7 ds) st) : FnD P w K mg base 2 T.f_law_union T.fd_law_union ["shown", "rate"] S :=
  fn_D T.F_law_union sc_law_union len (fun cdv A outer s H E hr tk hp => have nd : (["shown", "rate", "many", "found", "picks", "members", "at"] : List Str).Nodup := sc_law_union.nd
    (jss_cons (js_set (i := 2) nd (j_len T.z_len (ja_cons (jv 0) ja_nil)))
    (jss_cons (js_set (i := 3) nd (je_lst ja_nil))
    (jss_cons (js_for hp (jit (j_call h_law_all_rows (hr.mono (by decide)) T.m_law_all_rows T.F_law_all_rows.kp T.b_law_all_rows tk (ja_cons ji (ja_cons (jv 2) ja_nil)))) (jg_name (i := 4) nd) (jss_cons (js_setlc (i := 5) (own := [("at", 6)]) nd (jir1 T.z_range (ja_cons (jv 2) ja_nil)) (by kernel_rfl) (bind_name (i := 6) (by decide)) (fun _ _ _ _ _ => pg_name (i := 6) nd rfl (by first | exact Or.inl rfl | exact Or.inr rfl)) (fun _ _ _ _ _ => (jts_one (jt_eq hr (j_ix (jv 4) (jv 6)) ji))) (fun _ _ _ _ _ => (jv 6)) (sw_true rfl rfl rfl (by decide +kernel)))
    (jss_one (js_if (jt_val (j_call h_law_is_backed (hr.mono (by decide)) T.m_law_is_backed T.F_law_is_backed.kp T.b_law_is_backed tk (ja_cons (jv 0) (ja_cons (jv 5) (ja_cons (jv 1) ja_nil))))) (jss_one (js_expr (j_extend (jv 3) (ja_cons (jv 5) ja_nil)))) jss_nil))))
    (jss_one (js_ret (je_lc (own := [("at", 6)]) nd (jir1 T.z_range (ja_cons (jv 2) ja_nil)) (by kernel_rfl) (bind_name (i := 6) (by decide)) (fun _ _ _ _ _ => pg_name (i := 6) nd rfl (by first | exact Or.inl rfl | exact Or.inr rfl)) (fun _ _ _ _ _ => (jts_one (jt_in (jv 6) (jv 3)))) (fun _ _ _ _ _ => (jv 6))))))))) read
theorem sc_law_is_row : FnScope ["told", "due", "at"] ["told", "due"] (defScope s_law_is_row) := ⟨rfl, rfl, rfl, by decide +kernel, rfl, by decide +kernel, by decide +kernel⟩
theorem ok_law_is_row (T : Txt K mg) {sp_law_is_int : SpD} (h_law_is_int : FnD P w K mg base 1 T.f_law_is_int T.fd_law_is_int ["thing"] sp_law_is_int) {S : SpD} (len : ∀ ds st R Rx, S ds st R Rx → ds.length = 2) (read : ∀ ds st R Rx, S ds st R Rx → wb_law_is_row sp_law_is_int (bodyEd R Rx) (startD 3 ds) st) : FnD P w K mg base 2 T.f_law_is_row T.fd_law_is_row ["told", "due"] S :=
  fn_D T.F_law_is_row sc_law_is_row len (fun cdv A outer s H E hr tk hp => have nd : (["told", "due", "at"] : List Str).Nodup := sc_law_is_row.nd
    (jss_cons (js_if (jw_t (jw_or (jt_not (jt_val (j_isi .tup T.z_isinstance T.z_tuple (by decide +kernel) (jv 0)))) (jw_or1 (jt_ne hr (j_len T.z_len (ja_cons (jv 0) ja_nil)) (j_len T.z_len (ja_cons (jv 1) ja_nil)))))) (jss_one (js_ret jb)) jss_nil)
    (jss_one (js_ret (j_all T.z_all (ja_cons (je_lc (own := [("at", 2)]) nd (jir1 T.z_range (ja_cons (j_len T.z_len (ja_cons (jv 1) ja_nil)) ja_nil)) (by kernel_rfl) (bind_name (i := 2) (by decide)) (fun _ _ _ _ _ => pg_name (i := 2) nd rfl (by first | exact Or.inl rfl | exact Or.inr rfl)) (fun _ _ _ _ _ => jts_nil) (fun _ _ _ _ _ => (je_and (j_call h_law_is_int (hr.mono (by decide)) T.m_law_is_int T.F_law_is_int.kp T.b_law_is_int takes_no (ja_cons (j_ix (jv 0) (jv 2)) ja_nil)) (je_one (jc_eq hr (j_ix (jv 0) (jv 2)) (j_ix (jv 1) (jv 2))))))) ja_nil)))))) read
theorem sc_law_lot : FnScope ["d", "many", "most", "rate", "at"] ["d"] (defScope s_law_lot) := ⟨rfl, rfl, rfl, by decide +kernel, rfl, by decide +kernel, by decide +kernel⟩
theorem ok_law_lot (T : Txt K mg) {sp_law_draw : SpD} (h_law_draw : FnD P w K mg base 1 T.f_law_draw T.fd_law_draw ["d", "many"] sp_law_draw) {sp_law_frac : SpD} (h_law_frac : FnD P w K mg base 2 T.f_law_frac T.fd_law_frac ["n", "d"] sp_law_frac) {sp_law_shown : SpD} (h_law_shown : FnD P w K mg base 4 T.f_law_shown T.fd_law_shown ["d", "many", "rate"] sp_law_shown) {S : SpD} (len : ∀ ds st R Rx, S ds st R Rx → ds.length = 1) (read : ∀ ds st R Rx, S ds st R Rx → wb_law_lot sp_law_draw sp_law_frac sp_law_shown (bodyEd R Rx) (startD 5 ds) st) : FnD P w K mg base 5 T.f_law_lot T.fd_law_lot ["d"] S :=
  fn_D T.F_law_lot sc_law_lot len (fun cdv A outer s H E hr tk hp => have nd : (["d", "many", "most", "rate", "at"] : List Str).Nodup := sc_law_lot.nd
    (jss_cons (js_set (i := 1) nd (j_add ji (j_call h_law_draw (hr.mono (by decide)) T.m_law_draw T.F_law_draw.kp T.b_law_draw tk (ja_cons (jv 0) (ja_cons ji ja_nil)))))
    (jss_cons (js_set (i := 2) nd (je_if (jt_eq hr (j_call h_law_draw (hr.mono (by decide)) T.m_law_draw T.F_law_draw.kp T.b_law_draw tk (ja_cons (jv 0) (ja_cons ji ja_nil))) ji) (j_pow ji ji) ji))
    (jss_cons (js_set (i := 3) nd (j_call h_law_frac (hr.mono (by decide)) T.m_law_frac T.F_law_frac.kp T.b_law_frac tk (ja_cons (j_add ji (j_call h_law_draw (hr.mono (by decide)) T.m_law_draw T.F_law_draw.kp T.b_law_draw tk (ja_cons (jv 0) (ja_cons ji ja_nil)))) (ja_cons (j_add ji (j_call h_law_draw (hr.mono (by decide)) T.m_law_draw T.F_law_draw.kp T.b_law_draw tk (ja_cons (jv 0) (ja_cons (jv 2) ja_nil)))) ja_nil))))
    (jss_one (js_ret (je_tup (ja_cons (j_tuple T.z_tuple (ja_cons (je_lc (own := [("at", 4)]) nd (jir1 T.z_range (ja_cons (jv 1) ja_nil)) (by kernel_rfl) (bind_name (i := 4) (by decide)) (fun _ _ _ _ _ => pg_name (i := 4) nd rfl (by first | exact Or.inl rfl | exact Or.inr rfl)) (fun _ _ _ _ _ => jts_nil) (fun _ _ _ _ _ => (j_call h_law_shown (hr.mono (by decide)) T.m_law_shown T.F_law_shown.kp T.b_law_shown takes_no (ja_cons (jv 0) (ja_cons (jv 1) (ja_cons (jv 3) ja_nil)))))) ja_nil)) (ja_cons (jv 3) ja_nil))))))))) read
theorem sc_law : FnScope ["script", "d", "one", "other", "lot", "many", "rate", "marks", "shown", "due", "at", "mark"] ["script"] (defScope s_law) := ⟨rfl, rfl, rfl, by decide +kernel, rfl, by decide +kernel, by decide +kernel⟩
theorem ok_law (T : Txt K mg) {sp_law_begin : SpD} (h_law_begin : FnD P w K mg base 1 T.f_law_begin T.fd_law_begin ["script"] sp_law_begin) {sp_law_lot : SpD} (h_law_lot : FnD P w K mg base 5 T.f_law_lot T.fd_law_lot ["d"] sp_law_lot) {sp_law_is_row : SpD} (h_law_is_row : FnD P w K mg base 2 T.f_law_is_row T.fd_law_is_row ["told", "due"] sp_law_is_row) {sp_share_names : SpD} (h_share_names : FnD P w K mg base 3 T.f_share_names T.fd_share_names ["shown", "rate"] sp_share_names) {sp_law_union : SpD} (h_law_union : FnD P w K mg base 2 T.f_law_union T.fd_law_union ["shown", "rate"] sp_law_union) {sp_law_draw : SpD} (h_law_draw : FnD P w K mg base 1 T.f_law_draw T.fd_law_draw ["d", "many"] sp_law_draw) {sp_law_above_zero : SpD} (h_law_above_zero : FnD P w K mg base 3 T.f_law_above_zero T.fd_law_above_zero ["d", "bottom"] sp_law_above_zero) {sp_law_mark : SpD} (h_law_mark : FnD P w K mg base 4 T.f_law_mark T.fd_law_mark ["d", "many", "rate"] sp_law_mark) {sp_law_over : SpD} (h_law_over : FnD P w K mg base 3 T.f_law_over T.fd_law_over ["a", "b"] sp_law_over) {sp_step_up : SpD} (h_step_up : FnD P w K mg base 3 T.f_step_up T.fd_step_up ["marks", "rate"] sp_step_up) {S : SpD} (len : ∀ ds st R Rx, S ds st R Rx → ds.length = 1) (read : ∀ ds st R Rx, S ds st R Rx → wb_law sp_law_begin sp_law_lot sp_law_is_row sp_share_names sp_law_union sp_law_draw sp_law_above_zero sp_law_mark sp_law_over sp_step_up (bodyEd R Rx) (startD 12 ds) st) : FnD P w K mg base 6 T.f_law T.fd_law ["script"] S :=
  fn_D T.F_law sc_law len (fun cdv A outer s H E hr tk hp => have nd : (["script", "d", "one", "other", "lot", "many", "rate", "marks", "shown", "due", "at", "mark"] : List Str).Nodup := sc_law.nd
    (jss_cons (js_set (i := 1) nd (j_call h_law_begin (hr.mono (by decide)) T.m_law_begin T.F_law_begin.kp T.b_law_begin tk (ja_cons (jv 0) ja_nil)))
    (jss_cons (js_set (i := 2) nd (j_call h_law_lot (hr.mono (by decide)) T.m_law_lot T.F_law_lot.kp T.b_law_lot tk (ja_cons (jv 1) ja_nil)))
    (jss_cons (js_set (i := 3) nd (j_call h_law_lot (hr.mono (by decide)) T.m_law_lot T.F_law_lot.kp T.b_law_lot tk (ja_cons (jv 1) ja_nil)))
    (jss_cons (js_for hp (jit (je_lst (ja_cons (jv 2) (ja_cons (jv 3) (ja_cons (jv 2) ja_nil))))) (jg_name (i := 4) nd) (jss_one (js_if (jt_not (jt_val (j_call h_law_is_row (hr.mono (by decide)) T.m_law_is_row T.F_law_is_row.kp T.b_law_is_row tk (ja_cons (j_call h_share_names (hr.mono (by decide)) T.m_share_names T.F_share_names.kp T.b_share_names tk (ja_cons (j_ix (jv 4) ji) (ja_cons (j_ix (jv 4) ji) ja_nil))) (ja_cons (j_call h_law_union (hr.mono (by decide)) T.m_law_union T.F_law_union.kp T.b_law_union tk (ja_cons (j_ix (jv 4) ji) (ja_cons (j_ix (jv 4) ji) ja_nil))) ja_nil))))) (jss_one (js_ret jb)) jss_nil)))
    (jss_cons (js_set (i := 5) nd (j_add ji (j_call h_law_draw (hr.mono (by decide)) T.m_law_draw T.F_law_draw.kp T.b_law_draw tk (ja_cons (jv 1) (ja_cons ji ja_nil)))))
    (jss_cons (js_set (i := 6) nd (j_call h_law_above_zero (hr.mono (by decide)) T.m_law_above_zero T.F_law_above_zero.kp T.b_law_above_zero tk (ja_cons (jv 1) (ja_cons ji ja_nil))))
    (jss_cons (js_set (i := 7) nd (j_tuple T.z_tuple (ja_cons (je_lc (own := [("at", 10)]) nd (jir1 T.z_range (ja_cons (jv 5) ja_nil)) (by kernel_rfl) (bind_name (i := 10) (by decide)) (fun _ _ _ _ _ => pg_name (i := 10) nd rfl (by first | exact Or.inl rfl | exact Or.inr rfl)) (fun _ _ _ _ _ => jts_nil) (fun _ _ _ _ _ => (j_call h_law_mark (hr.mono (by decide)) T.m_law_mark T.F_law_mark.kp T.b_law_mark takes_no (ja_cons (jv 1) (ja_cons (jv 5) (ja_cons (jv 6) ja_nil)))))) ja_nil)))
    (jss_cons (js_set (i := 8) nd (j_tuple T.z_tuple (ja_cons (je_lc (own := [("mark", 11)]) nd (jit (jv 7)) (by kernel_rfl) (bind_name (i := 11) (by decide)) (fun _ _ _ _ _ => pg_name (i := 11) nd rfl (by first | exact Or.inl rfl | exact Or.inr rfl)) (fun _ _ _ _ _ => jts_nil) (fun _ _ _ _ _ => (j_call h_law_over (hr.mono (by decide)) T.m_law_over T.F_law_over.kp T.b_law_over takes_no (ja_cons (je_tup (ja_cons ji (ja_cons ji ja_nil))) (ja_cons (jv 11) ja_nil))))) ja_nil)))
    (jss_cons (js_set (i := 9) nd (j_call h_law_union (hr.mono (by decide)) T.m_law_union T.F_law_union.kp T.b_law_union tk (ja_cons (jv 8) (ja_cons (jv 6) ja_nil))))
    (jss_cons (js_if (jt_not (jt_val (j_call h_law_is_row (hr.mono (by decide)) T.m_law_is_row T.F_law_is_row.kp T.b_law_is_row tk (ja_cons (j_call h_step_up (hr.mono (by decide)) T.m_step_up T.F_step_up.kp T.b_step_up tk (ja_cons (jv 7) (ja_cons (jv 6) ja_nil))) (ja_cons (jv 9) ja_nil))))) (jss_one (js_ret jb)) jss_nil)
    (jss_one (js_ret (j_call h_law_is_row (hr.mono (by decide)) T.m_law_is_row T.F_law_is_row.kp T.b_law_is_row tk (ja_cons (j_call h_share_names (hr.mono (by decide)) T.m_share_names T.F_share_names.kp T.b_share_names tk (ja_cons (jv 8) (ja_cons (jv 6) ja_nil))) (ja_cons (jv 9) ja_nil)))))))))))))))) read
end
end K64
end DL

namespace DL
namespace C
open PySem L2
local macro_rules | `(tactic| walk_at "look") => `(tactic| first
  | assumption
  | exact put_same
  | (refine look_ne (by first | assumption | exact Ne.symm (by assumption)) ?_; walk_at "look")
  | (refine look_new (by assumption) ?_; walk_at "look"))
local macro_rules | `(tactic| walk_at "side") => `(tactic| first | assumption | exact trivial | decide | omega | exact ⟨by assumption, by assumption⟩ | exact ⟨by omega, by omega⟩ | exact ⟨by decide, by decide⟩ | exact ⟨by decide, by decide, by decide⟩ | (exact .inl (.inl ⟨by decide, by decide⟩)) | (exact .inl (.inr ⟨by decide, by decide⟩)) | (exact .inl (.inl ⟨by omega, by omega⟩)) | (exact .inl (.inr ⟨by omega, by omega⟩)))
local macro_rules | `(tactic| walk_at "opt") => `(tactic| first | exact atI_0 _ _ | exact atI_1 _ _ _ | exact atI_2 _ _ _ _ | exact atI_3 _ _ _ _ _ | exact atI_4 _ _ _ _ _ _ | assumption | exact boolsOf_map _ | exact intsOf_map _ | exact rfl)
local macro_rules | `(tactic| walk_at "s1") => `(tactic| first
  | ((with_reducible refine' s_var ?k1 ?_); (case k1 => exact rfl))
  | with_reducible refine s_bin ?_
  | with_reducible refine s_c ?_
  | with_reducible refine s_seqM ?_
  | with_reducible refine s_asB ?_
  | with_reducible refine s_asI ?_
  | with_reducible refine s_asRI ?_
  | with_reducible refine s_acons ?_
  | with_reducible refine s_anil ?_
  | with_reducible refine s_call ?_
  | with_reducible refine s_cb ?_
  | with_reducible refine s_set ?_
  | with_reducible refine s_ixT ?_
  | with_reducible refine s_ixL ?_
  | with_reducible refine s_ixS ?_
  | ((with_reducible refine' s_getL ?k1 ?_); (case k1 => walk_at "look"))
  | ((with_reducible refine' s_opt ?k1 ?_); (case k1 => walk_at "opt"))
  | with_reducible refine s_binT ?_
  | with_reducible refine s_tup ?_
  | with_reducible refine s_lst ?_
  | with_reducible refine s_ret ?_
  | with_reducible refine s_if ?_
  | with_reducible refine s_nextM ?_
  | with_reducible refine s_drop ?_
  | with_reducible refine s_par ?_
  | with_reducible refine s_asg ?_
  | with_reducible refine s_gN ?_
  | ((with_reducible refine' s_gT ?k1 ?_); (case k1 => exact rfl))
  | with_reducible refine s_gsC ?_
  | with_reducible refine s_gsN ?_
  | with_reducible refine s_gIx ?_
  | with_reducible refine s_setD ?_
  | with_reducible refine s_for ?_
  | with_reducible refine s_b ?_
  | with_reducible refine s_and ?_
  | with_reducible refine s_or ?_
  | with_reducible refine s_not ?_
  | with_reducible refine s_ife ?_
  | with_reducible refine s_neg ?_
  | with_reducible refine s_notV ?_
  | with_reducible refine s_andV ?_
  | with_reducible refine s_orV ?_
  | with_reducible refine s_isi ?_
  | with_reducible refine s_m ?_
  | with_reducible refine s_none ?_
  | with_reducible refine s_noneT ?_
  | with_reducible refine s_sl ?_
  | with_reducible refine s_oN ?_
  | with_reducible refine s_oS ?_
  | with_reducible refine s_lc ?_
  | with_reducible refine s_bN ?_
  | with_reducible refine s_bT ?_
  | with_reducible refine s_bTC ?_
  | with_reducible refine s_bTN ?_
  | with_reducible refine s_it ?_
  | with_reducible refine s_rng ?_
  | with_reducible refine s_yes ?_
  | with_reducible refine s_cT ?_
  | with_reducible refine s_cF ?_
  | with_reducible refine s_retN ?_
  | with_reducible refine s_brk ?_
  | with_reducible refine s_cnt ?_
  | ((with_reducible refine' s_aug ?k1 ?_); (case k1 => exact rfl))
  | with_reducible refine s_augix ?_
  | with_reducible refine s_addI ?_
  | ((with_reducible refine' s_addT ?k1 ?_); (case k1 => walk_at "side"))
  | ((with_reducible refine' s_addS ?k1 ?_); (case k1 => walk_at "side"))
  | with_reducible refine s_subI ?_
  | ((with_reducible refine' s_mulI ?k1 ?_); (case k1 => walk_at "side"))
  | ((with_reducible refine' s_divI ?k1 ?_); (case k1 => walk_at "side"))
  | ((with_reducible refine' s_modI ?k1 ?_); (case k1 => walk_at "side"))
  | ((with_reducible refine' s_powI ?k1 ?_); (case k1 => walk_at "side"))
  | ((with_reducible refine' s_shlI ?k1 ?_); (case k1 => walk_at "side"))
  | with_reducible refine s_iaddI ?_
  | ((with_reducible refine' s_iaddS ?k1 ?_); (case k1 => walk_at "side"))
  | with_reducible refine s_eqI ?_
  | with_reducible refine s_neI ?_
  | with_reducible refine s_eqS ?_
  | with_reducible refine s_neS ?_
  | with_reducible refine s_eqB ?_
  | with_reducible refine s_neB ?_
  | with_reducible refine s_cmp ?_
  | ((with_reducible refine' s_ixX ?k1 ?_); (case k1 => walk_at "side"))
  | with_reducible refine s_lenT ?_
  | with_reducible refine s_lenL ?_
  | with_reducible refine s_lenC ?_
  | ((with_reducible refine' s_lenS ?k1 ?_); (case k1 => walk_at "side"))
  | with_reducible refine s_abs ?_
  | with_reducible refine s_intI ?_
  | with_reducible refine s_intB ?_
  | with_reducible refine s_gcd ?_
  | with_reducible refine s_listT ?_
  | with_reducible refine s_listL ?_
  | with_reducible refine s_tupT ?_
  | with_reducible refine s_tupL ?_
  | with_reducible refine s_all ?_
  | with_reducible refine s_any ?_
  | with_reducible refine s_sum ?_
  | with_reducible refine s_inL ?_
  | with_reducible refine s_inT ?_
  | with_reducible refine s_append ?_
  | with_reducible refine s_extend ?_
  | with_reducible refine s_popAt ?_
  | with_reducible refine s_pop ?_
  | with_reducible refine s_slT ?_
  | with_reducible refine s_slL ?_
  | with_reducible refine s_itT ?_
  | with_reducible refine s_itL ?_
  | with_reducible refine s_itC ?_
  | ((with_reducible refine' s_rng1 ?k1 ?_); (case k1 => walk_at "side"))
  | ((with_reducible refine' s_rng2 ?k1 ?_); (case k1 => walk_at "side"))
  | ((with_reducible refine' s_rngD ?k1 ?_); (case k1 => walk_at "side"))
  | ((with_reducible refine' s_isLst ?k1 ?_); (case k1 => walk_at "look"))
  | ((with_reducible refine' s_lstOkL ?k1 ?_); (case k1 => walk_at "look"))
  | ((with_reducible refine' And.intro ?k1 ?_); (case k1 => walk_at "side")))
local macro_rules | `(tactic| walk_at "s") => `(tactic| repeat (walk_at "s1"))
/-- agreement off one place -/
def Sx (d : Addr) (s t : DS) : Prop := ∀ a o, a ≠ d → s a = some o → t a = some o
theorem Sx.refl (d : Addr) (s : DS) : Sx d s s := fun _ _ _ h => h
theorem Sx.trans {d : Addr} {s t u : DS} (a : Sx d s t) (b : Sx d t u) : Sx d s u := fun c o n h => b c o n (a c o n h)
theorem Sx.put {d : Addr} {s : DS} {o : OB} : Sx d s (put s d o) := fun a u n h => by rw [put_ne n]; exact h
theorem Sx.of {d : Addr} {s t : DS} (h : Sub s t) : Sx d s t := fun a o _ e => h a o e
theorem Sx.new {d p : Addr} {s : DS} {o : OB} (h : s p = none) : Sx d s (DL.put s p o) := Sx.of (Sub.put_new h)
/-- the state of the draws at d, its cells at c -/
def DrawO (c : Addr) (o : OB) : Prop := ∃ p r s : Int, o = .lst [.ref c, .int p, .int r, .int s] ∧ 0 ≤ p ∧ 0 ≤ r
structure DK (st : DS) (d c : Addr) (ns : List Int) : Prop where
  hd : ∃ o, st d = some o ∧ DrawO c o
  hc : st c = some (.lst (ns.map D.int))
  ne : c ≠ d
theorem DK.put {st : DS} {d c : Addr} {ns : List Int} (h : DK st d c ns) {o : OB} (ho : DrawO c o) : DK (put st d o) d c ns := ⟨⟨o, put_same, ho⟩, by rw [put_ne h.ne]; exact h.hc, h.ne⟩
theorem DK.sub {st st' : DS} {d c : Addr} {ns : List Int} (h : DK st d c ns) (s : Sub st st') : DK st' d c ns := by
  obtain ⟨⟨o, e, q⟩, hc, ne⟩ := h
  exact ⟨⟨o, s _ _ e, q⟩, s _ _ hc, ne⟩
theorem DK.new {st : DS} {d c p : Addr} {ns : List Int} {o : OB} (h : DK st d c ns) (hp : st p = none) : DK (DL.put st p o) d c ns := h.sub (Sub.put_new hp)
/-- what one draw after another brings about -/
structure Dr (d c : Addr) (ns : List Int) (st st' : DS) : Prop where
  sx : Sx d st st'
  dk : DK st' d c ns
theorem Dr.refl {d c : Addr} {ns : List Int} {st : DS} (h : DK st d c ns) : Dr d c ns st st := ⟨.refl _ _, h⟩
theorem Dr.trans {d c : Addr} {ns : List Int} {s t u : DS} (a : Dr d c ns s t) (b : Dr d c ns t u) : Dr d c ns s u := ⟨a.sx.trans b.sx, b.dk⟩
theorem Dr.new {d c p : Addr} {ns : List Int} {s t : DS} {o : OB} (a : Dr d c ns s t) (h : t p = none) : Dr d c ns s (DL.put t p o) := ⟨a.sx.trans (.new h), a.dk.new h⟩
def spDraw : SpD := fun ds st R _ => ∃ (d c : Addr) (ns : List Int) (many : Int), ds = [.ref d, .int many] ∧ DK st d c ns ∧ 0 < many ∧ many.natAbs.log2 < 9000 ∧
  ∀ v st', 0 ≤ v → v < many → Dr d c ns st st' → R (.int v) st'
theorem len_draw : ∀ ds st R Rx, spDraw ds st R Rx → ds.length = 2 := by
  rintro ds st R Rx ⟨d, c, ns, many, rfl, -⟩; rfl
theorem atI_ints {ns : List Int} {p : Int} (h0 : 0 ≤ p) (h1 : p < ns.length) : ∃ z, atI (ns.map D.int) p = some (.int z) := by
  obtain ⟨k, rfl⟩ := Int.eq_ofNat_of_zero_le h0
  have hk : k < ns.length := by omega
  exact ⟨ns[k], atI_nat (by rw [List.getElem?_map, List.getElem?_eq_getElem hk]; rfl)⟩
theorem read_draw : ∀ ds st R Rx, spDraw ds st R Rx → wb_law_draw (bodyEd R Rx) (startD 5 ds) st := by
  rintro ds st R Rx ⟨d, c, ns, many, rfl, dk, hm, hl, kk⟩
  have k : ∀ v o, 0 ≤ v → v < many → DrawO c o → R (.int v) (DL.put st d o) := fun v o h0 h1 ho => kk v _ h0 h1 ⟨.put, dk.put ho⟩
  obtain ⟨⟨o, ho, p, r, s, rfl, h0, hr⟩, hc, ne⟩ := dk
  unfold wb_law_draw bodyEd
  walk_at "s"
  refine s_dec (fun e => ?_) (fun e => ?_)
  · walk_at "s"
    refine s_end (k _ _ (Int.emod_nonneg _ (by omega)) (Int.emod_lt_of_pos _ hm) ⟨_, _, _, rfl, h0, Int.ediv_nonneg hr (by omega)⟩)
  · walk_at "s"
    refine s_dec (fun e1 => ?_) (fun e1 => ?_)
    · walk_at "s"
      rw [List.length_map] at e1
      obtain ⟨z, hz⟩ := atI_ints h0 e1
      refine s_opt hz ?_
      walk_at "s"
      have hz0 : 0 ≤ (2 * if z < 0 then -z else z) + if decide (z < 0) = true then 1 else 0 := by split <;> split <;> omega
      refine s_dec (fun e2 => ?_) (fun e2 => ?_)
      · walk_at "s"
        rw [put_put]
        exact s_end (k _ _ (Int.emod_nonneg _ (by omega)) (Int.emod_lt_of_pos _ hm) ⟨_, _, _, rfl, by omega, Int.ediv_nonneg (Int.emod_nonneg _ (by decide)) (by omega)⟩)
      · walk_at "s"
        rw [put_put]
        exact s_end (k _ _ (Int.emod_nonneg _ (by omega)) (Int.emod_lt_of_pos _ hm) ⟨_, _, _, rfl, by omega, by omega⟩)
    · walk_at "s"
      refine s_dec (fun e2 => ?_) (fun e2 => ?_)
      · walk_at "s"
        rw [put_put]
        exact s_end (k _ _ (Int.emod_nonneg _ (by omega)) (Int.emod_lt_of_pos _ hm) ⟨_, _, _, rfl, by omega, Int.ediv_nonneg (Int.emod_nonneg _ (by decide)) (by omega)⟩)
      · walk_at "s"
        rw [put_put]
        exact s_end (k _ _ (Int.emod_nonneg _ (by omega)) (Int.emod_lt_of_pos _ hm) ⟨_, _, _, rfl, by omega, by omega⟩)
/-! the begin -/
def spBegin : SpD := fun ds st R _ => ∃ ns : List Int, ds = [.scr (ns.map D.int)] ∧ ns.length ≤ sizeLine ∧ ∀ d c st', Sub st st' → DK st' d c ns → R (.ref d) st'
theorem len_begin : ∀ ds st R Rx, spBegin ds st R Rx → ds.length = 1 := by
  rintro ds st R Rx ⟨ns, rfl, -⟩; rfl
theorem read_begin : ∀ ds st R Rx, spBegin ds st R Rx → wb_law_begin (bodyEd R Rx) (startD 2 ds) st := by
  rintro ds st R Rx ⟨ns, rfl, hl, k⟩
  unfold wb_law_begin bodyEd
  walk_at "s"
  refine lc_calm (fun d => d) (fun _ => true) trivial (by simpa using hl) (fun d hd kk kn h1 h2 => ?_) ?_
  · obtain ⟨z, -, rfl⟩ := List.mem_map.mp hd
    walk_at "s"
    exact h1 rfl
  · rw [List.filter_eq_self.mpr (fun _ _ => rfl), List.map_id', List.nil_append]
    intro c hc
    walk_at "s"
    intro d hd
    have nd : c ≠ d := fun e => by rw [e, put_same] at hd; cases hd
    exact s_end (k d c _ ((Sub.put_new hc).trans (Sub.put_new hd)) ⟨⟨_, put_same, _, _, _, rfl, by decide, by decide⟩, by rw [put_ne nd, put_same], nd⟩)
/-! is a whole number -/
def spIsInt : SpD := fun ds st R _ => ∃ d, ds = [d] ∧ lstOk d st ∧ R (.bl (isTy .int d && !isTy .bool d)) st
theorem len_is_int : ∀ ds st R Rx, spIsInt ds st R Rx → ds.length = 1 := by
  rintro ds st R Rx ⟨ns, rfl, -⟩; rfl
theorem read_is_int : ∀ ds st R Rx, spIsInt ds st R Rx → wb_law_is_int (bodyEd R Rx) (startD 1 ds) st := by
  rintro ds st R Rx ⟨d, rfl, hl, k⟩
  unfold wb_law_is_int bodyEd
  walk_at "s"
  refine s_b2 (fun e => ?_) (fun e => ?_)
  · walk_at "s"
    rw [e] at k
    exact s_end k
  · walk_at "s"
    rw [e] at k
    exact s_end k
/-! gcd -/
def spGcd : SpD := fun ds st R _ => ∃ a b : Int, ds = [.int a, .int b] ∧ R (.int ((Nat.gcd a.natAbs b.natAbs : Nat) : Int)) st
theorem len_gcd : ∀ ds st R Rx, spGcd ds st R Rx → ds.length = 2 := by
  rintro ds st R Rx ⟨a, b, rfl, -⟩; rfl
theorem abs_eq (a : Int) : (if a < 0 then -a else a) = (a.natAbs : Int) := by split <;> omega
theorem read_gcd : ∀ ds st R Rx, spGcd ds st R Rx → wb_law_gcd (bodyEd R Rx) (startD 2 ds) st := by
  rintro ds st R Rx ⟨a, b, rfl, k⟩
  unfold wb_law_gcd bodyEd
  walk_at "s"
  rw [abs_eq, abs_eq]
  refine ⟨fun m ep st' => ∃ x y : Nat, m = y ∧ st' = st ∧ ep = [some (.int x), some (.int y)] ∧ Nat.gcd x y = Nat.gcd a.natAbs b.natAbs, ⟨_, _, _, rfl, rfl, rfl, rfl⟩, ?_⟩
  rintro m ep st' ⟨x, y, rfl, rfl, rfl, hg⟩
  walk_at "s"
  refine s_ndec (fun e => ?_) (fun e => ?_)
  · walk_at "s"
    refine ⟨x % m, Nat.mod_lt _ (by omega), m, x % m, rfl, rfl, rfl, ?_⟩
    rw [← hg, Nat.gcd_comm x m, Nat.gcd_rec m x, Nat.gcd_comm]
  · walk_at "s"
    have : m = 0 := by omega
    subst this
    rw [Nat.gcd_zero_right] at hg
    exact s_end (by rw [hg]; exact k)
/-! fractions -/
/-- what holds of n over d brought to lowest terms -/
def FracK (n d : Int) (q : Int → Int → Prop) : Prop := ∀ n' d' : Int, 0 < d' → n' * d = n * d' → Nat.gcd n'.natAbs d'.natAbs = 1 → n'.natAbs ≤ n.natAbs → d'.natAbs ≤ d.natAbs → q n' d'
def fr (n d : Int) : D := .tup [.int n, .int d]
theorem div_gcd {n d : Int} (hd : 0 < d) {q : Int → Int → Prop} (h : FracK n d q) : q (n / ((Nat.gcd n.natAbs d.natAbs : Nat) : Int)) (d / ((Nat.gcd n.natAbs d.natAbs : Nat) : Int)) := by
  have hg : 0 < Nat.gcd n.natAbs d.natAbs := Nat.gcd_pos_of_pos_right _ (by omega)
  obtain ⟨x, hx⟩ : ((Nat.gcd n.natAbs d.natAbs : Nat) : Int) ∣ n := Int.ofNat_dvd_left.mpr (Nat.gcd_dvd_left _ _)
  obtain ⟨y, hy⟩ : ((Nat.gcd n.natAbs d.natAbs : Nat) : Int) ∣ d := Int.ofNat_dvd_left.mpr (Nat.gcd_dvd_right _ _)
  generalize eg : Nat.gcd n.natAbs d.natAbs = g at *
  have hg0 : (g : Int) ≠ 0 := by omega
  have ex : n / (g : Int) = x := by rw [hx]; exact Int.mul_ediv_cancel_left _ hg0
  have ey : d / (g : Int) = y := by rw [hy]; exact Int.mul_ediv_cancel_left _ hg0
  rw [ex, ey]
  have hy0 : 0 < y := by
    rw [hy] at hd
    exact Int.pos_of_mul_pos_right hd (by omega)
  refine h x y hy0 ?_ ?_ ?_ ?_
  · rw [hx, hy, Int.mul_comm (g : Int) x, Int.mul_assoc]
  · rw [hx, hy, Int.natAbs_mul, Int.natAbs_mul, Int.natAbs_natCast, Nat.gcd_mul_left] at eg
    exact Nat.eq_of_mul_eq_mul_left hg (by rw [eg, Nat.mul_one])
  · rw [hx, Int.natAbs_mul, Int.natAbs_natCast]; exact Nat.le_mul_of_pos_left _ hg
  · rw [hy, Int.natAbs_mul, Int.natAbs_natCast]; exact Nat.le_mul_of_pos_left _ hg
theorem FracK.neg {n d : Int} {q : Int → Int → Prop} (h : FracK n d q) : FracK (-n) (-d) q := fun n' d' h1 h2 h3 h4 h5 => h n' d' h1 (by rw [Int.mul_neg, Int.neg_mul] at h2; exact Int.neg_inj.mp h2) h3 (by rwa [Int.natAbs_neg] at h4) (by rwa [Int.natAbs_neg] at h5)
def spFrac : SpD := fun ds st R _ => ∃ n d : Int, ds = [.int n, .int d] ∧ d ≠ 0 ∧ d.natAbs.log2 < 9000 ∧ FracK n d fun n' d' => R (fr n' d') st
theorem len_frac : ∀ ds st R Rx, spFrac ds st R Rx → ds.length = 2 := by
  rintro ds st R Rx ⟨n, d, rfl, -⟩; rfl
theorem log2_le {a b : Nat} (h : a ≤ b) (ha : 0 < a) {k : Nat} (hb : b.log2 < k) : a.log2 < k := by
  have hb0 : b ≠ 0 := by omega
  exact (Nat.log2_lt (by omega)).mpr (Nat.lt_of_le_of_lt h ((Nat.log2_lt hb0).mp hb))
theorem gcd_side {n d : Int} (hd : d ≠ 0) (hl : d.natAbs.log2 < 9000) : 0 < ((Nat.gcd n.natAbs d.natAbs : Nat) : Int) ∧ (((Nat.gcd n.natAbs d.natAbs : Nat) : Int)).natAbs.log2 < 9000 := by
  have hg : 0 < Nat.gcd n.natAbs d.natAbs := Nat.gcd_pos_of_pos_right _ (by omega)
  refine ⟨by omega, ?_⟩
  rw [Int.natAbs_natCast]
  exact log2_le (Nat.gcd_le_right _ (by omega)) hg hl
theorem read_frac : ∀ ds st R Rx, spFrac ds st R Rx → wb_law_frac spGcd (bodyEd R Rx) (startD 3 ds) st := by
  rintro ds st R Rx ⟨n, d, rfl, hd, hl, k⟩
  unfold wb_law_frac bodyEd
  walk_at "s"
  refine s_dec (fun e => ?_) (fun e => ?_)
  · walk_at "s"
    refine ⟨_, _, rfl, ?_⟩
    walk_at "s"
    refine s_divI (gcd_side (by omega) (by rwa [Int.natAbs_neg])) ?_
    walk_at "s"
    refine s_divI (gcd_side (by omega) (by rwa [Int.natAbs_neg])) ?_
    walk_at "s"
    exact s_end (div_gcd (by omega) k.neg)
  · walk_at "s"
    refine ⟨_, _, rfl, ?_⟩
    walk_at "s"
    refine s_divI (gcd_side (by omega) hl) ?_
    walk_at "s"
    refine s_divI (gcd_side (by omega) hl) ?_
    walk_at "s"
    exact s_end (div_gcd (by omega) k)
theorem read_fraction : ∀ ds st R Rx, spFrac ds st R Rx → wb_fraction (bodyEd R Rx) (startD 3 ds) st := by
  rintro ds st R Rx ⟨n, d, rfl, hd, hl, k⟩
  unfold wb_fraction bodyEd
  walk_at "s"
  refine s_noP hd ?_
  walk_at "s"
  refine s_dec (fun e => ?_) (fun e => ?_)
  · walk_at "s"
    refine s_divI (gcd_side (by omega) (by rwa [Int.natAbs_neg])) ?_
    walk_at "s"
    refine s_divI (gcd_side (by omega) (by rwa [Int.natAbs_neg])) ?_
    walk_at "s"
    exact s_end (div_gcd (by omega) k.neg)
  · walk_at "s"
    refine s_divI (gcd_side (by omega) hl) ?_
    walk_at "s"
    refine s_divI (gcd_side (by omega) hl) ?_
    walk_at "s"
    exact s_end (div_gcd (by omega) k)
/-- the product of two -/
def spTimes : SpD := fun ds st R _ => ∃ a b c d : Int, ds = [fr a b, fr c d] ∧ MulOk a c ∧ MulOk b d ∧ b * d ≠ 0 ∧ (b * d).natAbs.log2 < 9000 ∧ FracK (a * c) (b * d) fun n' d' => R (fr n' d') st
def spOver : SpD := fun ds st R _ => ∃ a b c d : Int, ds = [fr a b, fr c d] ∧ MulOk a d ∧ MulOk b c ∧ b * c ≠ 0 ∧ (b * c).natAbs.log2 < 9000 ∧ FracK (a * d) (b * c) fun n' d' => R (fr n' d') st
theorem len_times : ∀ ds st R Rx, spTimes ds st R Rx → ds.length = 2 := by
  rintro ds st R Rx ⟨_, _, _, _, rfl, -⟩; rfl
theorem len_over : ∀ ds st R Rx, spOver ds st R Rx → ds.length = 2 := by
  rintro ds st R Rx ⟨_, _, _, _, rfl, -⟩; rfl
theorem read_ltimes : ∀ ds st R Rx, spTimes ds st R Rx → wb_law_times spFrac (bodyEd R Rx) (startD 2 ds) st := by
  rintro ds st R Rx ⟨a, b, c, d, rfl, h1, h2, h3, h4, k⟩
  unfold wb_law_times bodyEd fr
  walk_at "s"
  exact ⟨_, _, rfl, h3, h4, fun n' d' z1 z2 z3 z4 z5 => s_end (k n' d' z1 z2 z3 z4 z5)⟩
theorem read_lover : ∀ ds st R Rx, spOver ds st R Rx → wb_law_over spFrac (bodyEd R Rx) (startD 2 ds) st := by
  rintro ds st R Rx ⟨a, b, c, d, rfl, h1, h2, h3, h4, k⟩
  unfold wb_law_over bodyEd fr
  walk_at "s"
  exact ⟨_, _, rfl, h3, h4, fun n' d' z1 z2 z3 z4 z5 => s_end (k n' d' z1 z2 z3 z4 z5)⟩
theorem read_times : ∀ ds st R Rx, spTimes ds st R Rx → wb_times spFrac (bodyEd R Rx) (startD 2 ds) st := by
  rintro ds st R Rx ⟨a, b, c, d, rfl, h1, h2, h3, h4, k⟩
  unfold wb_times bodyEd fr
  walk_at "s"
  exact ⟨_, _, rfl, h3, h4, fun n' d' z1 z2 z3 z4 z5 => s_end (k n' d' z1 z2 z3 z4 z5)⟩
theorem read_over : ∀ ds st R Rx, spOver ds st R Rx → wb_over spFrac (bodyEd R Rx) (startD 2 ds) st := by
  rintro ds st R Rx ⟨a, b, c, d, rfl, h1, h2, h3, h4, k⟩
  unfold wb_over bodyEd fr
  walk_at "s"
  exact ⟨_, _, rfl, h3, h4, fun n' d' z1 z2 z3 z4 z5 => s_end (k n' d' z1 z2 z3 z4 z5)⟩
/-- a1/a2 at most b1/b2; less -/
def spAtMost : SpD := fun ds st R _ => ∃ a b c d : Int, ds = [fr a b, fr c d] ∧ MulOk a d ∧ MulOk c b ∧ R (.bl (decide (a * d ≤ c * b))) st
def spLess : SpD := fun ds st R _ => ∃ a b c d : Int, ds = [fr a b, fr c d] ∧ MulOk a d ∧ MulOk c b ∧ R (.bl (decide (a * d < c * b))) st
theorem len_at_most : ∀ ds st R Rx, spAtMost ds st R Rx → ds.length = 2 := by
  rintro ds st R Rx ⟨_, _, _, _, rfl, -⟩; rfl
theorem len_less : ∀ ds st R Rx, spLess ds st R Rx → ds.length = 2 := by
  rintro ds st R Rx ⟨_, _, _, _, rfl, -⟩; rfl
theorem read_at_most : ∀ ds st R Rx, spAtMost ds st R Rx → wb_at_most (bodyEd R Rx) (startD 2 ds) st := by
  rintro ds st R Rx ⟨a, b, c, d, rfl, h1, h2, k⟩
  unfold wb_at_most bodyEd fr
  walk_at "s"
  exact s_end k
theorem read_less : ∀ ds st R Rx, spLess ds st R Rx → wb_law_less (bodyEd R Rx) (startD 2 ds) st := by
  rintro ds st R Rx ⟨a, b, c, d, rfl, h1, h2, k⟩
  unfold wb_law_less bodyEd fr
  walk_at "s"
  exact s_end k
/-- a fraction with no sign: drawn -/
def spFraction : SpD := fun ds st R _ => ∃ (d c : Addr) (ns : List Int) (top bot : Int), ds = [.ref d, .int top, .int bot] ∧ DK st d c ns ∧ 0 ≤ top ∧ (top + 1).natAbs.log2 < 9000 ∧ 0 < bot ∧ bot.natAbs.log2 < 9000 ∧
  ∀ n m st', 0 ≤ n → n ≤ top → 0 < m → m ≤ bot → Nat.gcd n.natAbs m.natAbs = 1 → Dr d c ns st st' → R (fr n m) st'
theorem len_fraction : ∀ ds st R Rx, spFraction ds st R Rx → ds.length = 3 := by
  rintro ds st R Rx ⟨_, _, _, _, _, rfl, -⟩; rfl
/-- of a fraction with 0 <= n, 0 < d: the terms -/
theorem FracK.pos {n d : Int} (h0 : 0 ≤ n) (hd : 0 < d) {q : Int → Int → Prop} (h : ∀ n' d' : Int, 0 ≤ n' → n' ≤ n → 0 < d' → d' ≤ d → n' * d = n * d' → Nat.gcd n'.natAbs d'.natAbs = 1 → q n' d') : FracK n d q := fun n' d' h1 h2 h3 h4 h5 => by
  have : 0 ≤ n' := by
    rcases Int.lt_or_le n' 0 with hn | hn
    · have := Int.mul_neg_of_neg_of_pos hn hd
      have h9 : 0 ≤ n * d' := Int.mul_nonneg h0 (by omega)
      omega
    · exact hn
  exact h n' d' this (by omega) h1 (by omega) h2 h3
theorem read_lfraction : ∀ ds st R Rx, spFraction ds st R Rx → wb_law_fraction spFrac spDraw (bodyEd R Rx) (startD 3 ds) st := by
  rintro ds st R Rx ⟨d, c, ns, top, bot, rfl, dk, h0, h1, h2, h3, k⟩
  unfold wb_law_fraction bodyEd
  walk_at "s"
  refine ⟨d, c, ns, _, rfl, dk, by omega, h1, fun v st1 hv1 hv2 r1 => ?_⟩
  walk_at "s"
  refine ⟨d, c, ns, _, rfl, r1.dk, by omega, h3, fun v2 st2 hv3 hv4 r2 => ?_⟩
  walk_at "s"
  refine ⟨_, _, rfl, by omega, log2_le (b := bot.natAbs) (by omega) (by omega) h3, FracK.pos (by omega) (by omega) fun n' d' z1 z2 z3 z4 z5 z6 => s_end (k _ _ _ z1 (by omega) z3 (by omega) z6 (r1.trans r2))⟩
/-- a fraction in (0, 1] -/
def spAboveZero : SpD := fun ds st R _ => ∃ (d c : Addr) (ns : List Int) (bot : Int), ds = [.ref d, .int bot] ∧ DK st d c ns ∧ 0 < bot ∧ bot.natAbs.log2 < 9000 ∧
  ∀ n m st', 0 < n → n ≤ m → m ≤ bot → Nat.gcd n.natAbs m.natAbs = 1 → Dr d c ns st st' → R (fr n m) st'
theorem len_above_zero : ∀ ds st R Rx, spAboveZero ds st R Rx → ds.length = 2 := by
  rintro ds st R Rx ⟨_, _, _, _, rfl, -⟩; rfl
theorem read_above_zero : ∀ ds st R Rx, spAboveZero ds st R Rx → wb_law_above_zero spDraw spFrac (bodyEd R Rx) (startD 3 ds) st := by
  rintro ds st R Rx ⟨d, c, ns, bot, rfl, dk, h0, h1, k⟩
  unfold wb_law_above_zero bodyEd
  walk_at "s"
  refine ⟨d, c, ns, _, rfl, dk, by omega, h1, fun v st1 hv1 hv2 r1 => ?_⟩
  walk_at "s"
  have hl : (1 + v).natAbs.log2 < 9000 := log2_le (b := bot.natAbs) (by omega) (by omega) h1
  refine ⟨d, c, ns, _, rfl, r1.dk, by omega, hl, fun v2 st2 hv3 hv4 r2 => ?_⟩
  walk_at "s"
  refine ⟨_, _, rfl, by omega, hl, FracK.pos (by omega) (by omega) fun n' d' z1 z2 z3 z4 z5 z6 => s_end (k _ _ _ ?_ ?_ (by omega) z6 (r1.trans r2))⟩
  · rcases Int.lt_or_le 0 n' with h | h
    · exact h
    · have : n' = 0 := by omega
      rw [this, Int.zero_mul] at z5
      have := Int.mul_pos (show (0 : Int) < 1 + v2 by omega) z3
      omega
  · have a1 : n' * (1 + v) ≤ (1 + v) * d' := by rw [z5]; exact Int.mul_le_mul_of_nonneg_right (by omega) (by omega)
    rw [Int.mul_comm] at a1
    exact Int.le_of_mul_le_mul_left a1 (by omega)
/-! sizes -/
theorem sm {x : Int} (h0 : 0 < x) (h1 : x ≤ 100000000000000000000) : x.natAbs.log2 < 9000 := log2_le (b := 100000000000000000000) (by omega) (by omega) (by decide +kernel)
theorem smm {b d : Int} (h0 : 0 < b) (h1 : b ≤ 10000000000) (h2 : 0 < d) (h3 : d ≤ 10000000000) : b * d ≠ 0 ∧ 0 < b * d ∧ b * d ≤ 100000000000000000000 ∧ (b * d).natAbs.log2 < 9000 := by
  have a := Int.mul_pos h0 h2
  have b1 : b * d ≤ 10000000000 * d := Int.mul_le_mul_of_nonneg_right h1 (by omega)
  exact ⟨by omega, a, by omega, sm a (by omega)⟩
theorem _root_.DL.Sub.none {s t : DS} (h : Sub s t) {p : Addr} (e : t p = none) : s p = none := by
  cases q : s p with
  | none => rfl
  | some o => rw [h _ _ q] at e; cases e
/-! every row of letters -/
def rowD (r : List Int) : D := .tup (r.map D.int)
def rowsOf (L : Nat) : Nat → List (List Int)
  | 0 => [[]]
  | n + 1 => (rowsOf L n).flatMap fun row => (List.range L).map fun i : Nat => row ++ [(i : Int)]
theorem rowsOf_length (L : Nat) : ∀ n, (rowsOf L n).length = L ^ n
  | 0 => rfl
  | n + 1 => by
    have : ∀ xs : List (List Int), (xs.flatMap fun row => (List.range L).map fun i : Nat => row ++ [(i : Int)]).length = xs.length * L := by
      intro xs
      induction xs with
      | nil => simp
      | cons x xs ih => rw [List.flatMap_cons, List.length_append, ih, List.length_map, List.length_range, List.length_cons, Nat.succ_mul, Nat.add_comm]
    rw [rowsOf, this, rowsOf_length L n, Nat.pow_succ]
theorem rowsOf_len {L : Nat} : ∀ {n : Nat} {r : List Int}, r ∈ rowsOf L n → r.length = n
  | 0, r, h => by
    have : r = [] := by simpa [rowsOf] using h
    subst this; rfl
  | n + 1, r, h => by
    obtain ⟨row, h1, h2⟩ := List.mem_flatMap.mp h
    obtain ⟨i, -, rfl⟩ := List.mem_map.mp h2
    rw [List.length_append, rowsOf_len h1]; rfl
theorem rowsOf_mem {L : Nat} : ∀ {n : Nat} {f : Nat → Nat}, (∀ i, i < n → f i < L) → ((List.range n).map fun i => ((f i : Nat) : Int)) ∈ rowsOf L n
  | 0, f, _ => by simp [rowsOf]
  | n + 1, f, h => by
    rw [List.range_succ, List.map_append]
    refine List.mem_flatMap.mpr ⟨_, rowsOf_mem fun i hi => h i (by omega), List.mem_map.mpr ⟨f n, List.mem_range.mpr (h n (by omega)), rfl⟩⟩
def spAllRows : SpD := fun ds st R _ => ∃ L n : Nat, ds = [.int L, .int n] ∧ L ^ n ≤ sizeLine ∧ n ≤ 1000 ∧ 0 < L ∧ L ≤ 1000 ∧ ∀ p st', Sub st st' → st' p = some (.lst ((rowsOf L n).map rowD)) → R (.ref p) st'
theorem len_all_rows : ∀ ds st R Rx, spAllRows ds st R Rx → ds.length = 2 := by
  rintro ds st R Rx ⟨_, _, rfl, -⟩; rfl
theorem read_all_rows : ∀ ds st R Rx, spAllRows ds st R Rx → wb_law_all_rows (bodyEd R Rx) (startD 7 ds) st := by
  rintro ds st R Rx ⟨L, n, rfl, hs, hn, hL, hL2, k⟩
  unfold wb_law_all_rows bodyEd
  walk_at "s"
  intro p0 hp0
  walk_at "s"
  refine for_ind (fun rest ep st' => ∃ j p x3 x4 x5 x6, rest.length + j = n ∧ ep = [some (.int L), some (.int n), some (.ref p), x3, x4, x5, x6] ∧ Sub st st' ∧ st' p = some (.lst ((rowsOf L j).map rowD))) ?_ ?_ _ _ _ ⟨0, p0, none, none, none, none, by simp, rfl, Sub.put_new hp0, put_same⟩
  · rintro ep st' ⟨j, p, x3, x4, x5, x6, hj, rfl, hs', hp⟩
    refine ⟨trivial, ?_⟩
    walk_at "s"
    simp only [List.length_nil, Nat.zero_add] at hj
    subst hj
    exact s_end (k _ _ hs' hp)
  · rintro d r ep st' ⟨j, p, x3, x4, x5, x6, hj, rfl, hs', hp⟩ ih
    refine ⟨trivial, ?_⟩
    have hlen : ((rowsOf L j).map rowD).length * L ≤ sizeLine := by
      rw [List.length_map, rowsOf_length, ← Nat.pow_succ]
      refine Nat.le_trans (Nat.pow_le_pow_right hL ?_) hs
      simp only [List.length_cons] at hj; omega
    rw [List.length_map] at hlen
    walk_at "s"
    intro q hq
    have npq : p ≠ q := fun e => by rw [e, hq] at hp; cases hp
    walk_at "s"
    refine for_ind (fun rest ep T => ∃ pre suf x3 x5 x6, rowsOf L j = pre ++ suf ∧ rest = suf.map rowD ∧ ep = [some (.int L), some (.int n), some (.ref p), x3, some (.ref q), x5, x6] ∧ Sub st T ∧ T p = some (.lst ((rowsOf L j).map rowD)) ∧
      T q = some (.lst ((pre.flatMap fun row => (List.range L).map fun i : Nat => row ++ [(i : Int)]).map rowD))) ?_ ?_ _ _ _ ⟨[], rowsOf L j, _, _, _, rfl, rfl, rfl, hs'.put_to _ (hs'.none hq), by rw [put_ne npq]; exact hp, put_same⟩
    · rintro ep T ⟨pre, suf, x3, x5, x6, e, e2, rfl, sT, hp, hq⟩
      refine ⟨hp, ?_⟩
      walk_at "s"
      have : suf = [] := by cases suf with
        | nil => rfl
        | cons _ _ => cases e2
      subst this
      rw [List.append_nil] at e
      rw [← e] at hq
      exact ih _ _ ⟨j + 1, q, _, _, _, _, by simp only [List.length_cons] at hj; omega, rfl, sT, hq⟩
    · rintro d2 r2 ep T ⟨pre, suf, x3, x5, x6, e, e2, rfl, sT, hp, hqT⟩ ih2
      refine ⟨hp, ?_⟩
      cases suf with
      | nil => cases e2
      | cons row suf =>
        obtain ⟨rfl, rfl⟩ := List.cons.inj e2
        have hrow : row.length = j := rowsOf_len (L := L) (n := j) (by rw [e]; exact List.mem_append_right _ List.mem_cons_self)
        have hjn : j < n := by simp only [List.length_cons] at hj; omega
        walk_at "s"
        rw [Int.toNat_natCast]
        have hll : L ≤ sizeLine := by show L ≤ 2 ^ 24; omega
        refine lc_calm (fun d => match d with | .int i => .tup (row.map D.int ++ [.int i]) | d => d) (fun _ => true) trivial (by rw [List.length_map, List.length_range, List.length_nil]; omega) (fun d hd kk kn h1 h2 => ?_) ?_
        · obtain ⟨i, -, rfl⟩ := List.mem_map.mp hd
          unfold rowD
          walk_at "s"
          refine s_addT (by rw [List.length_map, hrow]; show j + 1 ≤ 2 ^ 24; omega) ?_
          exact h1 rfl
        · rw [List.filter_eq_self.mpr (fun _ _ => rfl), List.map_map, List.nil_append]
          intro u hu
          have nqu : q ≠ u := fun e => by rw [e, hu] at hqT; cases hqT
          have npu : p ≠ u := fun e => by rw [e, hu] at hp; cases hp
          walk_at "s"
          have hl2 : (pre.flatMap fun row => (List.range L).map fun i : Nat => row ++ [(i : Int)]).length = pre.length * L := by
            clear e hqT
            induction pre with
            | nil => simp
            | cons x xs ih => rw [List.flatMap_cons, List.length_append, ih, List.length_map, List.length_range, List.length_cons, Nat.succ_mul, Nat.add_comm]
          have hpl : pre.length + 1 ≤ (rowsOf L j).length := by rw [e, List.length_append, List.length_cons]; omega
          have hm : (pre.length + 1) * L ≤ (rowsOf L j).length * L := Nat.mul_le_mul_right _ hpl
          rw [Nat.succ_mul] at hm
          refine ⟨by rw [List.length_map, hl2, List.length_map, List.length_range]; omega, ?_⟩
          refine ih2 _ _ ⟨pre ++ [row], suf, _, _, _, by rw [e, List.append_assoc]; rfl, rfl, rfl, (sT.put_to _ (sT.none hu)).put_to _ (hs'.none hq), ?_, ?_⟩
          · rw [put_ne npq, put_ne npu]; exact hp
          · rw [put_same, List.flatMap_append, List.map_append, List.flatMap_cons, List.flatMap_nil, List.append_nil, List.map_map]
            congr 3
            refine List.map_congr_left fun i _ => ?_
            show D.tup _ = D.tup _
            rw [List.map_append, Int.zero_add]; rfl
end C
end DL

namespace DL
namespace K64
open PySem L2 C
local macro_rules | `(tactic| walk_at "look") => `(tactic| first
  | assumption
  | exact put_same
  | (refine look_ne (by first | assumption | exact Ne.symm (by assumption)) ?_; walk_at "look")
  | (refine look_new (by assumption) ?_; walk_at "look"))
local macro_rules | `(tactic| walk_at "side") => `(tactic| first | assumption | exact trivial | decide | omega | exact ⟨by assumption, by assumption⟩ | exact ⟨by omega, by omega⟩ | exact ⟨by decide, by decide⟩ | exact ⟨by decide, by decide, by decide⟩ | (exact .inl (.inl ⟨by decide, by decide⟩)) | (exact .inl (.inr ⟨by decide, by decide⟩)) | (exact .inl (.inl ⟨by omega, by omega⟩)) | (exact .inl (.inr ⟨by omega, by omega⟩)))
local macro_rules | `(tactic| walk_at "opt") => `(tactic| first | exact atI_0 _ _ | exact atI_1 _ _ _ | exact atI_2 _ _ _ _ | exact atI_3 _ _ _ _ _ | exact atI_4 _ _ _ _ _ _ | assumption | exact boolsOf_map _ | exact intsOf_map _ | exact rfl)
local macro_rules | `(tactic| walk_at "s1") => `(tactic| first
  | ((with_reducible refine' s_var ?k1 ?_); (case k1 => exact rfl))
  | with_reducible refine s_bin ?_
  | with_reducible refine s_c ?_
  | with_reducible refine s_seqM ?_
  | with_reducible refine s_asB ?_
  | with_reducible refine s_asI ?_
  | with_reducible refine s_asRI ?_
  | with_reducible refine s_acons ?_
  | with_reducible refine s_anil ?_
  | with_reducible refine s_call ?_
  | with_reducible refine s_cb ?_
  | with_reducible refine s_set ?_
  | with_reducible refine s_ixT ?_
  | with_reducible refine s_ixL ?_
  | with_reducible refine s_ixS ?_
  | ((with_reducible refine' s_getL ?k1 ?_); (case k1 => walk_at "look"))
  | ((with_reducible refine' s_opt ?k1 ?_); (case k1 => walk_at "opt"))
  | with_reducible refine s_binT ?_
  | with_reducible refine s_tup ?_
  | with_reducible refine s_lst ?_
  | with_reducible refine s_ret ?_
  | with_reducible refine s_if ?_
  | with_reducible refine s_nextM ?_
  | with_reducible refine s_drop ?_
  | with_reducible refine s_par ?_
  | with_reducible refine s_asg ?_
  | with_reducible refine s_gN ?_
  | ((with_reducible refine' s_gT ?k1 ?_); (case k1 => exact rfl))
  | with_reducible refine s_gsC ?_
  | with_reducible refine s_gsN ?_
  | with_reducible refine s_gIx ?_
  | with_reducible refine s_setD ?_
  | with_reducible refine s_for ?_
  | with_reducible refine s_b ?_
  | with_reducible refine s_and ?_
  | with_reducible refine s_or ?_
  | with_reducible refine s_not ?_
  | with_reducible refine s_ife ?_
  | with_reducible refine s_neg ?_
  | with_reducible refine s_notV ?_
  | with_reducible refine s_andV ?_
  | with_reducible refine s_orV ?_
  | with_reducible refine s_isi ?_
  | with_reducible refine s_m ?_
  | with_reducible refine s_none ?_
  | with_reducible refine s_noneT ?_
  | with_reducible refine s_sl ?_
  | with_reducible refine s_oN ?_
  | with_reducible refine s_oS ?_
  | with_reducible refine s_lc ?_
  | with_reducible refine s_bN ?_
  | with_reducible refine s_bT ?_
  | with_reducible refine s_bTC ?_
  | with_reducible refine s_bTN ?_
  | with_reducible refine s_it ?_
  | with_reducible refine s_rng ?_
  | with_reducible refine s_yes ?_
  | with_reducible refine s_cT ?_
  | with_reducible refine s_cF ?_
  | with_reducible refine s_retN ?_
  | with_reducible refine s_brk ?_
  | with_reducible refine s_cnt ?_
  | ((with_reducible refine' s_aug ?k1 ?_); (case k1 => exact rfl))
  | with_reducible refine s_augix ?_
  | with_reducible refine s_addI ?_
  | ((with_reducible refine' s_addT ?k1 ?_); (case k1 => walk_at "side"))
  | ((with_reducible refine' s_addS ?k1 ?_); (case k1 => walk_at "side"))
  | with_reducible refine s_subI ?_
  | ((with_reducible refine' s_mulI ?k1 ?_); (case k1 => walk_at "side"))
  | ((with_reducible refine' s_divI ?k1 ?_); (case k1 => walk_at "side"))
  | ((with_reducible refine' s_modI ?k1 ?_); (case k1 => walk_at "side"))
  | ((with_reducible refine' s_powI ?k1 ?_); (case k1 => walk_at "side"))
  | ((with_reducible refine' s_shlI ?k1 ?_); (case k1 => walk_at "side"))
  | with_reducible refine s_iaddI ?_
  | ((with_reducible refine' s_iaddS ?k1 ?_); (case k1 => walk_at "side"))
  | with_reducible refine s_eqI ?_
  | with_reducible refine s_neI ?_
  | with_reducible refine s_eqS ?_
  | with_reducible refine s_neS ?_
  | with_reducible refine s_eqB ?_
  | with_reducible refine s_neB ?_
  | with_reducible refine s_cmp ?_
  | ((with_reducible refine' s_ixX ?k1 ?_); (case k1 => walk_at "side"))
  | with_reducible refine s_lenT ?_
  | with_reducible refine s_lenL ?_
  | with_reducible refine s_lenC ?_
  | ((with_reducible refine' s_lenS ?k1 ?_); (case k1 => walk_at "side"))
  | with_reducible refine s_abs ?_
  | with_reducible refine s_intI ?_
  | with_reducible refine s_intB ?_
  | with_reducible refine s_gcd ?_
  | with_reducible refine s_listT ?_
  | with_reducible refine s_listL ?_
  | with_reducible refine s_tupT ?_
  | with_reducible refine s_tupL ?_
  | with_reducible refine s_all ?_
  | with_reducible refine s_any ?_
  | with_reducible refine s_sum ?_
  | with_reducible refine s_inL ?_
  | with_reducible refine s_inT ?_
  | with_reducible refine s_append ?_
  | with_reducible refine s_extend ?_
  | with_reducible refine s_popAt ?_
  | with_reducible refine s_pop ?_
  | with_reducible refine s_slT ?_
  | with_reducible refine s_slL ?_
  | with_reducible refine s_itT ?_
  | with_reducible refine s_itL ?_
  | with_reducible refine s_itC ?_
  | ((with_reducible refine' s_rng1 ?k1 ?_); (case k1 => walk_at "side"))
  | ((with_reducible refine' s_rng2 ?k1 ?_); (case k1 => walk_at "side"))
  | ((with_reducible refine' s_rngD ?k1 ?_); (case k1 => walk_at "side"))
  | ((with_reducible refine' s_isLst ?k1 ?_); (case k1 => walk_at "look"))
  | ((with_reducible refine' s_lstOkL ?k1 ?_); (case k1 => walk_at "look"))
  | ((with_reducible refine' And.intro ?k1 ?_); (case k1 => walk_at "side")))
local macro_rules | `(tactic| walk_at "s") => `(tactic| repeat (walk_at "s1"))
/-- 10 ^ 10 bounds all terms -/
structure FB (s : Int × Int) : Prop where
  a0 : 0 ≤ s.1
  a1 : s.1 ≤ 10000000000
  b0 : 0 < s.2
  b1 : s.2 ≤ 10000000000
def frP (s : Int × Int) : D := fr s.1 s.2
def spLeast : SpD := fun ds st R _ => ∃ (p : Addr) (S : List (Int × Int)), ds = [.ref p] ∧ st p = some (.lst (S.map frP)) ∧ S ≠ [] ∧ (∀ s ∈ S, FB s) ∧ ∀ s ∈ S, R (frP s) st
theorem len_least : ∀ ds st R Rx, spLeast ds st R Rx → ds.length = 1 := by
  rintro ds st R Rx ⟨_, _, rfl, -⟩; rfl
theorem read_least : ∀ ds st R Rx, spLeast ds st R Rx → wb_law_least spLess (bodyEd R Rx) (startD 3 ds) st := by
  rintro ds st R Rx ⟨p, S, rfl, hp, hne, hb, k⟩
  unfold wb_law_least bodyEd
  walk_at "s"
  cases S with
  | nil => exact absurd rfl hne
  | cons s0 S0 =>
  rw [List.map_cons]
  walk_at "s"
  rw [List.map_cons] at hp
  refine for_ind (fun rest ep st' => ∃ suf b x2, rest = suf.map frP ∧ (∀ s ∈ suf, s ∈ s0 :: S0) ∧ b ∈ s0 :: S0 ∧ ep = [some (.ref p), some (frP b), x2] ∧ st' = st) ?_ ?_ _ _ _ ⟨s0 :: S0, s0, none, rfl, fun _ h => h, List.mem_cons_self, rfl, rfl⟩
  · rintro ep st' ⟨suf, b, x2, -, -, hb', rfl, rfl⟩
    refine ⟨hp, ?_⟩
    walk_at "s"
    exact s_end (k _ hb')
  · rintro d r ep st' ⟨suf, b, x2, e, hs, hb', rfl, rfl⟩ ih
    refine ⟨hp, ?_⟩
    cases suf with
    | nil => cases e
    | cons s suf =>
    obtain ⟨rfl, rfl⟩ := List.cons.inj e
    have f1 := hb s (hs s List.mem_cons_self)
    have f2 := hb b hb'
    obtain ⟨a0, a1, b0, b1⟩ := f1
    obtain ⟨c0, c1, d0, d1⟩ := f2
    walk_at "s"
    refine ⟨_, _, _, _, rfl, .inl (.inl ⟨by omega, by omega⟩), .inl (.inl ⟨by omega, by omega⟩), ?_⟩
    walk_at "s"
    refine s_dec (fun e => ?_) (fun e => ?_)
    · walk_at "s"
      exact ih _ _ ⟨suf, s, _, rfl, fun t ht => hs t (List.mem_cons_of_mem _ ht), hs s List.mem_cons_self, rfl, rfl⟩
    · walk_at "s"
      exact ih _ _ ⟨suf, b, _, rfl, fun t ht => hs t (List.mem_cons_of_mem _ ht), hb', rfl, rfl⟩
/-- a drawn pair of terms -/
def spPair (lo : Int) (chk : Int → Int → Prop) : SpD := fun ds st R _ => ∃ (d c : Addr) (ns : List Int) (many p q : Int), ds = [.ref d, .int many, fr p q] ∧ DK st d c ns ∧ 1 ≤ many ∧ many ≤ 6 ∧ 0 < p ∧ p ≤ 1000000 ∧ 0 < q ∧ q ≤ 1000000 ∧
  ∀ s st', FB s → lo ≤ s.1 → Dr d c ns st st' → R (frP s) st'
def spShown := spPair 0 fun _ _ => True
def spMark := spPair 1 fun _ _ => True
theorem len_shown : ∀ ds st R Rx, spShown ds st R Rx → ds.length = 3 := by
  rintro ds st R Rx ⟨_, _, _, _, _, _, rfl, -⟩; rfl
theorem len_mark : ∀ ds st R Rx, spMark ds st R Rx → ds.length = 3 := by
  rintro ds st R Rx ⟨_, _, _, _, _, _, rfl, -⟩; rfl
theorem mul_le {a b A B : Int} (a0 : 0 ≤ a) (h1 : a ≤ A) (b0 : 0 ≤ b) (h2 : b ≤ B) : 0 ≤ a * b ∧ a * b ≤ A * B := ⟨Int.mul_nonneg a0 b0, Int.mul_le_mul h1 h2 b0 (by omega)⟩
theorem read_shown : ∀ ds st R Rx, spShown ds st R Rx → wb_law_shown spFrac spDraw spTimes spFraction (bodyEd R Rx) (startD 5 ds) st := by
  rintro ds st R Rx ⟨d, c, ns, many, p, q, rfl, dk, hm1, hm2, hp1, hp2, hq1, hq2, k⟩
  unfold wb_law_shown bodyEd fr
  walk_at "s"
  refine ⟨d, c, ns, _, rfl, dk, by omega, sm (by omega) (by omega), fun v st1 hv1 hv2 r1 => ?_⟩
  walk_at "s"
  have z1 := mul_le (A := 6) (B := 1000000) (show 0 ≤ many by omega) hm2 (show 0 ≤ q by omega) hq2
  have z2 := mul_le (A := 6) (B := 1000000) (show 0 ≤ 1 + v by omega) (by omega) (show 0 ≤ p by omega) hp2
  have z3 := Int.mul_pos (show 0 < 1 + v by omega) hp1
  have z4 := Int.mul_pos (show 0 < many by omega) hq1
  refine ⟨_, _, rfl, by omega, sm z3 (by omega), FracK.pos z1.1 z3 fun e1 e2 y1 y2 y3 y4 y5 y6 => ?_⟩
  walk_at "s"
  refine ⟨d, c, ns, _, rfl, r1.dk, by omega, sm (by omega) (by omega), fun kind st2 _ _ r2 => ?_⟩
  have r12 := r1.trans r2
  walk_at "s"
  refine s_dec (fun e => ?_) (fun e => ?_)
  · walk_at "s"
    exact s_end (k (0, 1) _ ⟨by decide, by decide, by decide, by decide⟩ (by decide) r12)
  walk_at "s"
  refine s_dec (fun e => ?_) (fun e => ?_)
  · walk_at "s"
    refine ⟨_, _, _, _, rfl, .inl (.inr ⟨by decide, by decide⟩), .inl (.inr ⟨by decide, by decide⟩), by omega, sm (by omega) (by omega), FracK.pos (by omega) (by omega) fun n' d' w1 w2 w3 w4 w5 w6 => s_end (k (n', d') _ ⟨w1, by omega, w3, by omega⟩ w1 r12)⟩
  walk_at "s"
  refine s_dec (fun e => ?_) (fun e => ?_)
  · walk_at "s"
    refine ⟨_, _, _, _, rfl, .inl (.inr ⟨by decide, by decide⟩), .inl (.inr ⟨by decide, by decide⟩), by omega, sm (by omega) (by omega), FracK.pos (by omega) (by omega) fun n' d' w1 w2 w3 w4 w5 w6 => s_end (k (n', d') _ ⟨w1, by omega, w3, by omega⟩ w1 r12)⟩
  walk_at "s"
  refine s_dec (fun e => ?_) (fun e => ?_)
  · walk_at "s"
    exact ⟨d, c, ns, _, _, rfl, r12.dk, by omega, sm (by omega) (by omega), by omega, sm (by omega) (by omega), fun n m st3 w1 w2 w3 w4 w5 r3 => s_end (k (n, m) _ ⟨w1, by omega, w3, by omega⟩ w1 (r12.trans r3))⟩
  walk_at "s"
  refine s_dec (fun e => ?_) (fun e => ?_)
  · walk_at "s"
    exact ⟨d, c, ns, _, _, rfl, r12.dk, by decide, sm (by decide) (by decide), by omega, sm (by omega) (by omega), fun n m st3 w1 w2 w3 w4 w5 r3 => s_end (k (n, m) _ ⟨w1, Int.le_trans w2 (by decide), w3, by omega⟩ w1 (r12.trans r3))⟩
  walk_at "s"
  exact s_end (k (e1, e2) _ ⟨y1, by omega, y3, by omega⟩ y1 r12)
theorem pos_of {n' d n d' : Int} (h : n' * d = n * d') (hn : 0 < n) (hd : 0 < d') (h0 : 0 ≤ n') : 1 ≤ n' := by
  rcases Int.lt_or_le 0 n' with z | z
  · exact z
  · have : n' = 0 := by omega
    rw [this, Int.zero_mul] at h
    have := Int.mul_pos hn hd
    omega
theorem read_mark : ∀ ds st R Rx, spMark ds st R Rx → wb_law_mark spFrac spDraw spTimes spLeast spAboveZero (bodyEd R Rx) (startD 5 ds) st := by
  rintro ds st R Rx ⟨d, c, ns, many, p, q, rfl, dk, hm1, hm2, hp1, hp2, hq1, hq2, k⟩
  unfold wb_law_mark bodyEd fr
  walk_at "s"
  refine ⟨d, c, ns, _, rfl, dk, by omega, sm (by omega) (by omega), fun v st1 hv1 hv2 r1 => ?_⟩
  walk_at "s"
  have z1 := mul_le (A := 6) (B := 1000000) (show 0 ≤ many by omega) hm2 (show 0 ≤ q by omega) hq2
  have z2 := mul_le (A := 6) (B := 1000000) (show 0 ≤ 1 + v by omega) (by omega) (show 0 ≤ p by omega) hp2
  have z3 := Int.mul_pos (show 0 < 1 + v by omega) hp1
  have z4 := Int.mul_pos (show 0 < many by omega) hq1
  refine ⟨_, _, rfl, by omega, sm z4 (by omega), FracK.pos z2.1 z4 fun e1 e2 y1 y2 y3 y4 y5 y6 => ?_⟩
  have ye := pos_of y5 z3 y3 y1
  walk_at "s"
  refine ⟨d, c, ns, _, rfl, r1.dk, by omega, sm (by omega) (by omega), fun kind st2 _ _ r2 => ?_⟩
  have r12 := r1.trans r2
  walk_at "s"
  refine s_dec (fun e => ?_) (fun e => ?_)
  · walk_at "s"
    exact s_end (k (1, 1) _ ⟨by decide, by decide, by decide, by decide⟩ (by decide) r12)
  walk_at "s"
  refine s_dec (fun e => ?_) (fun e => ?_)
  · walk_at "s"
    refine ⟨_, _, _, _, rfl, .inl (.inr ⟨by decide, by decide⟩), .inl (.inr ⟨by decide, by decide⟩), by omega, sm (by omega) (by omega), FracK.pos (by omega) (by omega) fun n' d' w1 w2 w3 w4 w5 w6 => s_end (k (n', d') _ ⟨w1, by omega, w3, by omega⟩ (pos_of w5 (by omega) w3 w1) r12)⟩
  walk_at "s"
  refine s_dec (fun e => ?_) (fun e => ?_)
  · walk_at "s"
    refine ⟨_, _, _, _, rfl, .inl (.inr ⟨by decide, by decide⟩), .inl (.inr ⟨by decide, by decide⟩), by omega, sm (by omega) (by omega), FracK.pos (by omega) (by omega) fun n' d' w1 w2 w3 w4 w5 w6 => ?_⟩
    have ye := pos_of w5 (by omega) w3 w1
    walk_at "s"
    intro u hu
    have hS : ∀ s ∈ [(n', d'), ((1 : Int), (1 : Int))], FB s ∧ 1 ≤ s.1 := by
      intro s hs
      rcases List.mem_cons.mp hs with rfl | hs
      · exact ⟨⟨w1, by omega, w3, by omega⟩, ye⟩
      · have : s = (1, 1) := by simpa using hs
        subst this
        exact ⟨⟨by decide, by decide, by decide, by decide⟩, by decide⟩
    refine ⟨u, [(n', d'), (1, 1)], rfl, put_same, by simp, fun s hs => (hS s hs).1, fun s hs => s_end (k s _ (hS s hs).1 (hS s hs).2 (r12.new hu))⟩
  walk_at "s"
  refine s_dec (fun e => ?_) (fun e => ?_)
  · walk_at "s"
    exact ⟨d, c, ns, _, rfl, r12.dk, by omega, sm (by omega) (by omega), fun n m st3 w1 w2 w3 w5 r3 => s_end (k (n, m) _ ⟨Int.le_of_lt w1, show n ≤ _ by omega, show 0 < m by omega, show m ≤ _ by omega⟩ w1 (r12.trans r3))⟩
  walk_at "s"
  exact s_end (k (e1, e2) _ ⟨y1, by omega, y3, by omega⟩ ye r12)
end K64
end DL

namespace DL
namespace K64
open PySem L2 C
local macro_rules | `(tactic| walk_at "look") => `(tactic| first
  | assumption
  | exact put_same
  | (refine look_ne (by first | assumption | exact Ne.symm (by assumption)) ?_; walk_at "look")
  | (refine look_new (by assumption) ?_; walk_at "look"))
local macro_rules | `(tactic| walk_at "side") => `(tactic| first | assumption | exact trivial | decide | omega | exact ⟨by assumption, by assumption⟩ | exact ⟨by omega, by omega⟩ | exact ⟨by decide, by decide⟩ | exact ⟨by decide, by decide, by decide⟩ | (exact .inl (.inl ⟨by decide, by decide⟩)) | (exact .inl (.inr ⟨by decide, by decide⟩)) | (exact .inl (.inl ⟨by omega, by omega⟩)) | (exact .inl (.inr ⟨by omega, by omega⟩)))
local macro_rules | `(tactic| walk_at "opt") => `(tactic| first | exact atI_0 _ _ | exact atI_1 _ _ _ | exact atI_2 _ _ _ _ | exact atI_3 _ _ _ _ _ | exact atI_4 _ _ _ _ _ _ | assumption | exact boolsOf_map _ | exact intsOf_map _ | exact rfl)
local macro_rules | `(tactic| walk_at "s1") => `(tactic| first
  | ((with_reducible refine' s_var ?k1 ?_); (case k1 => exact rfl))
  | with_reducible refine s_bin ?_
  | with_reducible refine s_c ?_
  | with_reducible refine s_seqM ?_
  | with_reducible refine s_asB ?_
  | with_reducible refine s_asI ?_
  | with_reducible refine s_asRI ?_
  | with_reducible refine s_acons ?_
  | with_reducible refine s_anil ?_
  | with_reducible refine s_call ?_
  | with_reducible refine s_cb ?_
  | with_reducible refine s_set ?_
  | with_reducible refine s_ixT ?_
  | with_reducible refine s_ixL ?_
  | with_reducible refine s_ixS ?_
  | ((with_reducible refine' s_getL ?k1 ?_); (case k1 => walk_at "look"))
  | ((with_reducible refine' s_opt ?k1 ?_); (case k1 => walk_at "opt"))
  | with_reducible refine s_binT ?_
  | with_reducible refine s_tup ?_
  | with_reducible refine s_lst ?_
  | with_reducible refine s_ret ?_
  | with_reducible refine s_if ?_
  | with_reducible refine s_nextM ?_
  | with_reducible refine s_drop ?_
  | with_reducible refine s_par ?_
  | with_reducible refine s_asg ?_
  | with_reducible refine s_gN ?_
  | ((with_reducible refine' s_gT ?k1 ?_); (case k1 => exact rfl))
  | with_reducible refine s_gsC ?_
  | with_reducible refine s_gsN ?_
  | with_reducible refine s_gIx ?_
  | with_reducible refine s_setD ?_
  | with_reducible refine s_for ?_
  | with_reducible refine s_b ?_
  | with_reducible refine s_and ?_
  | with_reducible refine s_or ?_
  | with_reducible refine s_not ?_
  | with_reducible refine s_ife ?_
  | with_reducible refine s_neg ?_
  | with_reducible refine s_notV ?_
  | with_reducible refine s_andV ?_
  | with_reducible refine s_orV ?_
  | with_reducible refine s_isi ?_
  | with_reducible refine s_m ?_
  | with_reducible refine s_none ?_
  | with_reducible refine s_noneT ?_
  | with_reducible refine s_sl ?_
  | with_reducible refine s_oN ?_
  | with_reducible refine s_oS ?_
  | with_reducible refine s_lc ?_
  | with_reducible refine s_bN ?_
  | with_reducible refine s_bT ?_
  | with_reducible refine s_bTC ?_
  | with_reducible refine s_bTN ?_
  | with_reducible refine s_it ?_
  | with_reducible refine s_rng ?_
  | with_reducible refine s_yes ?_
  | with_reducible refine s_cT ?_
  | with_reducible refine s_cF ?_
  | with_reducible refine s_retN ?_
  | with_reducible refine s_brk ?_
  | with_reducible refine s_cnt ?_
  | ((with_reducible refine' s_aug ?k1 ?_); (case k1 => exact rfl))
  | with_reducible refine s_augix ?_
  | with_reducible refine s_addI ?_
  | ((with_reducible refine' s_addT ?k1 ?_); (case k1 => walk_at "side"))
  | ((with_reducible refine' s_addS ?k1 ?_); (case k1 => walk_at "side"))
  | with_reducible refine s_subI ?_
  | ((with_reducible refine' s_mulI ?k1 ?_); (case k1 => walk_at "side"))
  | ((with_reducible refine' s_divI ?k1 ?_); (case k1 => walk_at "side"))
  | ((with_reducible refine' s_modI ?k1 ?_); (case k1 => walk_at "side"))
  | ((with_reducible refine' s_powI ?k1 ?_); (case k1 => walk_at "side"))
  | ((with_reducible refine' s_shlI ?k1 ?_); (case k1 => walk_at "side"))
  | with_reducible refine s_iaddI ?_
  | ((with_reducible refine' s_iaddS ?k1 ?_); (case k1 => walk_at "side"))
  | with_reducible refine s_eqI ?_
  | with_reducible refine s_neI ?_
  | with_reducible refine s_eqS ?_
  | with_reducible refine s_neS ?_
  | with_reducible refine s_eqB ?_
  | with_reducible refine s_neB ?_
  | with_reducible refine s_cmp ?_
  | ((with_reducible refine' s_ixX ?k1 ?_); (case k1 => walk_at "side"))
  | with_reducible refine s_lenT ?_
  | with_reducible refine s_lenL ?_
  | with_reducible refine s_lenC ?_
  | ((with_reducible refine' s_lenS ?k1 ?_); (case k1 => walk_at "side"))
  | with_reducible refine s_abs ?_
  | with_reducible refine s_intI ?_
  | with_reducible refine s_intB ?_
  | with_reducible refine s_gcd ?_
  | with_reducible refine s_listT ?_
  | with_reducible refine s_listL ?_
  | with_reducible refine s_tupT ?_
  | with_reducible refine s_tupL ?_
  | with_reducible refine s_all ?_
  | with_reducible refine s_any ?_
  | with_reducible refine s_sum ?_
  | with_reducible refine s_inL ?_
  | with_reducible refine s_inT ?_
  | with_reducible refine s_append ?_
  | with_reducible refine s_extend ?_
  | with_reducible refine s_popAt ?_
  | with_reducible refine s_pop ?_
  | with_reducible refine s_slT ?_
  | with_reducible refine s_slL ?_
  | with_reducible refine s_itT ?_
  | with_reducible refine s_itL ?_
  | with_reducible refine s_itC ?_
  | ((with_reducible refine' s_rng1 ?k1 ?_); (case k1 => walk_at "side"))
  | ((with_reducible refine' s_rng2 ?k1 ?_); (case k1 => walk_at "side"))
  | ((with_reducible refine' s_rngD ?k1 ?_); (case k1 => walk_at "side"))
  | ((with_reducible refine' s_isLst ?k1 ?_); (case k1 => walk_at "look"))
  | ((with_reducible refine' s_lstOkL ?k1 ?_); (case k1 => walk_at "look"))
  | ((with_reducible refine' And.intro ?k1 ?_); (case k1 => walk_at "side")))
local macro_rules | `(tactic| walk_at "s") => `(tactic| repeat (walk_at "s1"))
/-! the plain law -/
def thr (n : Nat) (good : Nat → Nat → Bool) (k : Nat) : List Nat := (List.range n).filter (good k)
def cnt (n : Nat) (m : Nat → Bool) : Nat := ((List.range n).filter m).length
def Best (n : Nat) (good : Nat → Nat → Bool) (xs : List Nat) : Prop :=
  (∃ k, 1 ≤ k ∧ k ≤ n ∧ xs = thr n good k ∧ k ≤ xs.length ∧ ∀ j, k < j → j ≤ n → (thr n good j).length < j) ∨ (xs = [] ∧ ∀ j, 1 ≤ j → j ≤ n → (thr n good j).length < j)
def Union (n : Nat) (good : Nat → Nat → Bool) (xs : List Nat) : Prop :=
  ∃ u : Nat → Bool, xs = (List.range n).filter u ∧ ∀ i, i < n → (u i = true ↔ ∃ m : Nat → Bool, (∀ j, j < n → m j = true → good (cnt n m) j = true) ∧ m i = true)
theorem cnt_le (n : Nat) (m : Nat → Bool) : cnt n m ≤ n := by
  have := List.length_filter_le m (List.range n)
  rwa [List.length_range] at this
theorem cnt_pos {n i : Nat} {m : Nat → Bool} (hi : i < n) (h : m i = true) : 1 ≤ cnt n m :=
  List.length_pos_of_mem (List.mem_filter.mpr ⟨List.mem_range.mpr hi, h⟩)
theorem filter_len_le {p q : Nat → Bool} : ∀ {l : List Nat}, (∀ j ∈ l, p j = true → q j = true) → (l.filter p).length ≤ (l.filter q).length
  | [], _ => Nat.le_refl _
  | a :: l, h => by
    have ih := filter_len_le (l := l) fun j hj => h j (List.mem_cons_of_mem _ hj)
    by_cases hp : p a = true
    · rw [List.filter_cons_of_pos hp, List.filter_cons_of_pos (h a List.mem_cons_self hp)]
      simpa using ih
    · rw [List.filter_cons_of_neg hp]
      by_cases hq : q a = true
      · rw [List.filter_cons_of_pos hq]; simp only [List.length_cons]; omega
      · rw [List.filter_cons_of_neg hq]; exact ih
theorem best_union {n : Nat} {good : Nat → Nat → Bool} (mono : ∀ k k' j, k ≤ k' → good k j = true → good k' j = true) {xs ys : List Nat} (hx : Best n good xs) (hy : Union n good ys) : xs = ys := by
  obtain ⟨u, rfl, hu⟩ := hy
  rcases hx with ⟨k, k1, kn, rfl, kl, top⟩ | ⟨rfl, top⟩
  · unfold thr
    refine List.filter_congr fun i hi => ?_
    have hin := List.mem_range.mp hi
    refine Bool.eq_iff_iff.mpr ⟨fun h => ?_, fun h => ?_⟩
    · refine (hu i hin).mpr ⟨good k, fun j hj hg => mono _ _ _ ?_ hg, h⟩
      exact kl
    · obtain ⟨m, hm, mi⟩ := (hu i hin).mp h
      have c1 : cnt n m ≤ (thr n good (cnt n m)).length := filter_len_le fun j hj => hm j (List.mem_range.mp hj)
      have c2 := cnt_le n m
      have c3 : cnt n m ≤ k := by
        rcases Nat.lt_or_ge k (cnt n m) with z | z
        · have := top _ z c2; omega
        · exact z
      exact mono _ _ _ c3 (hm i hin mi)
  · symm
    refine List.filter_eq_nil_iff.mpr fun i hi h => ?_
    have hin := List.mem_range.mp hi
    obtain ⟨m, hm, mi⟩ := (hu i hin).mp h
    have c1 : cnt n m ≤ (thr n good (cnt n m)).length := filter_len_le fun j hj => hm j (List.mem_range.mp hj)
    have := top _ (cnt_pos hin mi) (cnt_le n m)
    omega
/-- at i the stake stands with k members -/
def good (S : List (Int × Int)) (p q : Int) (k i : Nat) : Bool := decide ((S.length : Int) * (S.getD i (0, 1)).2 * q ≤ (S.getD i (0, 1)).1 * k * p)
theorem getD_mem {S : List (Int × Int)} (hS : ∀ s ∈ S, FB s) (i : Nat) : FB (S.getD i (0, 1)) := by
  rw [List.getD_eq_getElem?_getD]
  rcases h : S[i]? with _ | s
  · exact ⟨by decide, by decide, by decide, by decide⟩
  · exact hS s (List.mem_of_getElem? h)
theorem good_mono {S : List (Int × Int)} {p q : Int} (hS : ∀ s ∈ S, FB s) (hp : 0 < p) : ∀ k k' j, k ≤ k' → good S p q k j = true → good S p q k' j = true := by
  intro k k' j hk h
  have h := of_decide_eq_true h
  have a0 := (getD_mem hS j).a0
  refine decide_eq_true (Int.le_trans h ?_)
  refine Int.mul_le_mul_of_nonneg_right (Int.mul_le_mul_of_nonneg_left ?_ a0) (by omega)
  omega
def intsD (xs : List Nat) : List D := xs.map fun i : Nat => D.int (i : Int)
def spShare (up : Bool) : SpD := fun ds st R _ => ∃ (S T : List (Int × Int)) (p q : Int), ds = [.tup (S.map frP), fr p q] ∧ S.length ≤ 6 ∧ (∀ s ∈ S, FB s) ∧ 0 < p ∧ p ≤ 1000000 ∧ 0 < q ∧ q ≤ 1000000 ∧
  (if up = true then S.length = T.length ∧ (∀ s ∈ T, FB s) ∧ (∀ i, i < S.length → ((S.getD i (0, 1)).1 ≠ 0) ∧ (T.getD i (0, 1)).1 * (S.getD i (0, 1)).1 = (S.getD i (0, 1)).2 * (T.getD i (0, 1)).2) else S = T) ∧
  ∀ xs, Best T.length (good T p q) xs → R (.tup (intsD xs)) st
theorem len_share {up : Bool} : ∀ ds st R Rx, spShare up ds st R Rx → ds.length = 2 := by
  rintro ds st R Rx ⟨_, _, _, _, rfl, -⟩; rfl
theorem le_mul {x y c : Int} (hc : 0 < c) : x ≤ y ↔ x * c ≤ y * c := ⟨fun h => Int.mul_le_mul_of_nonneg_right h (by omega), fun h => Int.le_of_mul_le_mul_right h hc⟩
/-- the height against a stake -/
theorem height_iff {n c p q t1 t2 h1 h2 a b : Int} (ht : t1 * (1 * q) = c * p * t2) (hh : h1 * (1 * t1) = n * t2 * h2) (t1p : 0 < t1) (t2p : 0 < t2) (h2p : 0 < h2) (qp : 0 < q) : h1 * b ≤ a * h2 ↔ n * b * q ≤ a * c * p := by
  rw [le_mul (Int.mul_pos t1p qp), le_mul (x := n * b * q) (Int.mul_pos t2p h2p)]
  have e1 : h1 * b * (t1 * q) = n * b * q * (t2 * h2) := by grind
  have e2 : a * h2 * (t1 * q) = a * c * p * (t2 * h2) := by grind
  rw [e1, e2]
/-- a mark against the edge -/
theorem edge_iff {n c p q f1 f2 e1 e2 x y a b : Int} (hf : f1 * n = c * f2) (he : e1 * (q * f2) = p * f1 * e2) (hm : a * x = y * b) (np : 0 < n) (f2p : 0 < f2) (e2p : 0 < e2) (qp : 0 < q) (xp : 0 < x) (bp : 0 < b) : x * e2 ≤ e1 * y ↔ n * b * q ≤ a * c * p := by
  rw [le_mul (Int.mul_pos (Int.mul_pos qp f2p) (Int.mul_pos np bp)), le_mul (x := n * b * q) (Int.mul_pos (Int.mul_pos e2p f2p) xp)]
  have g1 : x * e2 * (q * f2 * (n * b)) = n * b * q * (e2 * f2 * x) := by grind
  have g2 : e1 * y * (q * f2 * (n * b)) = a * c * p * (e2 * f2 * x) := by grind
  rw [g1, g2]
def down : Nat → List D
  | 0 => []
  | j + 1 => .int ((j + 1 : Nat) : Int) :: down j
theorem down_eq (n : Nat) : ((List.range ((n : Int) - 0).toNat).map fun i : Nat => D.int ((n : Int) + (i : Int) * (-1))) = down n := by
  rw [Int.sub_zero, Int.toNat_natCast]
  induction n with
  | zero => rfl
  | succ n ih =>
    rw [List.range_succ_eq_map, List.map_cons, List.map_map, down]
    refine List.cons_eq_cons.mpr ⟨congrArg D.int (by omega), ?_⟩
    rw [← ih]
    refine List.map_congr_left fun i _ => ?_
    exact congrArg D.int (by show ((n + 1 : Nat) : Int) + ((i + 1 : Nat) : Int) * (-1) = _; omega)
theorem items_filter (n : Nat) (p : D → Bool) : ((List.range ((n : Int)).toNat).map fun i : Nat => D.int (0 + (i : Int))).filter p = intsD ((List.range n).filter fun i => p (.int (i : Int))) := by
  rw [Int.toNat_natCast, List.filter_map, intsD]
  have : (p ∘ fun i : Nat => D.int (0 + (i : Int))) = fun i : Nat => p (.int (i : Int)) := by
    funext i
    show p (D.int (0 + (i : Int))) = p _
    rw [Int.zero_add]
  rw [this]
  refine List.map_congr_left fun i _ => ?_
  rw [Int.zero_add]
theorem atI_fr {S : List (Int × Int)} {i : Nat} (h : i < S.length) : atI (S.map frP) (0 + (i : Int)) = some (frP (S.getD i (0, 1))) := by
  rw [Int.zero_add]
  refine atI_nat ?_
  rw [List.getElem?_map, List.getElem?_eq_getElem h, List.getD_eq_getElem?_getD, List.getElem?_eq_getElem h]; rfl
def pick (f : Nat → Bool) : D → Bool
  | .int i => f i.toNat
  | _ => false
theorem pick_int {f : Nat → Bool} {i : Nat} : pick f (.int (i : Int)) = f i := by
  show f (i : Int).toNat = _
  rw [Int.toNat_natCast]
theorem read_share_names : ∀ ds st R Rx, spShare false ds st R Rx → wb_share_names spOver spTimes spAtMost (bodyEd R Rx) (startD 7 ds) st := by
  rintro ds st R Rx ⟨S, T, p, q, rfl, hn, hS, hp1, hp2, hq1, hq2, he, k⟩
  have he : S = T := he
  subst he
  unfold wb_share_names bodyEd fr
  walk_at "s"
  rw [List.length_map] at *
  walk_at "s"
  rw [down_eq]
  refine for_ind (fun rest ep st' => ∃ j x3 x4 x5 x6, rest = down j ∧ j ≤ S.length ∧ (∀ i, j < i → i ≤ S.length → (thr S.length (good S p q) i).length < i) ∧ ep = [some (.tup (S.map frP)), some (.tup [.int p, .int q]), some (.int (S.length : Int)), x3, x4, x5, x6] ∧ Sub st st') ?_ ?_ _ _ _ ⟨S.length, none, none, none, none, rfl, Nat.le_refl _, fun i h1 h2 => by omega, rfl, .refl _⟩
  · rintro ep st' ⟨j, x3, x4, x5, x6, e, hj, ht, rfl, s⟩
    refine ⟨trivial, ?_⟩
    walk_at "s"
    cases j with
    | succ j => cases e
    | zero => exact s_endS s (k [] (.inr ⟨rfl, fun j h1 h2 => ht j h1 h2⟩))
  · rintro d r ep st' ⟨j, x3, x4, x5, x6, e, hj, ht, rfl, s⟩ ih
    refine ⟨trivial, ?_⟩
    cases j with
    | zero => cases e
    | succ j =>
    obtain ⟨rfl, rfl⟩ := List.cons.inj e
    have hc : 0 < ((j + 1 : Nat) : Int) := by omega
    have hcp := Int.mul_pos hc hp1
    have hcp2 := (mul_le (A := 6) (B := 1000000) (show 0 ≤ ((j + 1 : Nat) : Int) by omega) (by omega) (show 0 ≤ p by omega) hp2).2
    walk_at "s"
    refine ⟨_, _, _, _, rfl, .inl (.inl ⟨by omega, by omega⟩), .inl (.inl ⟨by omega, by omega⟩), by omega, sm (by omega) (by omega), FracK.pos (by omega) (by omega) fun t1 t2 w1 w2 w3 w4 w5 w6 => ?_⟩
    have t1p := pos_of w5 hcp w3 w1
    walk_at "s"
    have hnt := (mul_le (A := 6) (B := 1000000) (show 0 ≤ (S.length : Int) by omega) (by omega) (show 0 ≤ t2 by omega) (by omega))
    refine ⟨_, _, _, _, rfl, .inl (.inl ⟨by omega, by omega⟩), .inl (.inl ⟨by omega, by omega⟩), by omega, sm (by omega) (by omega), FracK.pos hnt.1 (by omega) fun h1 h2 y1 y2 y3 y4 y5 y6 => ?_⟩
    walk_at "s"
    refine lc_calm (fun d => d) (pick (good S p q (j + 1))) trivial ?_ (fun d hd kk kn g1 g2 => ?_) ?_
    · rw [List.length_map, List.length_range, List.length_nil, Int.toNat_natCast]
      show _ ≤ 2 ^ 24
      omega
    · obtain ⟨i, hi, rfl⟩ := List.mem_map.mp hd
      have hi := List.mem_range.mp hi
      rw [Int.toNat_natCast] at hi
      walk_at "s"
      refine s_opt (atI_fr hi) ?_
      walk_at "s"
      have fb := getD_mem hS i
      obtain ⟨a0, a1, b0, b1⟩ := fb
      refine ⟨_, _, _, _, rfl, .inl (.inr ⟨by omega, by omega⟩), .inl (.inr ⟨by omega, by omega⟩), ?_⟩
      have hiff := height_iff (a := (S.getD i (0, 1)).1) (b := (S.getD i (0, 1)).2) w5 y5 t1p w3 y3 hq1
      have hg : pick (good S p q (j + 1)) (.int (0 + (i : Int))) = decide (h1 * (S.getD i (0, 1)).2 ≤ (S.getD i (0, 1)).1 * h2) := by
        rw [Int.zero_add, pick_int]
        unfold good
        exact decide_eq_decide.mpr hiff.symm
      rw [hg] at g1 g2
      walk_at "s"
      refine s_dec (fun e => ?_) (fun e => ?_)
      · walk_at "s"
        exact g1 (decide_eq_true e)
      · exact g2 (decide_eq_false e)
    · rw [List.nil_append, List.map_id', items_filter]
      intro u hu
      walk_at "s"
      rw [show (List.range S.length).filter (fun i : Nat => pick (good S p q (j + 1)) (.int (i : Int))) = thr S.length (good S p q) (j + 1) from List.filter_congr fun i _ => pick_int]
      have hlen : (intsD (thr S.length (good S p q) (j + 1))).length = (thr S.length (good S p q) (j + 1)).length := List.length_map ..
      rw [hlen]
      refine s_dec (fun e => ?_) (fun e => ?_)
      · walk_at "s"
        exact s_endS (s.trans (Sub.put_new hu)) (k _ (.inl ⟨j + 1, by omega, hj, rfl, by omega, ht⟩))
      · walk_at "s"
        refine ih _ _ ⟨j, _, _, _, _, rfl, by omega, fun i h1 h2 => ?_, rfl, s.trans (Sub.put_new hu)⟩
        rcases Nat.lt_or_ge (j + 1) i with z | z
        · exact ht i z h2
        · have : i = j + 1 := by omega
          subst this
          omega
theorem read_step_up : ∀ ds st R Rx, spShare true ds st R Rx → wb_step_up spTimes spFrac spAtMost (bodyEd R Rx) (startD 7 ds) st := by
  rintro ds st R Rx ⟨S, T, p, q, rfl, hn, hS, hp1, hp2, hq1, hq2, he, k⟩
  obtain ⟨hl, hT, hrel⟩ : S.length = T.length ∧ (∀ s ∈ T, FB s) ∧ (∀ i, i < S.length → ((S.getD i (0, 1)).1 ≠ 0) ∧ (T.getD i (0, 1)).1 * (S.getD i (0, 1)).1 = (S.getD i (0, 1)).2 * (T.getD i (0, 1)).2) := he
  unfold wb_step_up bodyEd fr
  walk_at "s"
  rw [List.length_map] at *
  walk_at "s"
  rw [down_eq]
  rw [← hl] at k
  refine for_ind (fun rest ep st' => ∃ j x3 x4 x5 x6, rest = down j ∧ j ≤ S.length ∧ (∀ i, j < i → i ≤ S.length → (thr S.length (good T p q) i).length < i) ∧ ep = [some (.tup (S.map frP)), some (.tup [.int p, .int q]), some (.int (S.length : Int)), x3, x4, x5, x6] ∧ Sub st st') ?_ ?_ _ _ _ ⟨S.length, none, none, none, none, rfl, Nat.le_refl _, fun i h1 h2 => by omega, rfl, .refl _⟩
  · rintro ep st' ⟨j, x3, x4, x5, x6, e, hj, ht, rfl, s⟩
    refine ⟨trivial, ?_⟩
    walk_at "s"
    cases j with
    | succ j => cases e
    | zero => exact s_endS s (k [] (.inr ⟨rfl, fun j h1 h2 => ht j h1 h2⟩))
  · rintro d r ep st' ⟨j, x3, x4, x5, x6, e, hj, ht, rfl, s⟩ ih
    refine ⟨trivial, ?_⟩
    cases j with
    | zero => cases e
    | succ j =>
    obtain ⟨rfl, rfl⟩ := List.cons.inj e
    have hc : 0 < ((j + 1 : Nat) : Int) := by omega
    walk_at "s"
    refine ⟨_, _, rfl, by omega, sm (by omega) (by omega), FracK.pos (by omega) (by omega) fun f1 f2 w1 w2 w3 w4 w5 w6 => ?_⟩
    have f1p := pos_of w5 hc w3 w1
    walk_at "s"
    have hqf := (mul_le (A := 1000000) (B := 6) (show 0 ≤ q by omega) hq2 (show 0 ≤ f2 by omega) (by omega)).2
    have hqp := Int.mul_pos hq1 w3
    have hpf := (mul_le (A := 1000000) (B := 6) (show 0 ≤ p by omega) hp2 (show 0 ≤ f1 by omega) (by omega))
    refine ⟨_, _, _, _, rfl, .inl (.inl ⟨by omega, by omega⟩), .inl (.inl ⟨by omega, by omega⟩), by omega, sm (by omega) (by omega), FracK.pos hpf.1 (by omega) fun e1 e2 y1 y2 y3 y4 y5 y6 => ?_⟩
    walk_at "s"
    refine lc_calm (fun d => d) (pick (good T p q (j + 1))) trivial ?_ (fun d hd kk kn g1 g2 => ?_) ?_
    · rw [List.length_map, List.length_range, List.length_nil, Int.toNat_natCast]
      show _ ≤ 2 ^ 24
      omega
    · obtain ⟨i, hi, rfl⟩ := List.mem_map.mp hd
      have hi := List.mem_range.mp hi
      rw [Int.toNat_natCast] at hi
      walk_at "s"
      refine s_opt (atI_fr hi) ?_
      walk_at "s"
      have fb := getD_mem hS i
      obtain ⟨a0, a1, b0, b1⟩ := fb
      have fT := getD_mem hT i
      obtain ⟨hx, hm⟩ := hrel i hi
      refine ⟨_, _, _, _, rfl, .inl (.inl ⟨by omega, by omega⟩), .inl (.inl ⟨by omega, by omega⟩), ?_⟩
      have hiff := edge_iff (x := (S.getD i (0, 1)).1) (y := (S.getD i (0, 1)).2) (a := (T.getD i (0, 1)).1) (b := (T.getD i (0, 1)).2) w5 y5 hm (by omega) w3 y3 hq1 (by omega) fT.b0
      have hg : pick (good T p q (j + 1)) (.int (0 + (i : Int))) = decide ((S.getD i (0, 1)).1 * e2 ≤ e1 * (S.getD i (0, 1)).2) := by
        rw [Int.zero_add, pick_int]
        unfold good
        rw [← hl]
        exact decide_eq_decide.mpr hiff.symm
      rw [hg] at g1 g2
      walk_at "s"
      refine s_dec (fun e => ?_) (fun e => ?_)
      · walk_at "s"
        exact g1 (decide_eq_true e)
      · exact g2 (decide_eq_false e)
    · rw [List.nil_append, List.map_id', items_filter]
      intro u hu
      walk_at "s"
      rw [show (List.range S.length).filter (fun i : Nat => pick (good T p q (j + 1)) (.int (i : Int))) = thr S.length (good T p q) (j + 1) from List.filter_congr fun i _ => pick_int]
      have hlen : (intsD (thr S.length (good T p q) (j + 1))).length = (thr S.length (good T p q) (j + 1)).length := List.length_map ..
      rw [hlen]
      refine s_dec (fun e => ?_) (fun e => ?_)
      · walk_at "s"
        exact s_endS (s.trans (Sub.put_new hu)) (k _ (.inl ⟨j + 1, by omega, hj, rfl, by omega, ht⟩))
      · walk_at "s"
        refine ih _ _ ⟨j, _, _, _, _, rfl, by omega, fun i h1 h2 => ?_, rfl, s.trans (Sub.put_new hu)⟩
        rcases Nat.lt_or_ge (j + 1) i with z | z
        · exact ht i z h2
        · have : i = j + 1 := by omega
          subst this
          omega
/-! self-backed sets -/
def spBacked : SpD := fun ds st R _ => ∃ (S : List (Int × Int)) (pm : Addr) (M : List Nat) (p q : Int), ds = [.tup (S.map frP), .ref pm, fr p q] ∧ st pm = some (.lst (intsD M)) ∧ S.length ≤ 6 ∧ M.length ≤ 6 ∧ (∀ s ∈ S, FB s) ∧ 0 < p ∧ p ≤ 1000000 ∧ 0 < q ∧ q ≤ 1000000 ∧ (∀ i ∈ M, i < S.length) ∧
  R (.bl (M.all (good S p q M.length))) st
theorem len_backed : ∀ ds st R Rx, spBacked ds st R Rx → ds.length = 3 := by
  rintro ds st R Rx ⟨_, _, _, _, _, rfl, -⟩; rfl
theorem read_backed : ∀ ds st R Rx, spBacked ds st R Rx → wb_law_is_backed (bodyEd R Rx) (startD 4 ds) st := by
  rintro ds st R Rx ⟨S, pm, M, p, q, rfl, hm, hn, hM6, hS, hp1, hp2, hq1, hq2, hM, k⟩
  unfold wb_law_is_backed bodyEd fr
  walk_at "s"
  refine for_ind (fun rest ep st' => ∃ pre suf x3, M = pre ++ suf ∧ rest = intsD suf ∧ pre.all (good S p q M.length) = true ∧ ep = [some (.tup (S.map frP)), some (.ref pm), some (.tup [.int p, .int q]), x3] ∧ st' = st) ?_ ?_ _ _ _ ⟨[], M, none, rfl, rfl, rfl, rfl, rfl⟩
  · rintro ep st' ⟨pre, suf, x3, e, e2, ha, rfl, rfl⟩
    refine ⟨hm, ?_⟩
    walk_at "s"
    have : suf = [] := by cases suf with
      | nil => rfl
      | cons _ _ => cases e2
    subst this
    rw [List.append_nil] at e
    rw [← e] at ha
    rw [ha] at k
    exact s_end k
  · rintro d r ep st' ⟨pre, suf, x3, e, e2, ha, rfl, rfl⟩ ih
    refine ⟨hm, ?_⟩
    cases suf with
    | nil => cases e2
    | cons i suf =>
    obtain ⟨rfl, rfl⟩ := List.cons.inj e2
    have hi : i < S.length := hM i (by rw [e]; exact List.mem_append_right _ List.mem_cons_self)
    have fb := getD_mem hS i
    obtain ⟨a0, a1, b0, b1⟩ := fb
    have at1 : atI (S.map frP) (i : Int) = some (.tup [.int (S.getD i (0, 1)).1, .int (S.getD i (0, 1)).2]) := by
      have := atI_fr hi
      rwa [Int.zero_add] at this
    have hlen : (intsD M).length = M.length := List.length_map ..
    have hlen2 : (S.map frP).length = S.length := List.length_map ..
    walk_at "s"
    refine s_dec (fun e3 => ?_) (fun e3 => ?_) <;> rw [hlen, hlen2] at e3
    · walk_at "s"
      have : M.all (good S p q M.length) = false := by
        rw [e, List.all_append, List.all_cons, ← e]
        have : good S p q M.length i = false := decide_eq_false (by omega)
        rw [this, Bool.false_and, Bool.and_false]
      rw [this] at k
      exact s_end k
    · walk_at "s"
      refine ih _ _ ⟨pre ++ [i], suf, _, by rw [e, List.append_assoc]; rfl, rfl, ?_, rfl, rfl⟩
      rw [List.all_append, ha, List.all_cons, List.all_nil]
      have : good S p q M.length i = true := decide_eq_true (by omega)
      rw [this]; rfl
/-- the members of a row of picks -/
def memb (n : Nat) (row : List Int) : List Nat := (List.range n).filter fun i => decide (row.getD i 0 = 1)
def backed (S : List (Int × Int)) (p q : Int) (row : List Int) : Bool := (memb S.length row).all (good S p q (memb S.length row).length)
def gath (S : List (Int × Int)) (p q : Int) (rows : List (List Int)) : List Nat := rows.flatMap fun row => if backed S p q row = true then memb S.length row else []
theorem union_gath {S : List (Int × Int)} {p q : Int} : Union S.length (good S p q) ((List.range S.length).filter fun i => decide (i ∈ gath S p q (rowsOf 2 S.length))) := by
  refine ⟨_, rfl, fun i hi => ?_⟩
  rw [decide_eq_true_iff]
  constructor
  · intro h
    obtain ⟨row, hr, h⟩ := List.mem_flatMap.mp h
    by_cases hb : backed S p q row = true
    · rw [if_pos hb] at h
      refine ⟨fun i => decide (row.getD i 0 = 1), fun j hj hm => ?_, (List.mem_filter.mp h).2⟩
      exact List.all_eq_true.mp hb j (List.mem_filter.mpr ⟨List.mem_range.mpr hj, hm⟩)
    · rw [if_neg hb] at h; cases h
  · rintro ⟨m, hm, mi⟩
    have hrow := rowsOf_mem (L := 2) (n := S.length) (f := fun i => if m i = true then 1 else 0) (fun i _ => by split <;> decide)
    have hme : memb S.length ((List.range S.length).map fun i => (((if m i = true then 1 else 0 : Nat)) : Int)) = (List.range S.length).filter m := by
      refine List.filter_congr fun j hj => ?_
      have hj := List.mem_range.mp hj
      rw [List.getD_eq_getElem?_getD, List.getElem?_map, List.getElem?_range hj]
      cases hmj : m j <;> simp [hmj]
    refine List.mem_flatMap.mpr ⟨_, hrow, ?_⟩
    have hb : backed S p q ((List.range S.length).map fun i => (((if m i = true then 1 else 0 : Nat)) : Int)) = true := by
      unfold backed
      rw [hme]
      refine List.all_eq_true.mpr fun j hj => ?_
      obtain ⟨h1, h2⟩ := List.mem_filter.mp hj
      exact hm j (List.mem_range.mp h1) h2
    rw [if_pos hb, hme]
    exact List.mem_filter.mpr ⟨List.mem_range.mpr hi, mi⟩
def spUnion : SpD := fun ds st R _ => ∃ (S : List (Int × Int)) (p q : Int), ds = [.tup (S.map frP), fr p q] ∧ S.length ≤ 6 ∧ (∀ s ∈ S, FB s) ∧ 0 < p ∧ p ≤ 1000000 ∧ 0 < q ∧ q ≤ 1000000 ∧
  ∀ u xs st', Sub st st' → st' u = some (.lst (intsD xs)) → Union S.length (good S p q) xs → R (.ref u) st'
theorem len_union : ∀ ds st R Rx, spUnion ds st R Rx → ds.length = 2 := by
  rintro ds st R Rx ⟨_, _, _, rfl, -⟩; rfl
theorem any_ints {xs : List Nat} {i : Nat} : (intsD xs).any (fun d => D.feq d (.int (0 + (i : Int)))) = decide (i ∈ xs) := by
  induction xs with
  | nil => rfl
  | cons x xs ih =>
    rw [intsD, List.map_cons, List.any_cons]
    rw [intsD] at ih
    rw [ih]
    have : D.feq (.int (x : Int)) (.int (0 + (i : Int))) = decide (i = x) := by
      show decide _ = decide _
      exact decide_eq_decide.mpr (by omega)
    rw [this, ← Bool.decide_or]
    exact decide_eq_decide.mpr List.mem_cons.symm
theorem gath_len {S : List (Int × Int)} {p q : Int} (hn : S.length ≤ 6) : ∀ rows : List (List Int), (gath S p q rows).length ≤ rows.length * 6
  | [] => Nat.zero_le _
  | r :: rows => by
    have ih := gath_len hn (p := p) (q := q) rows
    rw [gath, List.flatMap_cons, List.length_append, List.length_cons, Nat.succ_mul]
    have : (if backed S p q r = true then memb S.length r else []).length ≤ 6 := by
      split
      · exact Nat.le_trans (List.length_filter_le _ _) (by rw [List.length_range]; exact hn)
      · exact Nat.zero_le _
    unfold gath at ih
    omega
theorem read_union : ∀ ds st R Rx, spUnion ds st R Rx → wb_law_union spAllRows spBacked (bodyEd R Rx) (startD 7 ds) st := by
  rintro ds st R Rx ⟨S, p, q, rfl, hn, hS, hp1, hp2, hq1, hq2, k⟩
  have hlen2 : (S.map frP).length = S.length := List.length_map ..
  unfold wb_law_union bodyEd fr
  walk_at "s"
  rw [hlen2]
  walk_at "s"
  intro f hf
  walk_at "s"
  have h64 : 2 ^ S.length ≤ 2 ^ 6 := Nat.pow_le_pow_right (by decide) hn
  refine ⟨2, S.length, rfl, by show _ ≤ 2 ^ 24; omega, by omega, by decide, by decide, fun r st1 s1 hr => ?_⟩
  have hf1 := s1 _ _ (put_same (st := st) (a := f) (o := OB.lst []))
  have nrf : r ≠ f := fun e => by
    rw [e, hf1] at hr
    have h0 : (rowsOf 2 S.length).length = 0 := by
      have : ([] : List D) = (rowsOf 2 S.length).map rowD := by injection hr with hr; injection hr
      rw [← List.length_map (f := rowD), ← this]; rfl
    rw [rowsOf_length] at h0
    have := Nat.two_pow_pos S.length
    omega
  have s01 : Sub st st1 := (Sub.put_new hf).trans s1
  walk_at "s"
  refine for_ind (fun rest ep T => ∃ pre suf x4 x5 x6, rowsOf 2 S.length = pre ++ suf ∧ rest = suf.map rowD ∧ Sub st T ∧ T r = some (.lst ((rowsOf 2 S.length).map rowD)) ∧ T f = some (.lst (intsD (gath S p q pre))) ∧
    ep = [some (.tup (S.map frP)), some (.tup [.int p, .int q]), some (.int (S.length : Int)), some (.ref f), x4, x5, x6]) ?_ ?_ _ _ _ ⟨[], rowsOf 2 S.length, none, none, none, rfl, rfl, s01, hr, hf1, rfl⟩
  · rintro ep T ⟨pre, suf, x4, x5, x6, e, e2, sT, hrT, hfT, rfl⟩
    refine ⟨hrT, ?_⟩
    have : suf = [] := by cases suf with
      | nil => rfl
      | cons _ _ => cases e2
    subst this
    rw [List.append_nil] at e
    rw [← e] at hfT
    walk_at "s"
    refine lc_calm (fun d => d) (pick fun i => decide (i ∈ gath S p q (rowsOf 2 S.length))) trivial ?_ (fun d hd kk kn g1 g2 => ?_) ?_
    · rw [List.length_map, List.length_range, List.length_nil, Int.toNat_natCast]
      show _ ≤ 2 ^ 24
      omega
    · obtain ⟨i, hi, rfl⟩ := List.mem_map.mp hd
      walk_at "s"
      refine ⟨rfl, by rw [intsD, List.all_map]; exact List.all_eq_true.mpr fun _ _ => rfl, ?_⟩
      rw [any_ints]
      walk_at "s"
      have hg : pick (fun i => decide (i ∈ gath S p q (rowsOf 2 S.length))) (.int (0 + (i : Int))) = decide (i ∈ gath S p q (rowsOf 2 S.length)) := by rw [Int.zero_add, pick_int]
      rw [hg] at g1 g2
      refine s_dec (fun e => ?_) (fun e => ?_)
      · walk_at "s"
        exact g1 (decide_eq_true e)
      · exact g2 (decide_eq_false e)
    · rw [List.nil_append, List.map_id', items_filter]
      intro u hu
      walk_at "s"
      rw [show (List.range S.length).filter (fun i : Nat => pick (fun i => decide (i ∈ gath S p q (rowsOf 2 S.length))) (.int (i : Int))) = (List.range S.length).filter fun i => decide (i ∈ gath S p q (rowsOf 2 S.length)) from List.filter_congr fun i _ => pick_int]
      exact s_end (k u _ _ (sT.trans (Sub.put_new hu)) put_same union_gath)
  · rintro d rr ep T ⟨pre, suf, x4, x5, x6, e, e2, sT, hrT, hfT, rfl⟩ ih
    refine ⟨hrT, ?_⟩
    cases suf with
    | nil => cases e2
    | cons row suf =>
    obtain ⟨rfl, rfl⟩ := List.cons.inj e2
    have hrow : row.length = S.length := rowsOf_len (L := 2) (by rw [e]; exact List.mem_append_right _ List.mem_cons_self)
    unfold rowD
    walk_at "s"
    refine lc_calm (fun d => d) (pick fun i => decide (row.getD i 0 = 1)) trivial ?_ (fun d hd kk kn g1 g2 => ?_) ?_
    · rw [List.length_map, List.length_range, List.length_nil, Int.toNat_natCast]
      show _ ≤ 2 ^ 24
      omega
    · obtain ⟨i, hi, rfl⟩ := List.mem_map.mp hd
      have hi := List.mem_range.mp hi
      rw [Int.toNat_natCast] at hi
      have hat : atI (row.map D.int) (0 + (i : Int)) = some (.int (row.getD i 0)) := by
        rw [Int.zero_add]
        refine atI_nat ?_
        rw [List.getElem?_map, List.getElem?_eq_getElem (by omega), List.getD_eq_getElem?_getD, List.getElem?_eq_getElem (by omega)]; rfl
      walk_at "s"
      rw [show pick (fun i => decide (row.getD i 0 = 1)) (.int (0 + (i : Int))) = decide (row.getD i 0 = 1) by rw [Int.zero_add, pick_int]] at g1 g2
      refine s_dec (fun e => ?_) (fun e => ?_)
      · walk_at "s"
        exact g1 (decide_eq_true e)
      · exact g2 (decide_eq_false e)
    · rw [List.nil_append, List.map_id', items_filter]
      intro u hu
      rw [show (List.range S.length).filter (fun i : Nat => pick (fun i => decide (row.getD i 0 = 1)) (.int (i : Int))) = memb S.length row from List.filter_congr fun i _ => pick_int]
      walk_at "s"
      have hm6 : (memb S.length row).length ≤ S.length := by
        have := List.length_filter_le (fun i => decide (row.getD i 0 = 1)) (List.range S.length)
        rwa [List.length_range] at this
      have nuf : f ≠ u := fun e => by rw [e, hu] at hfT; cases hfT
      have nur : r ≠ u := fun e => by rw [e, hu] at hrT; cases hrT
      refine ⟨S, u, memb S.length row, p, q, rfl, put_same, hn, by omega, hS, hp1, hp2, hq1, hq2, fun i hi => List.mem_range.mp (List.mem_filter.mp hi).1, ?_⟩
      walk_at "s"
      have hgl := gath_len (p := p) (q := q) hn pre
      have hpl : pre.length ≤ 64 := by
        have := rowsOf_length 2 S.length
        rw [e, List.length_append] at this
        omega
      have hnot : gath S p q (pre ++ [row]) = gath S p q pre ++ if backed S p q row = true then memb S.length row else [] := by
        rw [gath, List.flatMap_append, List.flatMap_cons, List.flatMap_nil, List.append_nil]; rfl
      refine s_b2 (fun hb => ?_) (fun hb => ?_)
      · have hb : backed S p q row = true := hb
        walk_at "s"
        refine ⟨by rw [intsD, intsD, List.length_map, List.length_map]; show _ ≤ 2 ^ 24; omega, ?_⟩
        refine ih _ _ ⟨pre ++ [row], suf, _, _, _, by rw [e, List.append_assoc]; rfl, rfl, (sT.put_to _ (sT.none hu)).put_to _ hf, ?_, ?_, rfl⟩
        · rw [put_ne nrf, put_ne nur]; exact hrT
        · rw [put_same, hnot, if_pos hb, intsD, intsD, intsD, List.map_append]
      · walk_at "s"
        refine ih _ _ ⟨pre ++ [row], suf, _, _, _, by rw [e, List.append_assoc]; rfl, rfl, sT.put_to _ (sT.none hu), ?_, ?_, rfl⟩
        · rw [put_ne nur]; exact hrT
        · have : ¬ backed S p q row = true := by unfold backed; rw [hb]; decide
          rw [put_ne nuf, hnot, if_neg this, List.append_nil]; exact hfT
theorem s_yesB {t : Bool} {A B : Unit → Prop} (e : t = true) (h : A ()) : cnd t A B := by rw [e]; exact s_cT h
theorem s_noB {t : Bool} {A B : Unit → Prop} (e : t = false) (h : B ()) : cnd t A B := by rw [e]; exact s_cF h
/-! the law's own -/
def spIsRow : SpD := fun ds st R _ => ∃ (xs : List Nat) (p : Addr), ds = [.tup (intsD xs), .ref p] ∧ st p = some (.lst (intsD xs)) ∧ xs.length ≤ 6 ∧ R (.bl true) st
theorem len_is_row : ∀ ds st R Rx, spIsRow ds st R Rx → ds.length = 2 := by
  rintro ds st R Rx ⟨_, _, rfl, -⟩; rfl
theorem read_is_row : ∀ ds st R Rx, spIsRow ds st R Rx → wb_law_is_row spIsInt (bodyEd R Rx) (startD 3 ds) st := by
  rintro ds st R Rx ⟨xs, p, rfl, hp, hl, k⟩
  have hlen : (intsD xs).length = xs.length := List.length_map ..
  unfold wb_law_is_row bodyEd
  walk_at "s"
  refine s_noB rfl ?_
  walk_at "s"
  refine s_nnoP rfl ?_
  walk_at "s"
  rw [hlen]
  walk_at "s"
  refine lc_calm (fun d => .bl true) (fun _ => true) trivial ?_ (fun d hd kk kn g1 g2 => ?_) ?_
  · rw [List.length_map, List.length_range, List.length_nil, Int.toNat_natCast]
    show _ ≤ 2 ^ 24
    omega
  · obtain ⟨i, hi, rfl⟩ := List.mem_map.mp hd
    have hi := List.mem_range.mp hi
    rw [Int.toNat_natCast] at hi
    have hat : atI (intsD xs) (0 + (i : Int)) = some (.int (xs[i] : Nat)) := by
      rw [Int.zero_add]
      refine atI_nat ?_
      rw [intsD, List.getElem?_map, List.getElem?_eq_getElem hi]; rfl
    walk_at "s"
    refine ⟨_, rfl, trivial, ?_⟩
    walk_at "s"
    refine s_yesB rfl ?_
    walk_at "s"
    rw [decide_eq_true rfl]
    exact g1 rfl
  · rw [List.nil_append]
    intro u hu
    walk_at "s"
    have hbs : ∀ l : List D, boolsOf (l.map fun _ => D.bl true) = some (l.map fun _ => true) := fun l => by
      have := boolsOf_map (l.map fun _ => true)
      rw [List.map_map] at this
      exact this
    refine s_opt (hbs _) ?_
    walk_at "s"
    rw [show (List.map (fun _ => true) _ : List Bool).all (fun b => b) = true from List.all_eq_true.mpr fun b hb => by obtain ⟨_, -, rfl⟩ := List.mem_map.mp hb; rfl]
    exact s_endS (Sub.put_new hu) k
def spLot : SpD := fun ds st R _ => ∃ (d c : Addr) (ns : List Int), ds = [.ref d] ∧ DK st d c ns ∧
  ∀ (S : List (Int × Int)) (p q : Int) st', S.length ≤ 6 → (∀ s ∈ S, FB s) → 0 < p → p ≤ 1000000 → 0 < q → q ≤ 1000000 → Dr d c ns st st' → R (.tup [.tup (S.map frP), fr p q]) st'
theorem len_lot : ∀ ds st R Rx, spLot ds st R Rx → ds.length = 1 := by
  rintro ds st R Rx ⟨_, _, _, rfl, -⟩; rfl
theorem read_lot : ∀ ds st R Rx, spLot ds st R Rx → wb_law_lot spDraw spFrac spShown (bodyEd R Rx) (startD 5 ds) st := by
  rintro ds st R Rx ⟨d, c, ns, rfl, dk, k⟩
  unfold wb_law_lot bodyEd
  walk_at "s"
  refine ⟨d, c, ns, _, rfl, dk, by omega, sm (by omega) (by omega), fun v st1 hv1 hv2 r1 => ?_⟩
  walk_at "s"
  refine ⟨d, c, ns, _, rfl, r1.dk, by omega, sm (by omega) (by omega), fun v2 st2 _ _ r2 => ?_⟩
  walk_at "s"
  have h6 : (10 : Int) ^ (6 : Int).toNat = 1000000 := by decide
  refine s_dec (fun e => ?_) (fun e => ?_) <;> (
    walk_at "s"
    try rw [h6]
    refine ⟨d, c, ns, _, rfl, r2.dk, by omega, sm (by omega) (by omega), fun v3 st3 _ _ r3 => ?_⟩
    walk_at "s"
    refine ⟨d, c, ns, _, rfl, r3.dk, by omega, sm (by omega) (by omega), fun v4 st4 _ _ r4 => ?_⟩
    walk_at "s"
    refine ⟨_, _, rfl, by omega, sm (by omega) (by omega), FracK.pos (by omega) (by omega) fun p q w1 w2 w3 w4 w5 w6 => ?_⟩
    have pp := pos_of w5 (by omega) w3 w1
    have r14 := ((r1.trans r2).trans r3).trans r4
    walk_at "s"
    refine lc_ind (fun items acc st' => ∃ S, acc = S.map frP ∧ (∀ s ∈ S, FB s) ∧ items.length + S.length = (1 + v).toNat ∧ Dr d c ns st st') ?_ ?_ _ _ _ ⟨[], rfl, fun s hs => by (cases hs), by rw [List.length_map, List.length_range]; rfl, r14⟩
    · rintro acc st' ⟨S, rfl, hS, hl, r⟩
      refine ⟨trivial, ?_⟩
      intro u hu
      walk_at "s"
      exact s_end (k S p q _ (by simp only [List.length_nil] at hl; omega) hS (by omega) (by omega) (by omega) (by omega) (r.new hu))
    · rintro d0 rr acc st' ⟨S, rfl, hS, hl, r⟩ ih
      refine ⟨trivial, ?_⟩
      walk_at "s"
      refine ⟨d, c, ns, _, _, _, rfl, r.dk, by omega, by omega, by omega, by omega, by omega, by omega, fun s st5 hs _ r5 => ?_⟩
      simp only [List.length_cons] at hl
      refine ⟨by rw [List.length_map]; show _ < 2 ^ 24; omega, ?_⟩
      refine ih _ _ ⟨S ++ [s], by rw [List.map_append]; rfl, fun t ht => ?_, by rw [List.length_append, List.length_singleton]; omega, r.trans r5⟩
      rcases List.mem_append.mp ht with ht | ht
      · exact hS t ht
      · rw [List.mem_singleton.mp ht]; exact hs)
/-! THE LAW -/
def spLaw : SpD := fun ds st R _ => ∃ ns : List Int, ds = [.scr (ns.map D.int)] ∧ ns.length ≤ sizeLine ∧ ∀ st', R (.bl true) st'
theorem len_law : ∀ ds st R Rx, spLaw ds st R Rx → ds.length = 1 := by
  rintro ds st R Rx ⟨_, rfl, -⟩; rfl
theorem best_len {n : Nat} {g : Nat → Nat → Bool} {xs : List Nat} (h : Best n g xs) : xs.length ≤ n := by
  rcases h with ⟨k, _, _, rfl, _⟩ | ⟨rfl, _⟩
  · have := List.length_filter_le (g k) (List.range n)
    rwa [List.length_range] at this
  · exact Nat.zero_le _
theorem read_law : ∀ ds st R Rx, spLaw ds st R Rx → wb_law spBegin spLot spIsRow (spShare false) spUnion spDraw spAboveZero spMark spOver (spShare true) (bodyEd R Rx) (startD 12 ds) st := by
  rintro ds st R Rx ⟨ns, rfl, hns, k⟩
  unfold wb_law bodyEd
  walk_at "s"
  refine ⟨ns, rfl, hns, fun d c st1 _ dk => ?_⟩
  walk_at "s"
  refine ⟨d, c, ns, rfl, dk, fun S1 p1 q1 st2 l1 hS1 hp1 hp1' hq1 hq1' r1 => ?_⟩
  walk_at "s"
  refine ⟨d, c, ns, rfl, r1.dk, fun S2 p2 q2 st3 l2 hS2 hp2 hp2' hq2 hq2' r2 => ?_⟩
  walk_at "s"
  intro u hu
  walk_at "s"
  have hlots : ∀ lot ∈ [D.tup [.tup (S1.map frP), fr p1 q1], D.tup [.tup (S2.map frP), fr p2 q2], D.tup [.tup (S1.map frP), fr p1 q1]], ∃ (S : List (Int × Int)) (p q : Int), lot = .tup [.tup (S.map frP), fr p q] ∧ S.length ≤ 6 ∧ (∀ s ∈ S, FB s) ∧ 0 < p ∧ p ≤ 1000000 ∧ 0 < q ∧ q ≤ 1000000 := by
    intro lot hl
    rcases List.mem_cons.mp hl with rfl | hl
    · exact ⟨S1, p1, q1, rfl, l1, hS1, hp1, hp1', hq1, hq1'⟩
    · rcases List.mem_cons.mp hl with rfl | hl
      · exact ⟨S2, p2, q2, rfl, l2, hS2, hp2, hp2', hq2, hq2'⟩
      · rw [List.mem_singleton.mp hl]
        exact ⟨S1, p1, q1, rfl, l1, hS1, hp1, hp1', hq1, hq1'⟩
  have dk3 := r2.dk.new (o := .lst [D.tup [.tup (S1.map frP), fr p1 q1], D.tup [.tup (S2.map frP), fr p2 q2], D.tup [.tup (S1.map frP), fr p1 q1]]) hu
  have hu3 := put_same (st := st3) (a := u) (o := .lst [D.tup [.tup (S1.map frP), fr p1 q1], D.tup [.tup (S2.map frP), fr p2 q2], D.tup [.tup (S1.map frP), fr p1 q1]])
  generalize put st3 u _ = st4 at dk3 hu3 ⊢
  generalize hLs : [D.tup [.tup (S1.map frP), fr p1 q1], D.tup [.tup (S2.map frP), fr p2 q2], D.tup [.tup (S1.map frP), fr p1 q1]] = Ls at hlots hu3 ⊢
  refine for_ind (fun rest ep st' => ∃ x2 x3 x4, (∀ l ∈ rest, l ∈ Ls) ∧ ep = [some (.scr (ns.map D.int)), some (.ref d), x2, x3, x4, none, none, none, none, none, none, none] ∧ st' u = some (.lst Ls) ∧ DK st' d c ns) ?_ ?_ _ _ _ ⟨_, _, _, fun l h => h, rfl, hu3, dk3⟩
  · rintro ep st' ⟨x2, x3, x4, -, rfl, hu', dk⟩
    refine ⟨hu', ?_⟩
    walk_at "s"
    refine ⟨d, c, ns, _, rfl, dk, by omega, sm (by omega) (by omega), fun v st5 hv1 hv2 r5 => ?_⟩
    walk_at "s"
    refine ⟨d, c, ns, _, rfl, r5.dk, by omega, sm (by omega) (by omega), fun p q st6 hp hpq hq _ r6 => ?_⟩
    walk_at "s"
    refine lc_ind (fun items acc st' => ∃ S : List (Int × Int), acc = S.map frP ∧ (∀ s ∈ S, FB s ∧ 1 ≤ s.1) ∧ items.length + S.length = (1 + v).toNat ∧ DK st' d c ns) ?_ ?_ _ _ _ ⟨[], rfl, fun s hs => by (cases hs), by rw [List.length_map, List.length_range]; rfl, r6.dk⟩
    · rintro acc st' ⟨S, rfl, hS, hl, dk7⟩
      refine ⟨trivial, ?_⟩
      intro u2 hu2
      simp only [List.length_nil] at hl
      walk_at "s"
      refine lc_ind (fun items acc st' => ∃ suf T : List (Int × Int), ∃ pre, S = pre ++ suf ∧ items = suf.map frP ∧ acc = T.map frP ∧ T.length = pre.length ∧ (∀ t ∈ T, FB t) ∧ (∀ i, i < pre.length → (T.getD i (0, 1)).1 * (pre.getD i (0, 1)).1 = (pre.getD i (0, 1)).2 * (T.getD i (0, 1)).2) ∧ DK st' d c ns) ?_ ?_ _ _ _ ⟨S, [], [], rfl, rfl, rfl, rfl, fun s hs => by (cases hs), fun i hi => by (cases hi), dk7.new hu2⟩
      · rintro acc st8 ⟨suf, T, pre, e1, e2, rfl, hTl, hT, hrel, dk8⟩
        have : suf = [] := by cases suf with
          | nil => rfl
          | cons _ _ => cases e2
        subst this
        rw [List.append_nil] at e1
        subst e1
        refine ⟨trivial, ?_⟩
        intro u3 hu3
        walk_at "s"
        have hS6 : S.length ≤ 6 := by omega
        refine ⟨T, p, q, rfl, by omega, hT, hp, by omega, by omega, by omega, fun w xs st9 s9 hw hxs => ?_⟩
        walk_at "s"
        have hnz : ∀ i, i < S.length → (S.getD i (0, 1)).1 ≠ 0 := fun i hi => by
          have := (hS (S.getD i (0, 1)) (by rw [List.getD_eq_getElem?_getD, List.getElem?_eq_getElem hi]; exact List.getElem_mem hi)).2
          omega
        refine ⟨S, T, p, q, rfl, hS6, fun s hs => (hS s hs).1, hp, by omega, by omega, by omega, ⟨hTl.symm, hT, fun i hi => ⟨hnz i hi, hrel i hi⟩⟩, fun ys hys => ?_⟩
        have := best_union (good_mono hT hp) hys hxs
        subst this
        have hlx := best_len hys
        walk_at "s"
        refine ⟨_, w, rfl, hw, by omega, ?_⟩
        walk_at "s"
        refine s_noB rfl ?_
        walk_at "s"
        refine ⟨T, T, p, q, rfl, by omega, hT, hp, by omega, by omega, by omega, rfl, fun zs hzs => ?_⟩
        have := best_union (good_mono hT hp) hzs hxs
        subst this
        walk_at "s"
        refine ⟨_, w, rfl, hw, by omega, ?_⟩
        exact s_end (k _)
      · rintro d0 rr acc st8 ⟨suf, T, pre, e1, e2, rfl, hTl, hT, hrel, dk8⟩ ih
        refine ⟨trivial, ?_⟩
        cases suf with
        | nil => cases e2
        | cons s suf =>
        obtain ⟨rfl, rfl⟩ := List.cons.inj e2
        obtain ⟨⟨a0, a1, b0, b1⟩, ha⟩ := hS s (by rw [e1]; exact List.mem_append_right _ List.mem_cons_self)
        walk_at "s"
        refine ⟨_, _, _, _, rfl, .inl (.inl ⟨by decide, by decide⟩), .inl (.inl ⟨by decide, by decide⟩), by omega, sm (by omega) (by omega), FracK.pos (by omega) (by omega) fun n' d' w1 w2 w3 w4 w5 w6 => ?_⟩
        have hTS : T.length < 2 ^ 24 := by
          have : S.length ≤ 6 := by omega
          rw [e1, List.length_append] at this
          omega
        refine ⟨by rw [List.length_map]; exact hTS, ?_⟩
        refine ih _ _ ⟨suf, T ++ [(n', d')], pre ++ [s], by rw [e1, List.append_assoc]; rfl, rfl, by rw [List.map_append]; rfl, by rw [List.length_append, List.length_append, hTl]; rfl, fun t ht => ?_, fun i hi => ?_, dk8⟩
        · rcases List.mem_append.mp ht with ht | ht
          · exact hT t ht
          · rw [List.mem_singleton.mp ht]; exact ⟨w1, by show n' ≤ _; omega, w3, by show d' ≤ _; omega⟩
        · rw [List.length_append, List.length_singleton] at hi
          rcases Nat.lt_or_ge i pre.length with h | h
          · have := hrel i h
            rw [List.getD_eq_getElem?_getD, List.getD_eq_getElem?_getD] at this
            rw [List.getD_eq_getElem?_getD, List.getD_eq_getElem?_getD, List.getElem?_append_left h, List.getElem?_append_left (by omega)]
            exact this
          · have hi2 : i = pre.length := by omega
            rw [List.getD_eq_getElem?_getD, List.getD_eq_getElem?_getD, List.getElem?_append_right h, List.getElem?_append_right (by omega), hi2, hTl, Nat.sub_self]
            show n' * s.1 = s.2 * d'
            rw [Int.one_mul, Int.one_mul] at w5
            exact w5
    · rintro d0 rr acc st' ⟨S, rfl, hS, hl, dk7⟩ ih
      refine ⟨trivial, ?_⟩
      walk_at "s"
      simp only [List.length_cons] at hl
      refine ⟨d, c, ns, _, _, _, rfl, dk7, by omega, by omega, by omega, by omega, by omega, by omega, fun s st8 hs hs1 r8 => ?_⟩
      refine ⟨by rw [List.length_map]; show _ < 2 ^ 24; omega, ?_⟩
      refine ih _ _ ⟨S ++ [s], by rw [List.map_append]; rfl, fun t ht => ?_, by rw [List.length_append, List.length_singleton]; omega, r8.dk⟩
      rcases List.mem_append.mp ht with ht | ht
      · exact hS t ht
      · rw [List.mem_singleton.mp ht]; exact ⟨hs, hs1⟩
  · rintro lot rest ep st' ⟨x2, x3, x4, hr, rfl, hu', dk⟩ ih
    refine ⟨hu', ?_⟩
    obtain ⟨S, p, q, rfl, l, hS, hp, hp', hq, hq'⟩ := hlots _ (hr _ List.mem_cons_self)
    walk_at "s"
    refine ⟨S, S, p, q, rfl, l, hS, hp, hp', hq, hq', rfl, fun xs hxs => ?_⟩
    walk_at "s"
    refine ⟨S, p, q, rfl, l, hS, hp, hp', hq, hq', fun v ys st5 s5 hv hys => ?_⟩
    have := best_union (good_mono hS hp) hxs hys
    subst this
    have hlx := best_len hxs
    walk_at "s"
    refine ⟨_, v, rfl, hv, by omega, ?_⟩
    walk_at "s"
    refine s_noB rfl ?_
    walk_at "s"
    exact ih _ _ ⟨_, _, _, fun l h => hr l (List.mem_cons_of_mem _ h), rfl, s5 _ _ hu', dk.sub s5⟩
end K64
end DL

namespace DL
namespace K64
open PySem PySem.Spec PyProof.Rows L2 C
theorem all_mk {P : Program} {w : World} {K : PySem.W.Frag} {h : Heap} {mg : Str → Option Value} {fa : Addr} (X : K.In h) (G : h.Ns mainGlobals mg) (hfa : mg "law" = some (.ref fa))
    {f0 : Addr} {oc0 kV0 dc0 pm0 cd0 ct0 : Value} {od0 an0 : Option Addr} {sl0 : Array (Option Value)}
    {f1 : Addr} {oc1 kV1 dc1 pm1 cd1 ct1 : Value} {od1 an1 : Option Addr} {sl1 : Array (Option Value)}
    {f2 : Addr} {oc2 kV2 dc2 pm2 cd2 ct2 : Value} {od2 an2 : Option Addr} {sl2 : Array (Option Value)}
    {f3 : Addr} {oc3 kV3 dc3 pm3 cd3 ct3 : Value} {od3 an3 : Option Addr} {sl3 : Array (Option Value)}
    {f4 : Addr} {oc4 kV4 dc4 pm4 cd4 ct4 : Value} {od4 an4 : Option Addr} {sl4 : Array (Option Value)}
    {f5 : Addr} {oc5 kV5 dc5 pm5 cd5 ct5 : Value} {od5 an5 : Option Addr} {sl5 : Array (Option Value)}
    {f6 : Addr} {oc6 kV6 dc6 pm6 cd6 ct6 : Value} {od6 an6 : Option Addr} {sl6 : Array (Option Value)}
    {f7 : Addr} {oc7 kV7 dc7 pm7 cd7 ct7 : Value} {od7 an7 : Option Addr} {sl7 : Array (Option Value)}
    {f8 : Addr} {oc8 kV8 dc8 pm8 cd8 ct8 : Value} {od8 an8 : Option Addr} {sl8 : Array (Option Value)}
    {f9 : Addr} {oc9 kV9 dc9 pm9 cd9 ct9 : Value} {od9 an9 : Option Addr} {sl9 : Array (Option Value)}
    {f10 : Addr} {oc10 kV10 dc10 pm10 cd10 ct10 : Value} {od10 an10 : Option Addr} {sl10 : Array (Option Value)}
    {f11 : Addr} {oc11 kV11 dc11 pm11 cd11 ct11 : Value} {od11 an11 : Option Addr} {sl11 : Array (Option Value)}
    {f12 : Addr} {oc12 kV12 dc12 pm12 cd12 ct12 : Value} {od12 an12 : Option Addr} {sl12 : Array (Option Value)}
    {f13 : Addr} {oc13 kV13 dc13 pm13 cd13 ct13 : Value} {od13 an13 : Option Addr} {sl13 : Array (Option Value)}
    {f14 : Addr} {oc14 kV14 dc14 pm14 cd14 ct14 : Value} {od14 an14 : Option Addr} {sl14 : Array (Option Value)}
    {f15 : Addr} {oc15 kV15 dc15 pm15 cd15 ct15 : Value} {od15 an15 : Option Addr} {sl15 : Array (Option Value)}
    {f16 : Addr} {oc16 kV16 dc16 pm16 cd16 ct16 : Value} {od16 an16 : Option Addr} {sl16 : Array (Option Value)}
    {f17 : Addr} {oc17 kV17 dc17 pm17 cd17 ct17 : Value} {od17 an17 : Option Addr} {sl17 : Array (Option Value)}
    {f18 : Addr} {oc18 kV18 dc18 pm18 cd18 ct18 : Value} {od18 an18 : Option Addr} {sl18 : Array (Option Value)}
    {f19 : Addr} {oc19 kV19 dc19 pm19 cd19 ct19 : Value} {od19 an19 : Option Addr} {sl19 : Array (Option Value)}
    {f20 : Addr} {oc20 kV20 dc20 pm20 cd20 ct20 : Value} {od20 an20 : Option Addr} {sl20 : Array (Option Value)}
    {f21 : Addr} {oc21 kV21 dc21 pm21 cd21 ct21 : Value} {od21 an21 : Option Addr} {sl21 : Array (Option Value)}
    {f22 : Addr} {oc22 kV22 dc22 pm22 cd22 ct22 : Value} {od22 an22 : Option Addr} {sl22 : Array (Option Value)}
    {f23 : Addr} {oc23 kV23 dc23 pm23 cd23 ct23 : Value} {od23 an23 : Option Addr} {sl23 : Array (Option Value)}
    {f24 : Addr} {oc24 kV24 dc24 pm24 cd24 ct24 : Value} {od24 an24 : Option Addr} {sl24 : Array (Option Value)}
    (a0 : PySem.W.nsIn K mainGlobals "fraction" = some (some (.ref f0))) (l0 : K.lookup f0 = some ⟨oc0, od0, .func (PySem.W.fnOf "fraction" "fraction" (defArgs s_fraction) (defBody s_fraction) (defScope s_fraction) .none kV0 dc0 pm0 an0 cd0 ct0), sl0⟩) (c0 : PySem.W.codeIn K cd0 "fraction" = true) (k0 : PySem.W.keepIn K (.ref f0) = true)
    (a1 : PySem.W.nsIn K mainGlobals "times" = some (some (.ref f1))) (l1 : K.lookup f1 = some ⟨oc1, od1, .func (PySem.W.fnOf "times" "times" (defArgs s_times) (defBody s_times) (defScope s_times) .none kV1 dc1 pm1 an1 cd1 ct1), sl1⟩) (c1 : PySem.W.codeIn K cd1 "times" = true) (k1 : PySem.W.keepIn K (.ref f1) = true)
    (a2 : PySem.W.nsIn K mainGlobals "over" = some (some (.ref f2))) (l2 : K.lookup f2 = some ⟨oc2, od2, .func (PySem.W.fnOf "over" "over" (defArgs s_over) (defBody s_over) (defScope s_over) .none kV2 dc2 pm2 an2 cd2 ct2), sl2⟩) (c2 : PySem.W.codeIn K cd2 "over" = true) (k2 : PySem.W.keepIn K (.ref f2) = true)
    (a3 : PySem.W.nsIn K mainGlobals "at_most" = some (some (.ref f3))) (l3 : K.lookup f3 = some ⟨oc3, od3, .func (PySem.W.fnOf "at_most" "at_most" (defArgs s_at_most) (defBody s_at_most) (defScope s_at_most) .none kV3 dc3 pm3 an3 cd3 ct3), sl3⟩) (c3 : PySem.W.codeIn K cd3 "at_most" = true) (k3 : PySem.W.keepIn K (.ref f3) = true)
    (a4 : PySem.W.nsIn K mainGlobals "share_names" = some (some (.ref f4))) (l4 : K.lookup f4 = some ⟨oc4, od4, .func (PySem.W.fnOf "share_names" "share_names" (defArgs s_share_names) (defBody s_share_names) (defScope s_share_names) .none kV4 dc4 pm4 an4 cd4 ct4), sl4⟩) (c4 : PySem.W.codeIn K cd4 "share_names" = true) (k4 : PySem.W.keepIn K (.ref f4) = true)
    (a5 : PySem.W.nsIn K mainGlobals "step_up" = some (some (.ref f5))) (l5 : K.lookup f5 = some ⟨oc5, od5, .func (PySem.W.fnOf "step_up" "step_up" (defArgs s_step_up) (defBody s_step_up) (defScope s_step_up) .none kV5 dc5 pm5 an5 cd5 ct5), sl5⟩) (c5 : PySem.W.codeIn K cd5 "step_up" = true) (k5 : PySem.W.keepIn K (.ref f5) = true)
    (a6 : PySem.W.nsIn K mainGlobals "_law_begin" = some (some (.ref f6))) (l6 : K.lookup f6 = some ⟨oc6, od6, .func (PySem.W.fnOf "_law_begin" "_law_begin" (defArgs s_law_begin) (defBody s_law_begin) (defScope s_law_begin) .none kV6 dc6 pm6 an6 cd6 ct6), sl6⟩) (c6 : PySem.W.codeIn K cd6 "_law_begin" = true) (k6 : PySem.W.keepIn K (.ref f6) = true)
    (a7 : PySem.W.nsIn K mainGlobals "_law_draw" = some (some (.ref f7))) (l7 : K.lookup f7 = some ⟨oc7, od7, .func (PySem.W.fnOf "_law_draw" "_law_draw" (defArgs s_law_draw) (defBody s_law_draw) (defScope s_law_draw) .none kV7 dc7 pm7 an7 cd7 ct7), sl7⟩) (c7 : PySem.W.codeIn K cd7 "_law_draw" = true) (k7 : PySem.W.keepIn K (.ref f7) = true)
    (a8 : PySem.W.nsIn K mainGlobals "_law_is_int" = some (some (.ref f8))) (l8 : K.lookup f8 = some ⟨oc8, od8, .func (PySem.W.fnOf "_law_is_int" "_law_is_int" (defArgs s_law_is_int) (defBody s_law_is_int) (defScope s_law_is_int) .none kV8 dc8 pm8 an8 cd8 ct8), sl8⟩) (c8 : PySem.W.codeIn K cd8 "_law_is_int" = true) (k8 : PySem.W.keepIn K (.ref f8) = true)
    (a9 : PySem.W.nsIn K mainGlobals "_law_gcd" = some (some (.ref f9))) (l9 : K.lookup f9 = some ⟨oc9, od9, .func (PySem.W.fnOf "_law_gcd" "_law_gcd" (defArgs s_law_gcd) (defBody s_law_gcd) (defScope s_law_gcd) .none kV9 dc9 pm9 an9 cd9 ct9), sl9⟩) (c9 : PySem.W.codeIn K cd9 "_law_gcd" = true) (k9 : PySem.W.keepIn K (.ref f9) = true)
    (a10 : PySem.W.nsIn K mainGlobals "_law_frac" = some (some (.ref f10))) (l10 : K.lookup f10 = some ⟨oc10, od10, .func (PySem.W.fnOf "_law_frac" "_law_frac" (defArgs s_law_frac) (defBody s_law_frac) (defScope s_law_frac) .none kV10 dc10 pm10 an10 cd10 ct10), sl10⟩) (c10 : PySem.W.codeIn K cd10 "_law_frac" = true) (k10 : PySem.W.keepIn K (.ref f10) = true)
    (a11 : PySem.W.nsIn K mainGlobals "_law_times" = some (some (.ref f11))) (l11 : K.lookup f11 = some ⟨oc11, od11, .func (PySem.W.fnOf "_law_times" "_law_times" (defArgs s_law_times) (defBody s_law_times) (defScope s_law_times) .none kV11 dc11 pm11 an11 cd11 ct11), sl11⟩) (c11 : PySem.W.codeIn K cd11 "_law_times" = true) (k11 : PySem.W.keepIn K (.ref f11) = true)
    (a12 : PySem.W.nsIn K mainGlobals "_law_over" = some (some (.ref f12))) (l12 : K.lookup f12 = some ⟨oc12, od12, .func (PySem.W.fnOf "_law_over" "_law_over" (defArgs s_law_over) (defBody s_law_over) (defScope s_law_over) .none kV12 dc12 pm12 an12 cd12 ct12), sl12⟩) (c12 : PySem.W.codeIn K cd12 "_law_over" = true) (k12 : PySem.W.keepIn K (.ref f12) = true)
    (a13 : PySem.W.nsIn K mainGlobals "_law_less" = some (some (.ref f13))) (l13 : K.lookup f13 = some ⟨oc13, od13, .func (PySem.W.fnOf "_law_less" "_law_less" (defArgs s_law_less) (defBody s_law_less) (defScope s_law_less) .none kV13 dc13 pm13 an13 cd13 ct13), sl13⟩) (c13 : PySem.W.codeIn K cd13 "_law_less" = true) (k13 : PySem.W.keepIn K (.ref f13) = true)
    (a14 : PySem.W.nsIn K mainGlobals "_law_least" = some (some (.ref f14))) (l14 : K.lookup f14 = some ⟨oc14, od14, .func (PySem.W.fnOf "_law_least" "_law_least" (defArgs s_law_least) (defBody s_law_least) (defScope s_law_least) .none kV14 dc14 pm14 an14 cd14 ct14), sl14⟩) (c14 : PySem.W.codeIn K cd14 "_law_least" = true) (k14 : PySem.W.keepIn K (.ref f14) = true)
    (a15 : PySem.W.nsIn K mainGlobals "_law_fraction" = some (some (.ref f15))) (l15 : K.lookup f15 = some ⟨oc15, od15, .func (PySem.W.fnOf "_law_fraction" "_law_fraction" (defArgs s_law_fraction) (defBody s_law_fraction) (defScope s_law_fraction) .none kV15 dc15 pm15 an15 cd15 ct15), sl15⟩) (c15 : PySem.W.codeIn K cd15 "_law_fraction" = true) (k15 : PySem.W.keepIn K (.ref f15) = true)
    (a16 : PySem.W.nsIn K mainGlobals "_law_all_rows" = some (some (.ref f16))) (l16 : K.lookup f16 = some ⟨oc16, od16, .func (PySem.W.fnOf "_law_all_rows" "_law_all_rows" (defArgs s_law_all_rows) (defBody s_law_all_rows) (defScope s_law_all_rows) .none kV16 dc16 pm16 an16 cd16 ct16), sl16⟩) (c16 : PySem.W.codeIn K cd16 "_law_all_rows" = true) (k16 : PySem.W.keepIn K (.ref f16) = true)
    (a17 : PySem.W.nsIn K mainGlobals "_law_above_zero" = some (some (.ref f17))) (l17 : K.lookup f17 = some ⟨oc17, od17, .func (PySem.W.fnOf "_law_above_zero" "_law_above_zero" (defArgs s_law_above_zero) (defBody s_law_above_zero) (defScope s_law_above_zero) .none kV17 dc17 pm17 an17 cd17 ct17), sl17⟩) (c17 : PySem.W.codeIn K cd17 "_law_above_zero" = true) (k17 : PySem.W.keepIn K (.ref f17) = true)
    (a18 : PySem.W.nsIn K mainGlobals "_law_shown" = some (some (.ref f18))) (l18 : K.lookup f18 = some ⟨oc18, od18, .func (PySem.W.fnOf "_law_shown" "_law_shown" (defArgs s_law_shown) (defBody s_law_shown) (defScope s_law_shown) .none kV18 dc18 pm18 an18 cd18 ct18), sl18⟩) (c18 : PySem.W.codeIn K cd18 "_law_shown" = true) (k18 : PySem.W.keepIn K (.ref f18) = true)
    (a19 : PySem.W.nsIn K mainGlobals "_law_mark" = some (some (.ref f19))) (l19 : K.lookup f19 = some ⟨oc19, od19, .func (PySem.W.fnOf "_law_mark" "_law_mark" (defArgs s_law_mark) (defBody s_law_mark) (defScope s_law_mark) .none kV19 dc19 pm19 an19 cd19 ct19), sl19⟩) (c19 : PySem.W.codeIn K cd19 "_law_mark" = true) (k19 : PySem.W.keepIn K (.ref f19) = true)
    (a20 : PySem.W.nsIn K mainGlobals "_law_is_backed" = some (some (.ref f20))) (l20 : K.lookup f20 = some ⟨oc20, od20, .func (PySem.W.fnOf "_law_is_backed" "_law_is_backed" (defArgs s_law_is_backed) (defBody s_law_is_backed) (defScope s_law_is_backed) .none kV20 dc20 pm20 an20 cd20 ct20), sl20⟩) (c20 : PySem.W.codeIn K cd20 "_law_is_backed" = true) (k20 : PySem.W.keepIn K (.ref f20) = true)
    (a21 : PySem.W.nsIn K mainGlobals "_law_union" = some (some (.ref f21))) (l21 : K.lookup f21 = some ⟨oc21, od21, .func (PySem.W.fnOf "_law_union" "_law_union" (defArgs s_law_union) (defBody s_law_union) (defScope s_law_union) .none kV21 dc21 pm21 an21 cd21 ct21), sl21⟩) (c21 : PySem.W.codeIn K cd21 "_law_union" = true) (k21 : PySem.W.keepIn K (.ref f21) = true)
    (a22 : PySem.W.nsIn K mainGlobals "_law_is_row" = some (some (.ref f22))) (l22 : K.lookup f22 = some ⟨oc22, od22, .func (PySem.W.fnOf "_law_is_row" "_law_is_row" (defArgs s_law_is_row) (defBody s_law_is_row) (defScope s_law_is_row) .none kV22 dc22 pm22 an22 cd22 ct22), sl22⟩) (c22 : PySem.W.codeIn K cd22 "_law_is_row" = true) (k22 : PySem.W.keepIn K (.ref f22) = true)
    (a23 : PySem.W.nsIn K mainGlobals "_law_lot" = some (some (.ref f23))) (l23 : K.lookup f23 = some ⟨oc23, od23, .func (PySem.W.fnOf "_law_lot" "_law_lot" (defArgs s_law_lot) (defBody s_law_lot) (defScope s_law_lot) .none kV23 dc23 pm23 an23 cd23 ct23), sl23⟩) (c23 : PySem.W.codeIn K cd23 "_law_lot" = true) (k23 : PySem.W.keepIn K (.ref f23) = true)
    (a24 : PySem.W.nsIn K mainGlobals "law" = some (some (.ref f24))) (l24 : K.lookup f24 = some ⟨oc24, od24, .func (PySem.W.fnOf "law" "law" (defArgs s_law) (defBody s_law) (defScope s_law) .none kV24 dc24 pm24 an24 cd24 ct24), sl24⟩) (c24 : PySem.W.codeIn K cd24 "law" = true) (k24 : PySem.W.keepIn K (.ref f24) = true)
    (z_abs : PySem.W.nsIn K mainGlobals "abs" = some none)
    (z_all : PySem.W.nsIn K mainGlobals "all" = some none)
    (z_bool : PySem.W.nsIn K mainGlobals "bool" = some none)
    (g_gcd : PySem.W.nsIn K mainGlobals "gcd" = some (some (.builtin "math.gcd")))
    (z_int : PySem.W.nsIn K mainGlobals "int" = some none)
    (z_isinstance : PySem.W.nsIn K mainGlobals "isinstance" = some none)
    (z_len : PySem.W.nsIn K mainGlobals "len" = some none)
    (z_range : PySem.W.nsIn K mainGlobals "range" = some none)
    (z_tuple : PySem.W.nsIn K mainGlobals "tuple" = some none) :
    ∃ fd : FuncData, (∀ (s : Shared) (v : Value), BindsTo s fd ⟨[v], []⟩ [("script", v)]) ∧ ∀ base : Heap, K.In base → base.Ns mainGlobals mg → FnOk P w K mg base (L2.CX P w) 6 fa fd ["script"] (spOf K spLaw) := by
  have e := hfa.symm.trans (PySem.W.mg_of X G a24)
  cases e
  have F0 := fun_mk (st := s_fraction) l0 c0 k0
  have b0 := F0.binds (ps := ["n", "d"]) fun _ _ _ _ _ _ us hl => match us, hl with | [_, _], _ => rfl
  have F1 := fun_mk (st := s_times) l1 c1 k1
  have b1 := F1.binds (ps := ["a", "b"]) fun _ _ _ _ _ _ us hl => match us, hl with | [_, _], _ => rfl
  have F2 := fun_mk (st := s_over) l2 c2 k2
  have b2 := F2.binds (ps := ["a", "b"]) fun _ _ _ _ _ _ us hl => match us, hl with | [_, _], _ => rfl
  have F3 := fun_mk (st := s_at_most) l3 c3 k3
  have b3 := F3.binds (ps := ["a", "b"]) fun _ _ _ _ _ _ us hl => match us, hl with | [_, _], _ => rfl
  have F4 := fun_mk (st := s_share_names) l4 c4 k4
  have b4 := F4.binds (ps := ["shown", "rate"]) fun _ _ _ _ _ _ us hl => match us, hl with | [_, _], _ => rfl
  have F5 := fun_mk (st := s_step_up) l5 c5 k5
  have b5 := F5.binds (ps := ["marks", "rate"]) fun _ _ _ _ _ _ us hl => match us, hl with | [_, _], _ => rfl
  have F6 := fun_mk (st := s_law_begin) l6 c6 k6
  have b6 := F6.binds (ps := ["script"]) fun _ _ _ _ _ _ us hl => match us, hl with | [_], _ => rfl
  have F7 := fun_mk (st := s_law_draw) l7 c7 k7
  have b7 := F7.binds (ps := ["d", "many"]) fun _ _ _ _ _ _ us hl => match us, hl with | [_, _], _ => rfl
  have F8 := fun_mk (st := s_law_is_int) l8 c8 k8
  have b8 := F8.binds (ps := ["thing"]) fun _ _ _ _ _ _ us hl => match us, hl with | [_], _ => rfl
  have F9 := fun_mk (st := s_law_gcd) l9 c9 k9
  have b9 := F9.binds (ps := ["a", "b"]) fun _ _ _ _ _ _ us hl => match us, hl with | [_, _], _ => rfl
  have F10 := fun_mk (st := s_law_frac) l10 c10 k10
  have b10 := F10.binds (ps := ["n", "d"]) fun _ _ _ _ _ _ us hl => match us, hl with | [_, _], _ => rfl
  have F11 := fun_mk (st := s_law_times) l11 c11 k11
  have b11 := F11.binds (ps := ["a", "b"]) fun _ _ _ _ _ _ us hl => match us, hl with | [_, _], _ => rfl
  have F12 := fun_mk (st := s_law_over) l12 c12 k12
  have b12 := F12.binds (ps := ["a", "b"]) fun _ _ _ _ _ _ us hl => match us, hl with | [_, _], _ => rfl
  have F13 := fun_mk (st := s_law_less) l13 c13 k13
  have b13 := F13.binds (ps := ["a", "b"]) fun _ _ _ _ _ _ us hl => match us, hl with | [_, _], _ => rfl
  have F14 := fun_mk (st := s_law_least) l14 c14 k14
  have b14 := F14.binds (ps := ["row"]) fun _ _ _ _ _ _ us hl => match us, hl with | [_], _ => rfl
  have F15 := fun_mk (st := s_law_fraction) l15 c15 k15
  have b15 := F15.binds (ps := ["d", "top", "bottom"]) fun _ _ _ _ _ _ us hl => match us, hl with | [_, _, _], _ => rfl
  have F16 := fun_mk (st := s_law_all_rows) l16 c16 k16
  have b16 := F16.binds (ps := ["letters", "many"]) fun _ _ _ _ _ _ us hl => match us, hl with | [_, _], _ => rfl
  have F17 := fun_mk (st := s_law_above_zero) l17 c17 k17
  have b17 := F17.binds (ps := ["d", "bottom"]) fun _ _ _ _ _ _ us hl => match us, hl with | [_, _], _ => rfl
  have F18 := fun_mk (st := s_law_shown) l18 c18 k18
  have b18 := F18.binds (ps := ["d", "many", "rate"]) fun _ _ _ _ _ _ us hl => match us, hl with | [_, _, _], _ => rfl
  have F19 := fun_mk (st := s_law_mark) l19 c19 k19
  have b19 := F19.binds (ps := ["d", "many", "rate"]) fun _ _ _ _ _ _ us hl => match us, hl with | [_, _, _], _ => rfl
  have F20 := fun_mk (st := s_law_is_backed) l20 c20 k20
  have b20 := F20.binds (ps := ["shown", "members", "rate"]) fun _ _ _ _ _ _ us hl => match us, hl with | [_, _, _], _ => rfl
  have F21 := fun_mk (st := s_law_union) l21 c21 k21
  have b21 := F21.binds (ps := ["shown", "rate"]) fun _ _ _ _ _ _ us hl => match us, hl with | [_, _], _ => rfl
  have F22 := fun_mk (st := s_law_is_row) l22 c22 k22
  have b22 := F22.binds (ps := ["told", "due"]) fun _ _ _ _ _ _ us hl => match us, hl with | [_, _], _ => rfl
  have F23 := fun_mk (st := s_law_lot) l23 c23 k23
  have b23 := F23.binds (ps := ["d"]) fun _ _ _ _ _ _ us hl => match us, hl with | [_], _ => rfl
  have F24 := fun_mk (st := s_law) l24 c24 k24
  have b24 := F24.binds (ps := ["script"]) fun _ _ _ _ _ _ us hl => match us, hl with | [_], _ => rfl
  refine ⟨PySem.W.fnOf "law" "law" (defArgs s_law) (defBody s_law) (defScope s_law) .none kV24 dc24 pm24 an24 cd24 ct24, fun s v => .of_eq rfl, fun base _ _ => ?_⟩
  let T : Txt K mg := { f_fraction := f0, fd_fraction := _, F_fraction := F0, m_fraction := PySem.W.mg_of X G a0, b_fraction := b0, f_times := f1, fd_times := _, F_times := F1, m_times := PySem.W.mg_of X G a1, b_times := b1, f_over := f2, fd_over := _, F_over := F2, m_over := PySem.W.mg_of X G a2, b_over := b2, f_at_most := f3, fd_at_most := _, F_at_most := F3, m_at_most := PySem.W.mg_of X G a3, b_at_most := b3, f_share_names := f4, fd_share_names := _, F_share_names := F4, m_share_names := PySem.W.mg_of X G a4, b_share_names := b4, f_step_up := f5, fd_step_up := _, F_step_up := F5, m_step_up := PySem.W.mg_of X G a5, b_step_up := b5, f_law_begin := f6, fd_law_begin := _, F_law_begin := F6, m_law_begin := PySem.W.mg_of X G a6, b_law_begin := b6, f_law_draw := f7, fd_law_draw := _, F_law_draw := F7, m_law_draw := PySem.W.mg_of X G a7, b_law_draw := b7, f_law_is_int := f8, fd_law_is_int := _, F_law_is_int := F8, m_law_is_int := PySem.W.mg_of X G a8, b_law_is_int := b8, f_law_gcd := f9, fd_law_gcd := _, F_law_gcd := F9, m_law_gcd := PySem.W.mg_of X G a9, b_law_gcd := b9, f_law_frac := f10, fd_law_frac := _, F_law_frac := F10, m_law_frac := PySem.W.mg_of X G a10, b_law_frac := b10, f_law_times := f11, fd_law_times := _, F_law_times := F11, m_law_times := PySem.W.mg_of X G a11, b_law_times := b11, f_law_over := f12, fd_law_over := _, F_law_over := F12, m_law_over := PySem.W.mg_of X G a12, b_law_over := b12, f_law_less := f13, fd_law_less := _, F_law_less := F13, m_law_less := PySem.W.mg_of X G a13, b_law_less := b13, f_law_least := f14, fd_law_least := _, F_law_least := F14, m_law_least := PySem.W.mg_of X G a14, b_law_least := b14, f_law_fraction := f15, fd_law_fraction := _, F_law_fraction := F15, m_law_fraction := PySem.W.mg_of X G a15, b_law_fraction := b15, f_law_all_rows := f16, fd_law_all_rows := _, F_law_all_rows := F16, m_law_all_rows := PySem.W.mg_of X G a16, b_law_all_rows := b16, f_law_above_zero := f17, fd_law_above_zero := _, F_law_above_zero := F17, m_law_above_zero := PySem.W.mg_of X G a17, b_law_above_zero := b17, f_law_shown := f18, fd_law_shown := _, F_law_shown := F18, m_law_shown := PySem.W.mg_of X G a18, b_law_shown := b18, f_law_mark := f19, fd_law_mark := _, F_law_mark := F19, m_law_mark := PySem.W.mg_of X G a19, b_law_mark := b19, f_law_is_backed := f20, fd_law_is_backed := _, F_law_is_backed := F20, m_law_is_backed := PySem.W.mg_of X G a20, b_law_is_backed := b20, f_law_union := f21, fd_law_union := _, F_law_union := F21, m_law_union := PySem.W.mg_of X G a21, b_law_union := b21, f_law_is_row := f22, fd_law_is_row := _, F_law_is_row := F22, m_law_is_row := PySem.W.mg_of X G a22, b_law_is_row := b22, f_law_lot := f23, fd_law_lot := _, F_law_lot := F23, m_law_lot := PySem.W.mg_of X G a23, b_law_lot := b23, f_law := fa, fd_law := _, F_law := F24, m_law := PySem.W.mg_of X G a24, b_law := b24, z_abs := PySem.W.mg_none_of X G z_abs, z_all := PySem.W.mg_none_of X G z_all, z_bool := PySem.W.mg_none_of X G z_bool, g_gcd := PySem.W.mg_of X G g_gcd, z_int := PySem.W.mg_none_of X G z_int, z_isinstance := PySem.W.mg_none_of X G z_isinstance, z_len := PySem.W.mg_none_of X G z_len, z_range := PySem.W.mg_none_of X G z_range, z_tuple := PySem.W.mg_none_of X G z_tuple }
  have h_fraction : FnD P w K mg base 1 T.f_fraction T.fd_fraction ["n", "d"] spFrac := ok_fraction T  len_frac read_fraction
  have h_times : FnD P w K mg base 2 T.f_times T.fd_times ["a", "b"] spTimes := ok_times T h_fraction len_times read_times
  have h_over : FnD P w K mg base 2 T.f_over T.fd_over ["a", "b"] spOver := ok_over T h_fraction len_over read_over
  have h_at_most : FnD P w K mg base 1 T.f_at_most T.fd_at_most ["a", "b"] spAtMost := ok_at_most T  len_at_most read_at_most
  have h_share_names : FnD P w K mg base 3 T.f_share_names T.fd_share_names ["shown", "rate"] (spShare false) := ok_share_names T h_over h_times h_at_most len_share read_share_names
  have h_step_up : FnD P w K mg base 3 T.f_step_up T.fd_step_up ["marks", "rate"] (spShare true) := ok_step_up T h_times h_fraction h_at_most len_share read_step_up
  have h_law_begin : FnD P w K mg base 1 T.f_law_begin T.fd_law_begin ["script"] spBegin := ok_law_begin T  len_begin read_begin
  have h_law_draw : FnD P w K mg base 1 T.f_law_draw T.fd_law_draw ["d", "many"] spDraw := ok_law_draw T  len_draw read_draw
  have h_law_is_int : FnD P w K mg base 1 T.f_law_is_int T.fd_law_is_int ["thing"] spIsInt := ok_law_is_int T  len_is_int read_is_int
  have h_law_gcd : FnD P w K mg base 1 T.f_law_gcd T.fd_law_gcd ["a", "b"] spGcd := ok_law_gcd T  len_gcd read_gcd
  have h_law_frac : FnD P w K mg base 2 T.f_law_frac T.fd_law_frac ["n", "d"] spFrac := ok_law_frac T h_law_gcd len_frac read_frac
  have h_law_times : FnD P w K mg base 3 T.f_law_times T.fd_law_times ["a", "b"] spTimes := ok_law_times T h_law_frac len_times read_ltimes
  have h_law_over : FnD P w K mg base 3 T.f_law_over T.fd_law_over ["a", "b"] spOver := ok_law_over T h_law_frac len_over read_lover
  have h_law_less : FnD P w K mg base 1 T.f_law_less T.fd_law_less ["a", "b"] spLess := ok_law_less T  len_less read_less
  have h_law_least : FnD P w K mg base 2 T.f_law_least T.fd_law_least ["row"] spLeast := ok_law_least T h_law_less len_least read_least
  have h_law_fraction : FnD P w K mg base 3 T.f_law_fraction T.fd_law_fraction ["d", "top", "bottom"] spFraction := ok_law_fraction T h_law_frac h_law_draw len_fraction read_lfraction
  have h_law_all_rows : FnD P w K mg base 1 T.f_law_all_rows T.fd_law_all_rows ["letters", "many"] spAllRows := ok_law_all_rows T  len_all_rows read_all_rows
  have h_law_above_zero : FnD P w K mg base 3 T.f_law_above_zero T.fd_law_above_zero ["d", "bottom"] spAboveZero := ok_law_above_zero T h_law_draw h_law_frac len_above_zero read_above_zero
  have h_law_shown : FnD P w K mg base 4 T.f_law_shown T.fd_law_shown ["d", "many", "rate"] spShown := ok_law_shown T h_law_frac h_law_draw h_law_times h_law_fraction len_shown read_shown
  have h_law_mark : FnD P w K mg base 4 T.f_law_mark T.fd_law_mark ["d", "many", "rate"] spMark := ok_law_mark T h_law_frac h_law_draw h_law_times h_law_least h_law_above_zero len_mark read_mark
  have h_law_is_backed : FnD P w K mg base 1 T.f_law_is_backed T.fd_law_is_backed ["shown", "members", "rate"] spBacked := ok_law_is_backed T  len_backed read_backed
  have h_law_union : FnD P w K mg base 2 T.f_law_union T.fd_law_union ["shown", "rate"] spUnion := ok_law_union T h_law_all_rows h_law_is_backed len_union read_union
  have h_law_is_row : FnD P w K mg base 2 T.f_law_is_row T.fd_law_is_row ["told", "due"] spIsRow := ok_law_is_row T h_law_is_int len_is_row read_is_row
  have h_law_lot : FnD P w K mg base 5 T.f_law_lot T.fd_law_lot ["d"] spLot := ok_law_lot T h_law_draw h_law_frac h_law_shown len_lot read_lot
  have h_law : FnD P w K mg base 6 T.f_law T.fd_law ["script"] spLaw := ok_law T h_law_begin h_law_lot h_law_is_row h_share_names h_law_union h_law_draw h_law_above_zero h_law_mark h_law_over h_step_up len_law read_law
  exact h_law
end K64
end DL

open PySem PySem.W PyProof.Rows
set_option maxRecDepth 100000 in
set_option maxHeartbeats 16000000 in
theorem PySem.Challenge.cw_carriedstakes_k64_share_names_holds : PySem.Challenge.rw_carriedstakes_k64_share_names.Holds := by
  w_on; o_law; k_head; (case hw => w_witness2)
  k_fill
  refine L2.walk_of (l := PySem.Challenge.rw_carriedstakes_k64_share_names) (n := 63) (k := 6) (x := "script") (CX := fun w => L2.CX PySem.Challenge.rw_carriedstakes_k64_share_names.prog w) (sp := fun w => DL.spOf _ DL.K64.spLaw) rfl (by decide) rfl ⟨rfl, by decide, by decide⟩ (fun w h Y => PySem.W.kIn_of Y) ?F (fun _ _ a ns hl hO hS => DL.law_start hO hS ⟨ns, rfl, Nat.le_trans hl (by decide), fun _ => rfl⟩) (fun _ _ _ _ _ h => DL.no_cx h)
  case F =>
    intro w mg fa h KX G hmg
    refine' DL.K64.all_mk KX G hmg ?a0 ?l0 ?c0 ?k0 ?a1 ?l1 ?c1 ?k1 ?a2 ?l2 ?c2 ?k2 ?a3 ?l3 ?c3 ?k3 ?a4 ?l4 ?c4 ?k4 ?a5 ?l5 ?c5 ?k5 ?a6 ?l6 ?c6 ?k6 ?a7 ?l7 ?c7 ?k7 ?a8 ?l8 ?c8 ?k8 ?a9 ?l9 ?c9 ?k9 ?a10 ?l10 ?c10 ?k10 ?a11 ?l11 ?c11 ?k11 ?a12 ?l12 ?c12 ?k12 ?a13 ?l13 ?c13 ?k13 ?a14 ?l14 ?c14 ?k14 ?a15 ?l15 ?c15 ?k15 ?a16 ?l16 ?c16 ?k16 ?a17 ?l17 ?c17 ?k17 ?a18 ?l18 ?c18 ?k18 ?a19 ?l19 ?c19 ?k19 ?a20 ?l20 ?c20 ?k20 ?a21 ?l21 ?c21 ?k21 ?a22 ?l22 ?c22 ?k22 ?a23 ?l23 ?c23 ?k23 ?a24 ?l24 ?c24 ?k24 ?z_abs ?z_all ?z_bool ?g_gcd ?z_int ?z_isinstance ?z_len ?z_range ?z_tuple
    (case a0 => k_is)
    (case l0 => k_is)
    (case c0 => k_is)
    (case k0 => k_is)
    (case a1 => k_is)
    (case l1 => k_is)
    (case c1 => k_is)
    (case k1 => k_is)
    (case a2 => k_is)
    (case l2 => k_is)
    (case c2 => k_is)
    (case k2 => k_is)
    (case a3 => k_is)
    (case l3 => k_is)
    (case c3 => k_is)
    (case k3 => k_is)
    (case a4 => k_is)
    (case l4 => k_is)
    (case c4 => k_is)
    (case k4 => k_is)
    (case a5 => k_is)
    (case l5 => k_is)
    (case c5 => k_is)
    (case k5 => k_is)
    (case a6 => k_is)
    (case l6 => k_is)
    (case c6 => k_is)
    (case k6 => k_is)
    (case a7 => k_is)
    (case l7 => k_is)
    (case c7 => k_is)
    (case k7 => k_is)
    (case a8 => k_is)
    (case l8 => k_is)
    (case c8 => k_is)
    (case k8 => k_is)
    (case a9 => k_is)
    (case l9 => k_is)
    (case c9 => k_is)
    (case k9 => k_is)
    (case a10 => k_is)
    (case l10 => k_is)
    (case c10 => k_is)
    (case k10 => k_is)
    (case a11 => k_is)
    (case l11 => k_is)
    (case c11 => k_is)
    (case k11 => k_is)
    (case a12 => k_is)
    (case l12 => k_is)
    (case c12 => k_is)
    (case k12 => k_is)
    (case a13 => k_is)
    (case l13 => k_is)
    (case c13 => k_is)
    (case k13 => k_is)
    (case a14 => k_is)
    (case l14 => k_is)
    (case c14 => k_is)
    (case k14 => k_is)
    (case a15 => k_is)
    (case l15 => k_is)
    (case c15 => k_is)
    (case k15 => k_is)
    (case a16 => k_is)
    (case l16 => k_is)
    (case c16 => k_is)
    (case k16 => k_is)
    (case a17 => k_is)
    (case l17 => k_is)
    (case c17 => k_is)
    (case k17 => k_is)
    (case a18 => k_is)
    (case l18 => k_is)
    (case c18 => k_is)
    (case k18 => k_is)
    (case a19 => k_is)
    (case l19 => k_is)
    (case c19 => k_is)
    (case k19 => k_is)
    (case a20 => k_is)
    (case l20 => k_is)
    (case c20 => k_is)
    (case k20 => k_is)
    (case a21 => k_is)
    (case l21 => k_is)
    (case c21 => k_is)
    (case k21 => k_is)
    (case a22 => k_is)
    (case l22 => k_is)
    (case c22 => k_is)
    (case k22 => k_is)
    (case a23 => k_is)
    (case l23 => k_is)
    (case c23 => k_is)
    (case k23 => k_is)
    (case a24 => k_is)
    (case l24 => k_is)
    (case c24 => k_is)
    (case k24 => k_is)
    (case z_abs => k_is)
    (case z_all => k_is)
    (case z_bool => k_is)
    (case g_gcd => k_is)
    (case z_int => k_is)
    (case z_isinstance => k_is)
    (case z_len => k_is)
    (case z_range => k_is)
    (case z_tuple => k_is)
