import PyProof.Rows.All
import Wide.All
import OpenK.AllK
import Wide.FinOn
import HandS.ForMost
import HandS.Walk
import HandS.Exc
import HandS.ExcOwn
import HandS.TryOnly
import HandS.TryMany
import HandS.WordsExc
import HandS.Wide
import HandS.Gcd
import HandS.IsInst
import HandS.TupAny
import HandS.Dict
import HandS.DictTup
import KE.GoesMore
import KE.GoesZip
import HandS.Iter
import HandS.SortRule
import HandS.SortInts
import HandS.Style
import KE.KTupSum
import HandS.ExcInit
import HandS.ExcSuper
import KE.KExcSuper
import KE.KSuper
import HandS.ExcField
import KE.KExcIs
import PySem.Challenge.RW_carriedstakes_k01_fractions
set_option Elab.async false
set_option linter.all false
set_option maxRecDepth 100000
set_option maxHeartbeats 8000000
/-! The data layer: pure data over the hand layer. Tuples are plain values; what may change stands in a store. -/
namespace DL
open PySem PySem.Spec PyProof.Rows L2

/-- data: tuples are values, lists and instances are named by their place -/
inductive D where
  | non | bl (b : Bool) | int (i : Int) | str (x : Str) | tup (ds : List D) | ref (a : Addr) | scr (ds : List D) | key (ks : List L2.Key)
/-- what stands at a place -/
inductive OB where
  | lst (ds : List D)
  | ins (C : Addr) (fs : List (Str × D))
  | dk (kvs : List (L2.Key × D))
  | dt (kvs : List (List L2.Key × D))
  | xd (fs : List (Str × D))
abbrev DS := Addr → Option OB
abbrev DE := List (Option D)
/-- an exception: its class, what it holds -/
structure Xn where
  cls : Addr
  fs : List (Str × D)
abbrev RD := D → DS → Prop
abbrev RX := Xn → DS → Prop
abbrev WE := DE → DS → RD → RX → Prop
abbrev WT := DE → DS → (Bool → DS → Prop) → RX → Prop
abbrev WA := DE → DS → (List D → DS → Prop) → RX → Prop
structure Ed where
  nx : DE → DS → Prop
  rt : D → DS → Prop
  bk : DE → DS → Prop := fun _ _ => False
  ct : DE → DS → Prop := fun _ _ => False
  ex : Xn → DE → DS → Prop := fun _ _ _ => False
abbrev WS := Ed → DE → DS → Prop
def put (st : DS) (a : Addr) (o : OB) : DS := fun b => if b = a then some o else st b
@[simp] theorem put_same {st : DS} {a : Addr} {o : OB} : put st a o a = some o := by unfold put; rw [if_pos rfl]
theorem put_ne {st : DS} {a b : Addr} {o : OB} (h : b ≠ a) : put st a o b = st b := by unfold put; rw [if_neg h]
@[simp] theorem put_put {st : DS} {a : Addr} {o u : OB} : put (put st a o) a u = put st a u := by
  funext b; unfold put; split <;> rfl
theorem put_id {st : DS} {a : Addr} {o : OB} (h : st a = some o) : put st a o = st := by
  funext b; unfold put; split
  · rename_i e; rw [e, h]
  · rfl
theorem put_comm {st : DS} {a b : Addr} {o u : OB} (h : a ≠ b) : put (put st a o) b u = put (put st b u) a o := by
  funext c; unfold put
  by_cases h1 : c = a
  · subst h1; rw [if_neg h, if_pos rfl, if_pos rfl]
  · by_cases h2 : c = b
    · subst h2; rw [if_pos rfl, if_neg h1, if_pos rfl]
    · simp only [if_neg h1, if_neg h2]
/-- fewer places -/
def Sub (s t : DS) : Prop := ∀ a o, s a = some o → t a = some o
theorem Sub.refl (s : DS) : Sub s s := fun _ _ h => h
theorem Sub.trans {s t u : DS} (a : Sub s t) (b : Sub t u) : Sub s u := fun c o h => b c o (a c o h)
theorem Sub.put_new {s : DS} {p : Addr} {o : OB} (h : s p = none) : Sub s (put s p o) := fun a u e => by
  rw [put_ne (fun z => by rw [z, h] at e; cases e)]; exact e
theorem Sub.put_both {s t : DS} (h : Sub s t) (p : Addr) (o : OB) : Sub (put s p o) (put t p o) := fun a u e => by
  unfold put at e ⊢
  split at e
  · rename_i z; rw [if_pos z]; exact e
  · rename_i z; rw [if_neg z]; exact h a u e
theorem Sub.put_to {s t : DS} (h : Sub s t) {p : Addr} (o : OB) (hp : s p = none) : Sub s (put t p o) := fun a u e => by
  rw [put_ne (fun z => by rw [z, hp] at e; cases e)]; exact h a u e

/-! ### data and values -/
/-- a list that is known and never changes: the script -/
def SqF (K : PySem.W.Frag) (H : Hp) (a : Addr) (xs : List V) : Prop :=
  (∃ o, H a = some (.frz o (.lst xs))) ∨
    ∃ (o : Obj) (its : Array Value) (n : Nat), K.lookup a = some o ∧ o.cls = .type "list" ∧ o.dict = none ∧ o.data = .seq its n ∧ its.size ≤ sizeLine ∧ Vals xs its.toList
theorem SqF.sq {K : PySem.W.Frag} {H : Hp} {a : Addr} {xs : List V} (h : SqF K H a xs) : SqL K H a xs := by
  rcases h with ⟨o, h⟩ | h
  · exact .inl (.inr ⟨o, h⟩)
  · exact .inr h
mutual
def Rep (K : PySem.W.Frag) (H : Hp) : D → V → Prop
  | .non, v => v = .non
  | .bl b, v => v = .bl b
  | .int i, v => v = .int i
  | .str x, v => v = .str x
  | .ref a, v => v = .ref a
  | .scr ds, v => ∃ a vs, v = .ref a ∧ SqF K H a vs ∧ Reps K H ds vs
  | .key ks, v => ∃ a, v = .ref a ∧ H a = some (.tup (ks.map kV))
  | .tup ds, v => ∃ a vs, v = .ref a ∧ SqT K H a vs ∧ Reps K H ds vs
def Reps (K : PySem.W.Frag) (H : Hp) : List D → List V → Prop
  | [], vs => vs = []
  | d :: ds, vs => ∃ v r, vs = v :: r ∧ Rep K H d v ∧ Reps K H ds r
end
def RepF (K : PySem.W.Frag) (H : Hp) : List (Str × D) → List (Str × V) → Prop
  | [], fv => fv = []
  | (n, d) :: r, fv => ∃ v t, fv = (n, v) :: t ∧ Rep K H d v ∧ RepF K H r t
def RepK {κ : Type} (K : PySem.W.Frag) (H : Hp) : List (κ × D) → List (κ × V) → Prop
  | [], fv => fv = []
  | (n, d) :: r, fv => ∃ v t, fv = (n, v) :: t ∧ Rep K H d v ∧ RepK K H r t
def RepO (K : PySem.W.Frag) (H : Hp) (a : Addr) : OB → Prop
  | .lst ds => ∃ vs, H a = some (.lst vs) ∧ Reps K H ds vs
  | .ins C fs => ∃ dx fv, H a = some (.ins C dx fv) ∧ RepF K H fs fv
  | .dk kvs => ∃ vs, H a = some (.dK vs) ∧ RepK K H kvs vs
  | .dt kvs => ∃ vs, H a = some (.dT vs) ∧ RepK K H kvs vs
  | .xd fs => ∃ fv, H a = some (.xd fv) ∧ RepF K H fs fv
def RepS (K : PySem.W.Frag) (H : Hp) (st : DS) : Prop := ∀ a o, st a = some o → RepO K H a o
def RepE (K : PySem.W.Frag) (H : Hp) (ep : DE) (sg : L2.St) : Prop :=
  ep.length = sg.length ∧ ∀ (i : Nat) (d : D), ep[i]? = some (some d) → ∃ v, sg[i]? = some (some v) ∧ Rep K H d v
def RepX (K : PySem.W.Frag) (H : Hp) (x : Xn) (cls : Value) (dd : Option Addr) : Prop :=
  cls = .ref x.cls ∧ ((x.fs = [] ∧ dd = none) ∨ x.fs ≠ [] ∧ ∃ d fv, dd = some d ∧ H d = some (.xd fv) ∧ RepF K H x.fs fv)
/-- what stays: tuples, and all that the store does not name -/
structure Keep (K : PySem.W.Frag) (H : Hp) (st : DS) (H' : Hp) (st' : DS) : Prop where
  tup : ∀ a vs, SqT K H a vs → SqT K H' a vs
  scr : ∀ a vs, SqF K H a vs → SqF K H' a vs
  tps : ∀ a vs, H a = some (.tup vs) → H' a = some (.tup vs)
  oth : ∀ a o, H a = some o → (∀ fv, o ≠ .xd fv) → st a = none → H' a = some o ∧ st' a = none
  xds : ∀ a fv, H a = some (.xd fv) → H' a = some (.xd fv)
section
variable {K : PySem.W.Frag} {H H' H1 H2 : Hp} {st st' st1 st2 : DS}
theorem Keep.refl : Keep K H st H st := ⟨fun _ _ h => h, fun _ _ h => h, fun _ _ h => h, fun _ _ h _ k => ⟨h, k⟩, fun _ _ h => h⟩
theorem Keep.trans (a : Keep K H st H1 st1) (b : Keep K H1 st1 H2 st2) : Keep K H st H2 st2 :=
  ⟨fun c vs h => b.tup c vs (a.tup c vs h), fun c vs h => b.scr c vs (a.scr c vs h), fun c vs h => b.tps c vs (a.tps c vs h), fun c o h n k => b.oth c o (a.oth c o h n k).1 n (a.oth c o h n k).2, fun c fv h => b.xds c fv (a.xds c fv h)⟩
mutual
theorem Rep.mono (k : ∀ a vs, SqT K H a vs → SqT K H' a vs) (j : ∀ a vs, SqF K H a vs → SqF K H' a vs) (m : ∀ a vs, H a = some (.tup vs) → H' a = some (.tup vs)) : ∀ (d : D) (v : V), Rep K H d v → Rep K H' d v
  | .non, _, h => by unfold Rep at h ⊢; exact h
  | .bl _, _, h => by unfold Rep at h ⊢; exact h
  | .int _, _, h => by unfold Rep at h ⊢; exact h
  | .str _, _, h => by unfold Rep at h ⊢; exact h
  | .ref _, _, h => by unfold Rep at h ⊢; exact h
  | .tup ds, v, h => by
    unfold Rep at h ⊢
    obtain ⟨a, vs, e, s, r⟩ := h
    exact ⟨a, vs, e, k a vs s, Reps.mono k j m ds vs r⟩
  | .scr ds, v, h => by
    unfold Rep at h ⊢
    obtain ⟨a, vs, e, s, r⟩ := h
    exact ⟨a, vs, e, j a vs s, Reps.mono k j m ds vs r⟩
  | .key ks, v, h => by
    unfold Rep at h ⊢
    obtain ⟨a, e, s⟩ := h
    exact ⟨a, e, m a _ s⟩
theorem Reps.mono (k : ∀ a vs, SqT K H a vs → SqT K H' a vs) (j : ∀ a vs, SqF K H a vs → SqF K H' a vs) (m : ∀ a vs, H a = some (.tup vs) → H' a = some (.tup vs)) : ∀ (ds : List D) (vs : List V), Reps K H ds vs → Reps K H' ds vs
  | [], _, h => by unfold Reps at h ⊢; exact h
  | d :: ds, vs, h => by
    unfold Reps at h ⊢
    obtain ⟨v, r, e, h1, h2⟩ := h
    exact ⟨v, r, e, Rep.mono k j m d v h1, Reps.mono k j m ds r h2⟩
end
theorem RepF.mono (k : ∀ a vs, SqT K H a vs → SqT K H' a vs) (j : ∀ a vs, SqF K H a vs → SqF K H' a vs) (m : ∀ a vs, H a = some (.tup vs) → H' a = some (.tup vs)) : ∀ (fs : List (Str × D)) (fv : List (Str × V)), RepF K H fs fv → RepF K H' fs fv
  | [], _, h => h
  | (n, d) :: r, _, ⟨v, t, e, h1, h2⟩ => ⟨v, t, e, Rep.mono k j m d v h1, RepF.mono k j m r t h2⟩
theorem RepK.mono {κ : Type} (k : ∀ a vs, SqT K H a vs → SqT K H' a vs) (j : ∀ a vs, SqF K H a vs → SqF K H' a vs) (m : ∀ a vs, H a = some (.tup vs) → H' a = some (.tup vs)) : ∀ (fs : List (κ × D)) (fv : List (κ × V)), RepK K H fs fv → RepK K H' fs fv
  | [], _, h => h
  | (n, d) :: r, _, ⟨v, t, e, h1, h2⟩ => ⟨v, t, e, Rep.mono k j m d v h1, RepK.mono k j m r t h2⟩
theorem RepK.keep {κ : Type} {d : List (κ × D)} {v : List (κ × V)} (h : RepK K H d v) (k : Keep K H st H' st') : RepK K H' d v := RepK.mono k.tup k.scr k.tps d v h
theorem Rep.keep {d : D} {v : V} (h : Rep K H d v) (k : Keep K H st H' st') : Rep K H' d v := Rep.mono k.tup k.scr k.tps d v h
theorem Reps.keep {d : List D} {v : List V} (h : Reps K H d v) (k : Keep K H st H' st') : Reps K H' d v := Reps.mono k.tup k.scr k.tps d v h
theorem RepF.keep {d : List (Str × D)} {v : List (Str × V)} (h : RepF K H d v) (k : Keep K H st H' st') : RepF K H' d v := RepF.mono k.tup k.scr k.tps d v h
theorem RepE.keep {ep : DE} {sg : L2.St} (h : RepE K H ep sg) (k : Keep K H st H' st') : RepE K H' ep sg :=
  ⟨h.1, fun i d e => let ⟨v, e1, r⟩ := h.2 i d e; ⟨v, e1, r.keep k⟩⟩
@[simp] theorem Reps_nil {vs : List V} : Reps K H [] vs ↔ vs = [] := by unfold Reps; rfl
@[simp] theorem Reps_cons {d : D} {ds : List D} {vs : List V} : Reps K H (d :: ds) vs ↔ ∃ v r, vs = v :: r ∧ Rep K H d v ∧ Reps K H ds r := by conv => lhs; unfold Reps
theorem Rep_tup {ds : List D} {v : V} : Rep K H (.tup ds) v ↔ ∃ a vs, v = .ref a ∧ SqT K H a vs ∧ Reps K H ds vs := by conv => lhs; unfold Rep
theorem Rep_scr {ds : List D} {v : V} : Rep K H (.scr ds) v ↔ ∃ a vs, v = .ref a ∧ SqF K H a vs ∧ Reps K H ds vs := by conv => lhs; unfold Rep
theorem Rep_key {ks : List L2.Key} {v : V} : Rep K H (.key ks) v ↔ ∃ a, v = .ref a ∧ H a = some (.tup (ks.map kV)) := by conv => lhs; unfold Rep
theorem Rep_int {i : Int} {v : V} : Rep K H (.int i) v ↔ v = .int i := by unfold Rep; rfl
theorem Rep_bl {i : Bool} {v : V} : Rep K H (.bl i) v ↔ v = .bl i := by unfold Rep; rfl
theorem Rep_str {i : Str} {v : V} : Rep K H (.str i) v ↔ v = .str i := by unfold Rep; rfl
theorem Rep_non {v : V} : Rep K H .non v ↔ v = .non := by unfold Rep; rfl
theorem Rep_ref {i : Addr} {v : V} : Rep K H (.ref i) v ↔ v = .ref i := by unfold Rep; rfl
theorem Reps.nil : Reps K H [] [] := Reps_nil.mpr rfl
theorem Reps.cons {d : D} {ds : List D} {v : V} {vs : List V} (h : Rep K H d v) (t : Reps K H ds vs) : Reps K H (d :: ds) (v :: vs) := Reps_cons.mpr ⟨v, vs, rfl, h, t⟩
theorem Reps.append : ∀ {ds es : List D} {vs us : List V}, Reps K H ds vs → Reps K H es us → Reps K H (ds ++ es) (vs ++ us)
  | [], _, _, _, h, k => by rw [Reps_nil] at h; subst h; exact k
  | d :: ds, es, vs, us, h, k => by
    obtain ⟨v, r, rfl, h1, h2⟩ := Reps_cons.mp h
    exact .cons h1 (Reps.append h2 k)
theorem Reps.length : ∀ {ds : List D} {vs : List V}, Reps K H ds vs → ds.length = vs.length
  | [], _, h => by rw [Reps_nil] at h; subst h; rfl
  | d :: ds, _, h => by
    obtain ⟨v, r, rfl, _, h2⟩ := Reps_cons.mp h
    rw [List.length_cons, List.length_cons, h2.length]
theorem Reps.get : ∀ {ds : List D} {vs : List V} {i : Nat} {d : D}, Reps K H ds vs → ds[i]? = some d → ∃ v, vs[i]? = some v ∧ Rep K H d v
  | [], _, _, _, _, e => by simp at e
  | d :: ds, _, 0, x, h, e => by
    obtain ⟨v, r, rfl, h1, _⟩ := Reps_cons.mp h
    have : d = x := by simpa using e
    subst this
    exact ⟨v, rfl, h1⟩
  | d :: ds, _, i + 1, x, h, e => by
    obtain ⟨v, r, rfl, _, h2⟩ := Reps_cons.mp h
    obtain ⟨u, e1, r1⟩ := Reps.get (i := i) h2 (by simpa using e)
    exact ⟨u, by simpa using e1, r1⟩
theorem Reps.set {d : D} {v : V} (h : Rep K H d v) : ∀ {ds : List D} {vs : List V} (i : Nat), Reps K H ds vs → Reps K H (ds.set i d) (vs.set i v)
  | [], _, _, k => by rw [Reps_nil] at k; subst k; exact Reps.nil
  | e :: ds, _, 0, k => by
    obtain ⟨u, r, rfl, _, h2⟩ := Reps_cons.mp k
    exact .cons h h2
  | e :: ds, _, i + 1, k => by
    obtain ⟨u, r, rfl, h1, h2⟩ := Reps_cons.mp k
    exact .cons h1 (Reps.set h i h2)
theorem Reps.eraseIdx : ∀ {ds : List D} {vs : List V} (i : Nat), Reps K H ds vs → Reps K H (ds.eraseIdx i) (vs.eraseIdx i)
  | [], _, _, k => by rw [Reps_nil] at k; subst k; exact Reps.nil
  | e :: ds, _, 0, k => by
    obtain ⟨u, r, rfl, _, h2⟩ := Reps_cons.mp k
    exact h2
  | e :: ds, _, i + 1, k => by
    obtain ⟨u, r, rfl, h1, h2⟩ := Reps_cons.mp k
    exact .cons h1 (Reps.eraseIdx i h2)
theorem Reps.take : ∀ {ds : List D} {vs : List V} (i : Nat), Reps K H ds vs → Reps K H (ds.take i) (vs.take i)
  | _, _, 0, _ => Reps.nil
  | [], _, _ + 1, k => by rw [Reps_nil] at k; subst k; exact Reps.nil
  | e :: ds, _, i + 1, k => by
    obtain ⟨u, r, rfl, h1, h2⟩ := Reps_cons.mp k
    exact .cons h1 (Reps.take i h2)
theorem Reps.drop : ∀ {ds : List D} {vs : List V} (i : Nat), Reps K H ds vs → Reps K H (ds.drop i) (vs.drop i)
  | _, _, 0, k => k
  | [], _, _ + 1, k => by rw [Reps_nil] at k; subst k; exact Reps.nil
  | e :: ds, _, i + 1, k => by
    obtain ⟨u, r, rfl, h1, h2⟩ := Reps_cons.mp k
    exact Reps.drop i h2
theorem Reps.reverse : ∀ {ds : List D} {vs : List V}, Reps K H ds vs → Reps K H ds.reverse vs.reverse
  | [], _, k => by rw [Reps_nil] at k; subst k; exact Reps.nil
  | e :: ds, _, k => by
    obtain ⟨u, r, rfl, h1, h2⟩ := Reps_cons.mp k
    rw [List.reverse_cons, List.reverse_cons]
    exact (Reps.reverse h2).append (.cons h1 Reps.nil)
theorem Reps.ints : ∀ {ns : List Int} {vs : List V}, Reps K H (ns.map D.int) vs ↔ vs = ns.map V.int
  | [], vs => by rw [List.map_nil, List.map_nil, Reps_nil]
  | n :: ns, vs => by
    rw [List.map_cons, List.map_cons, Reps_cons]
    constructor
    · rintro ⟨v, r, rfl, h1, h2⟩
      rw [Rep_int.mp h1, Reps.ints.mp h2]
    · rintro rfl
      exact ⟨_, _, rfl, Rep_int.mpr rfl, Reps.ints.mpr rfl⟩
theorem RepE.set {ep : DE} {sg : L2.St} {d : D} {v : V} (h : RepE K H ep sg) (r : Rep K H d v) (i : Nat) : RepE K H (ep.set i (some d)) (sg.set i (some v)) := by
  refine ⟨by rw [List.length_set, List.length_set]; exact h.1, fun j e hj => ?_⟩
  by_cases hij : i = j
  · subst hij
    have hl : i < ep.length := by
      have := (List.getElem?_eq_some_iff.mp hj).1
      rw [List.length_set] at this; exact this
    rw [List.getElem?_set_self hl] at hj
    have : d = e := by simpa using hj
    subst this
    exact ⟨v, List.getElem?_set_self (by rw [← h.1]; exact hl), r⟩
  · rw [List.getElem?_set_ne hij] at hj
    obtain ⟨u, e1, r1⟩ := h.2 j e hj
    exact ⟨u, by rw [List.getElem?_set_ne hij]; exact e1, r1⟩
/-- a place where no tuple stands -/
def Nt : Option HO → Prop
  | some (.tup _) => False
  | some (.frz _ _) => False
  | _ => True
theorem sqT_upd {p a : Addr} {o : HO} {vs : List V} (hn : Nt (H p)) (h : SqT K H a vs) : SqT K (upd H p o) a vs := by
  rcases h with (h | ⟨u, h⟩) | h
  · refine .inl (.inl ?_)
    rw [upd_ne (fun z => by rw [← z, h] at hn; exact hn)]; exact h
  · refine .inl (.inr ⟨u, ?_⟩)
    rw [upd_ne (fun z => by rw [← z, h] at hn; exact hn)]; exact h
  · exact .inr h
theorem sqF_upd {p a : Addr} {o : HO} {vs : List V} (hn : Nt (H p)) (h : SqF K H a vs) : SqF K (upd H p o) a vs := by
  rcases h with ⟨u, h⟩ | h
  · refine .inl ⟨u, ?_⟩
    rw [upd_ne (fun z => by rw [← z, h] at hn; exact hn)]; exact h
  · exact .inr h
theorem tps_upd {p a : Addr} {o : HO} {vs : List V} (hn : Nt (H p)) (h : H a = some (.tup vs)) : upd H p o a = some (.tup vs) := by
  rw [upd_ne (fun z => by rw [← z, h] at hn; exact hn)]; exact h
/-- the objects at other places stand -/
theorem RepO.upd {p a : Addr} {o : HO} {ob : OB} (hn : Nt (H p)) (hne : a ≠ p) (h : RepO K H a ob) : RepO K (upd H p o) a ob := by
  have k : ∀ b vs, SqT K H b vs → SqT K (L2.upd H p o) b vs := fun b vs => sqT_upd hn
  have j : ∀ b vs, SqF K H b vs → SqF K (L2.upd H p o) b vs := fun b vs => sqF_upd hn
  have m : ∀ b vs, H b = some (.tup vs) → L2.upd H p o b = some (.tup vs) := fun b vs => tps_upd hn
  cases ob with
  | lst ds =>
    obtain ⟨vs, e, r⟩ := h
    exact ⟨vs, by rw [upd_ne hne]; exact e, Reps.mono k j m ds vs r⟩
  | ins C fs =>
    obtain ⟨dx, fv, e, r⟩ := h
    exact ⟨dx, fv, by rw [upd_ne hne]; exact e, RepF.mono k j m fs fv r⟩
  | dk kvs =>
    obtain ⟨fv, e, r⟩ := h
    exact ⟨fv, by rw [upd_ne hne]; exact e, RepK.mono k j m kvs fv r⟩
  | dt kvs =>
    obtain ⟨fv, e, r⟩ := h
    exact ⟨fv, by rw [upd_ne hne]; exact e, RepK.mono k j m kvs fv r⟩
  | xd kvs =>
    obtain ⟨fv, e, r⟩ := h
    exact ⟨fv, by rw [upd_ne hne]; exact e, RepF.mono k j m kvs fv r⟩
theorem RepS.there (h : RepS K H st) {p : Addr} {o : OB} (e : st p = some o) : ∃ u, H p = some u ∧ Nt (some u) ∧ True := by
  have q := h p o e
  cases o with
  | lst ds => obtain ⟨vs, e1, _⟩ := q; exact ⟨_, e1, trivial, trivial⟩
  | ins C fs => obtain ⟨_, _, e1, _⟩ := q; exact ⟨_, e1, trivial, trivial⟩
  | dk fs => obtain ⟨_, e1, _⟩ := q; exact ⟨_, e1, trivial, trivial⟩
  | dt fs => obtain ⟨_, e1, _⟩ := q; exact ⟨_, e1, trivial, trivial⟩
  | xd fs => obtain ⟨_, e1, _⟩ := q; exact ⟨_, e1, trivial, trivial⟩
theorem RepS.free (h : RepS K H st) {p : Addr} (hp : H p = none) : st p = none := by
  cases e : st p with
  | none => rfl
  | some o =>
    obtain ⟨u, e1, _⟩ := h.there e
    rw [hp] at e1; cases e1
theorem nt_none {p : Addr} (hp : H p = none) : Nt (H p) := by rw [hp]; trivial
/-- a new thing, tracked in the store or not -/
theorem RepS.untold (h : RepS K H st) {p : Addr} (hp : H p = none) (o : HO) : RepS K (upd H p o) st := fun a ob e => by
  have ne : a ≠ p := fun z => by rw [z, h.free hp] at e; cases e
  exact (h a ob e).upd (nt_none hp) ne
theorem Keep.untold {p : Addr} (hp : H p = none) (o : HO) : Keep K H st (upd H p o) st :=
  ⟨fun a vs => sqT_upd (nt_none hp), fun a vs => sqF_upd (nt_none hp), fun a vs => tps_upd (nt_none hp), fun a u e _ k => ⟨by rw [upd_ne (ne_of_none e hp)]; exact e, k⟩, fun a fv e => by rw [upd_ne (ne_of_none e hp)]; exact e⟩
theorem RepS.told (h : RepS K H st) {p : Addr} (hp : H p = none) {o : HO} {ob : OB} (hob : RepO K (upd H p o) p ob) : RepS K (upd H p o) (put st p ob) := fun a u e => by
  by_cases ne : a = p
  · subst ne
    rw [put_same] at e; cases e
    exact hob
  · rw [put_ne ne] at e
    exact (h a u e).upd (nt_none hp) ne
theorem Keep.told {p : Addr} (hp : H p = none) (o : HO) (ob : OB) : Keep K H st (upd H p o) (put st p ob) :=
  ⟨fun a vs => sqT_upd (nt_none hp), fun a vs => sqF_upd (nt_none hp), fun a vs => tps_upd (nt_none hp), fun a u e _ k => ⟨by rw [upd_ne (ne_of_none e hp)]; exact e, by rw [put_ne (ne_of_none e hp)]; exact k⟩, fun a fv e => by rw [upd_ne (ne_of_none e hp)]; exact e⟩
/-- a thing of the store changes -/
theorem RepS.write (h : RepS K H st) {p : Addr} {o0 : OB} (hp : st p = some o0) {o : HO} {ob : OB} (hob : RepO K (upd H p o) p ob) : RepS K (upd H p o) (put st p ob) := fun a u e => by
  obtain ⟨_, e0, hn, _⟩ := h.there hp
  by_cases ne : a = p
  · subst ne
    rw [put_same] at e; cases e
    exact hob
  · rw [put_ne ne] at e
    exact (h a u e).upd (by rw [e0]; exact hn) ne
theorem RepS.keepW (h : RepS K H st) {p : Addr} {o0 : OB} (hp : st p = some o0) (o : HO) (ob : OB) (hx : ∀ fs, o0 ≠ .xd fs := by intro _ h; cases h) : Keep K H st (upd H p o) (put st p ob) := by
  obtain ⟨_, e0, hn, _⟩ := h.there hp
  have nx : ∀ fv, H p ≠ some (.xd fv) := fun fv z => by
    have q := h p o0 hp
    cases o0 with
    | xd fs => exact hx fs rfl
    | ins C fs => obtain ⟨_, _, e1, _⟩ := q; rw [z] at e1; cases e1
    | _ => obtain ⟨_, e1, _⟩ := q; rw [z] at e1; cases e1
  have hn' : Nt (H p) := by rw [e0]; exact hn
  refine ⟨fun a vs => sqT_upd hn', fun a vs => sqF_upd hn', fun a vs => tps_upd hn', fun a u e _ k => ?_, fun a fv e => by rw [upd_ne (fun z => nx fv (by rw [← z]; exact e))]; exact e⟩
  have ne : a ≠ p := fun z => by rw [z, hp] at k; cases k
  exact ⟨by rw [upd_ne ne]; exact e, by rw [put_ne ne]; exact k⟩
/-- fewer places may be told -/
theorem RepS.sub (h : RepS K H st) (s : Sub st1 st) : RepS K H st1 := fun a o e => h a o (s a o e)
theorem Keep.sub (k : Keep K H st H' st') (s : Sub st1 st') : Keep K H st H' st1 :=
  ⟨k.tup, k.scr, k.tps, fun a o e n z => ⟨(k.oth a o e n z).1, by
    cases q : st1 a with
    | none => rfl
    | some u =>
      have := s a u q
      rw [(k.oth a o e n z).2] at this; cases this⟩, k.xds⟩
end
end DL

namespace DL
open PySem PySem.Spec PyProof.Rows L2

/-! ### judgements over data -/
section
variable (K : PySem.W.Frag) (W : WX)
def OkQ (H : Hp) (st : DS) (R : RD) (Q : VK) : Prop := ∀ v H' d st', Keep K H st H' st' → RepS K H' st' → Rep K H' d v → R d st' → Q v H'
def OkX (sg : L2.St) (H : Hp) (st : DS) (Rx : RX) : Prop := ∀ x cls dd H' st', Keep K H st H' st' → RepS K H' st' → RepX K H' x cls dd → Rx x st' → W cls dd sg H'
def twE (w : WE) : TE := fun sg H Q => ∃ ep st R Rx, RepE K H ep sg ∧ RepS K H st ∧ w ep st R Rx ∧ OkQ K H st R Q ∧ OkX K W sg H st Rx
def twT (w : WT) : TT := fun sg H Q => ∃ ep st R Rx, RepE K H ep sg ∧ RepS K H st ∧ w ep st R Rx ∧ (∀ b H' st', Keep K H st H' st' → RepS K H' st' → R b st' → Q b H') ∧ OkX K W sg H st Rx
def twA (n : Nat) (w : WA) : TA := fun sg H Q => ∃ ep st R Rx, RepE K H ep sg ∧ RepS K H st ∧ w ep st R Rx ∧ (∀ vs H' ds st', ds.length = n → Keep K H st H' st' → RepS K H' st' → Reps K H' ds vs → R ds st' → Q vs H') ∧ OkX K W sg H st Rx
structure OkS (H : Hp) (st : DS) (E : Ed) (Dn : Ends) : Prop where
  nx : ∀ sg' H' ep' st', Keep K H st H' st' → RepS K H' st' → RepE K H' ep' sg' → E.nx ep' st' → Dn.nx sg' H'
  rt : ∀ v H' d st', Keep K H st H' st' → RepS K H' st' → Rep K H' d v → E.rt d st' → Dn.rt v H'
  bk : ∀ sg' H' ep' st', Keep K H st H' st' → RepS K H' st' → RepE K H' ep' sg' → E.bk ep' st' → Dn.bk sg' H'
  ct : ∀ sg' H' ep' st', Keep K H st H' st' → RepS K H' st' → RepE K H' ep' sg' → E.ct ep' st' → Dn.ct sg' H'
  ex : ∀ x cls dd sg' H' ep' st', Keep K H st H' st' → RepS K H' st' → RepE K H' ep' sg' → RepX K H' x cls dd → E.ex x ep' st' → W cls dd sg' H'
def twS (w : WS) : TS := fun Dn sg H => ∃ ep st E, RepE K H ep sg ∧ RepS K H st ∧ w E ep st ∧ OkS K W H st E Dn
end
section
variable {K : PySem.W.Frag} {W : WX} {H H1 : Hp} {st st1 : DS} {sg : L2.St} {ep : DE}
theorem OkX.keep {Rx : RX} (h : OkX K W sg H st Rx) (k : Keep K H st H1 st1) : OkX K W sg H1 st1 Rx := fun x cls dd H' st' k' s r q => h x cls dd H' st' (k.trans k') s r q
theorem OkQ.keep {R : RD} {Q : VK} (h : OkQ K H st R Q) (k : Keep K H st H1 st1) : OkQ K H1 st1 R Q := fun v H' d st' k' s r q => h v H' d st' (k.trans k') s r q
theorem OkS.keep {E : Ed} {Dn : Ends} (h : OkS K W H st E Dn) (k : Keep K H st H1 st1) : OkS K W H1 st1 E Dn :=
  ⟨fun a b c d k' => h.nx a b c d (k.trans k'), fun a b c d k' => h.rt a b c d (k.trans k'), fun a b c d k' => h.bk a b c d (k.trans k'), fun a b c d k' => h.ct a b c d (k.trans k'), fun a b c d e f g k' => h.ex a b c d e f g (k.trans k')⟩
theorem OkS.okX {E : Ed} {Dn : Ends} (h : OkS K W H st E Dn) (e : RepE K H ep sg) : OkX K W sg H st (fun x st' => E.ex x ep st') :=
  fun x cls dd H' st' k s r q => h.ex x cls dd sg H' ep st' k s (e.keep k) r q
end

theorem _root_.L2.PE.weak {X : Cx} {e : Expr} {t t' : TE} (h : PE X e t) (f : ∀ sg H Q, t' sg H Q → t sg H Q) : PE X e t' := ⟨fun pins s sg H Q I hw => h.run pins s sg H Q I (f sg H Q hw)⟩
theorem _root_.L2.PT.weak {X : Cx} {e : Expr} {t t' : TT} (h : PT X e t) (f : ∀ sg H Q, t' sg H Q → t sg H Q) : PT X e t' := ⟨fun pins s sg H Q I hw => h.run pins s sg H Q I (f sg H Q hw)⟩
theorem _root_.L2.PW.weak {X : Cx} {e : Expr} {t t' : TT} (h : PW X e t) (f : ∀ sg H Q, t' sg H Q → t sg H Q) : PW X e t' := ⟨fun wh pins s sg H Q I hw => h.run wh pins s sg H Q I (f sg H Q hw)⟩
theorem _root_.L2.PA.weak {X : Cx} {e : List Expr} {t t' : TA} (h : PA X e t) (f : ∀ sg H Q, t' sg H Q → t sg H Q) : PA X e t' := ⟨fun pos pins s sg H Q I hw => h.run pos pins s sg H Q I (f sg H Q hw)⟩
theorem _root_.L2.PS.weak {X : Cx} {e : Stmt} {t t' : TS} (h : PS X e t) (f : ∀ Dn sg H, t' Dn sg H → t Dn sg H) : PS X e t' := ⟨fun pins s sg H Dn I hw => h.run pins s sg H Dn I (f Dn sg H hw)⟩
theorem _root_.L2.PSs.weak {X : Cx} {e : List Stmt} {t t' : TS} (h : PSs X e t) (f : ∀ Dn sg H, t' Dn sg H → t Dn sg H) : PSs X e t' := ⟨fun pins s sg H Dn I hw => h.run pins s sg H Dn I (f Dn sg H hw)⟩

abbrev JE (X : Cx) (W : WX) (e : Expr) (w : WE) : Prop := PE X e (twE X.K W w)
abbrev JT (X : Cx) (W : WX) (e : Expr) (w : WT) : Prop := PT X e (twT X.K W w)
abbrev JW (X : Cx) (W : WX) (e : Expr) (w : WT) : Prop := PW X e (twT X.K W w)
abbrev JA (X : Cx) (W : WX) (n : Nat) (e : List Expr) (w : WA) : Prop := PA X e (twA X.K W n w)
abbrev JS (X : Cx) (W : WX) (e : Stmt) (w : WS) : Prop := PS X e (twS X.K W w)
abbrev JSs (X : Cx) (W : WX) (e : List Stmt) (w : WS) : Prop := PSs X e (twS X.K W w)

/-! ### names and constants -/
/-- a test's two ways -/
def cnd (t : Bool) (A B : Unit → Prop) : Prop := (t = true → A ()) ∧ (t = false → B ())
@[simp] theorem cnd_true {A B : Unit → Prop} : cnd true A B = A () := by
  unfold cnd
  exact propext ⟨fun h => h.1 rfl, fun h => ⟨fun _ => h, fun e => Bool.noConfusion e⟩⟩
@[simp] theorem cnd_false {A B : Unit → Prop} : cnd false A B = B () := by
  unfold cnd
  exact propext ⟨fun h => h.2 rfl, fun h => ⟨fun e => Bool.noConfusion e, fun _ => h⟩⟩
theorem cnd_not {t : Bool} {A B : Unit → Prop} : cnd (!t) A B = cnd t B A := by cases t <;> simp
def getL (st : DS) (a : Addr) (k : List D → Prop) : Prop := match st a with
  | some (.lst ds) => k ds
  | _ => False
def optP {α : Type} (o : Option α) (k : α → Prop) : Prop := match o with
  | some x => k x
  | none => False
def asB (d : D) (k : Bool → Prop) : Prop := match d with
  | .bl b => k b
  | _ => False
def asI (d : D) (k : Int → Prop) : Prop := match d with
  | .int b => k b
  | _ => False
theorem getL_inv {st : DS} {a : Addr} {k : List D → Prop} (h : getL st a k) : ∃ ds, st a = some (.lst ds) ∧ k ds := by
  unfold getL at h
  cases e : st a with
  | none => rw [e] at h; exact h.elim
  | some o =>
    rw [e] at h
    cases o with
    | lst ds => exact ⟨ds, rfl, h⟩
    | _ => exact h.elim
theorem optP_inv {α : Type} {o : Option α} {k : α → Prop} (h : optP o k) : ∃ x, o = some x ∧ k x := by
  cases o with
  | none => exact h.elim
  | some x => exact ⟨x, rfl, h⟩
theorem getL_eq {st : DS} {a : Addr} {k : List D → Prop} {ds : List D} (e : st a = some (.lst ds)) : getL st a k = k ds := by unfold getL; rw [e]
@[simp] theorem getL_put {st : DS} {a : Addr} {k : List D → Prop} {ds : List D} : getL (put st a (.lst ds)) a k = k ds := getL_eq put_same
theorem getL_ne {st : DS} {a b : Addr} {o : OB} {k : List D → Prop} (h : b ≠ a) : getL (put st a o) b k = getL st b k := by unfold getL; rw [put_ne h]
@[simp] theorem optP_some {α : Type} {x : α} {k : α → Prop} : optP (some x) k = k x := rfl
def lk (ep : DE) (i : Nat) : Option D := (ep[i]?).getD none
def wVar (i : Nat) : WE := fun ep st R _ => match lk ep i with
  | some d => R d st
  | none => False
def wC (d : D) : WE := fun _ st R _ => R d st
theorem lk_some {ep : DE} {i : Nat} {d : D} (h : lk ep i = some d) : ep[i]? = some (some d) := by
  unfold lk at h
  cases e : ep[i]? with
  | none => rw [e] at h; cases h
  | some x => rw [e] at h; rw [show x = some d from h]
section
variable {X : Cx} {W : WX}
theorem jv (i : Nat) {x : Str} {pos : Pos} (hN : X.N[i]? = some x := by rfl) (hv : Vis X.env.scope x := by first | exact Or.inl rfl | exact Or.inr (Or.inl rfl) | exact Or.inr (Or.inr rfl)) (hd : (x == ("__debug__" : Str)) = false := by decide)
    (hcd : (x == ("__classdict__" : Str)) = false := by decide) : JE X W (.Name x pos) (wVar i) := by
  refine (pe_var hN hv hd hcd).weak ?_
  rintro sg H Q ⟨ep, st, R, Rx, he, hs, hw, hq, hx⟩
  unfold wVar at hw
  cases e : lk ep i with
  | none => rw [e] at hw; exact hw.elim
  | some d =>
    rw [e] at hw
    obtain ⟨v, e1, r⟩ := he.2 i d (lk_some e)
    exact ⟨v, e1, hq v H d st .refl hs r hw⟩
theorem j_const {e : Expr} {v : V} {d : D} (h : PE X e (tC v)) (r : ∀ K H, Rep K H d v) : JE X W e (wC d) := by
  refine h.weak ?_
  rintro sg H Q ⟨ep, st, R, Rx, he, hs, hw, hq, hx⟩
  exact hq v H d st .refl hs (r _ _) hw
theorem ji {i j pos} : JE X W (.Constant (.int i) j pos) (wC (.int i)) := j_const pe_int fun _ _ => Rep_int.mpr rfl
theorem jb {b j pos} : JE X W (.Constant (.bool b) j pos) (wC (.bl b)) := j_const pe_bl fun _ _ => Rep_bl.mpr rfl
theorem jn {j pos} : JE X W (.Constant .none j pos) (wC .non) := j_const pe_non fun _ _ => Rep_non.mpr rfl
theorem jstr {x j pos} : JE X W (.Constant (.str x) j pos) (wC (.str x)) := j_const pe_str fun _ _ => Rep_str.mpr rfl
/-- a class or a function as a value -/
theorem jg {x : Str} {a : Addr} {pos : Pos} (hg : Gl X x) (hm : X.mg x = some (.ref a)) (hd : (x == ("__debug__" : Str)) = false := by decide) : JE X W (.Name x pos) (wC (.ref a)) :=
  j_const (pe_glob (v := .ref a) hg hm rfl hd) fun _ _ => Rep_ref.mpr rfl
end

/-! ### two parts -/
abbrev F2 := D → D → DS → RD → Prop
def wBin (f : F2) (wa wb : WE) : WE := fun ep st R Rx => wa ep st (fun x st1 => wb ep st1 (fun y st2 => f x y st2 R) Rx) Rx
/-- what a hand-layer reading does, told by data -/
def Sim2 (K : PySem.W.Frag) (r : R2) (f : F2) : Prop := ∀ H st x y dx dy R Q, RepS K H st → Rep K H dx x → Rep K H dy y → f dx dy st R → OkQ K H st R Q → r x y H Q
section
variable {X : Cx} {W : WX} {K : PySem.W.Frag}
theorem tw_bin {r : R2} {f : F2} {wa wb : WE} (hf : Sim2 K r f) : ∀ sg H Q, twE K W (wBin f wa wb) sg H Q → tOp r (twE K W wa) (twE K W wb) sg H Q := by
  rintro sg H Q ⟨ep, st, R, Rx, he, hs, hw, hq, hx⟩
  refine ⟨ep, st, _, Rx, he, hs, hw, fun x H1 d1 st1 k1 s1 r1 hw1 => ?_, hx⟩
  exact ⟨ep, st1, _, Rx, he.keep k1, s1, hw1, fun y H2 d2 st2 k2 s2 r2 hw2 => hf H2 st2 x y d1 d2 R Q s2 (r1.keep k2) r2 hw2 (hq.keep (k1.trans k2)), hx.keep k1⟩
theorem j_op {a b : Expr} {wa wb : WE} {op : Operator} {r : R2} {f : F2} {pos : Pos} (ho : OpR X (binaryOp op) r) (hf : Sim2 X.K r f) (ha : JE X W a wa) (hb : JE X W b wb) : JE X W (.BinOp a op b pos) (wBin f wa wb) :=
  (pe_op ho ha hb).weak (tw_bin hf)
theorem j_cmp {a b : Expr} {wa wb : WE} {op : CmpOp} {r : R2} {f : F2} {pos : Pos} (ho : OpR X (compareOp op) r) (hf : Sim2 X.K r f) (ha : JE X W a wa) (hb : JE X W b wb) (hm : behindInMarks op b = false := by first | rfl | exact nobehind _ (by decide) (by decide)) :
    JE X W (.Compare a [op] [b] pos) (wBin f wa wb) := (pe_cmpR ho ha hb hm).weak (tw_bin hf)
def wBinT (f : F2) (wa wb : WE) : WT := fun ep st R Rx => wBin f wa wb ep st (fun d st' => asB d fun b => R b st') Rx
theorem tw_binT {r : R2} {f : F2} {wa wb : WE} (hf : Sim2 K r f) : ∀ sg H Q, twT K W (wBinT f wa wb) sg H Q → tTest (tOp r (twE K W wa) (twE K W wb)) sg H Q := by
  rintro sg H Q ⟨ep, st, R, Rx, he, hs, hw, hq, hx⟩
  refine tw_bin hf sg H _ ⟨ep, st, _, Rx, he, hs, hw, fun v H' d st' k s r h => ?_, hx⟩
  cases d with
  | bl b => exact ⟨b, Rep_bl.mp r, hq b H' st' k s h⟩
  | _ => exact h.elim
theorem j_cmpT {a b : Expr} {wa wb : WE} {op : CmpOp} {r : R2} {f : F2} {pos : Pos} (ho : OpR X (compareOp op) r) (hf : Sim2 X.K r f) (ha : JE X W a wa) (hb : JE X W b wb) (hm : behindInMarks op b = false := by first | rfl | exact nobehind _ (by decide) (by decide)) :
    JT X W (.Compare a [op] [b] pos) (wBinT f wa wb) := (pt_cmpR ho ha hb hm).weak (tw_binT hf)
end
end DL

namespace DL
open PySem PySem.Spec PyProof.Rows L2

/-! ### operators by data -/
theorem OpR_or {X : Cx} {f : Value → Value → Sem Value} {r r' : R2} (h : OpR X f r) (h' : OpR X f r') : OpR X f (fun x y H Q => r x y H Q ∨ r' x y H Q) := by
  intro pins s sg H x y v u Q I rx ry hq
  rcases hq with q | q
  · exact h pins s sg H x y v u Q I rx ry q
  · exact h' pins s sg H x y v u Q I rx ry q
/-- products that the machine's size of ints lets -/
def MulOk (i j : Int) : Prop := CMul i j ∨ CMulW i j
theorem op_mulA {X : Cx} : OpR X (binaryOp .Mult) (rI MulOk fun i j => .int (i * j)) := opI fun _ _ _ _ _ _ _ hc q => mul_int q (hc.elim CMul.ok CMulW.ok)
def addD : F2 := fun x y st R => match x, y with
  | .int i, .int j => R (.int (i + j)) st
  | .str a, .str b => a.length + b.length ≤ sizeLine ∧ R (.str (a ++ b)) st
  | .tup a, .tup b => a.length + b.length ≤ sizeLine ∧ R (.tup (a ++ b)) st
  | .ref p, .ref q => getL st p fun a => getL st q fun b => a.length + b.length ≤ sizeLine ∧ ∀ l, st l = none → R (.ref l) (put st l (.lst (a ++ b)))
  | _, _ => False
def subD : F2 := fun x y st R => match x, y with
  | .int i, .int j => R (.int (i - j)) st
  | _, _ => False
def mulD : F2 := fun x y st R => match x, y with
  | .int i, .int j => MulOk i j ∧ R (.int (i * j)) st
  | _, _ => False
def divD : F2 := fun x y st R => match x, y with
  | .int i, .int j => (0 < j ∧ j.natAbs.log2 < 9000) ∧ R (.int (i / j)) st
  | _, _ => False
def modD : F2 := fun x y st R => match x, y with
  | .int i, .int j => 0 < j ∧ R (.int (i % j)) st
  | _, _ => False
def powD : F2 := fun x y st R => match x, y with
  | .int i, .int j => CPow i j ∧ R (.int (i ^ j.toNat)) st
  | _, _ => False
def shlD : F2 := fun x y st R => match x, y with
  | .int i, .int j => CPow i j ∧ R (.int (i * 2 ^ j.toNat)) st
  | _, _ => False
section
variable {K : PySem.W.Frag}
theorem sim_int {C : Int → Int → Prop} {g : Int → Int → Int} {f : F2} (h : ∀ dx dy st R, f dx dy st R → ∃ i j, dx = .int i ∧ dy = .int j ∧ C i j ∧ R (.int (g i j)) st) : Sim2 K (rI C fun i j => .int (g i j)) f := by
  intro H st x y dx dy R Q hs rx ry hf hq
  obtain ⟨i, j, rfl, rfl, hc, hr⟩ := h _ _ _ _ hf
  exact ⟨i, j, Rep_int.mp rx, Rep_int.mp ry, hc, hq _ _ _ _ .refl hs (Rep_int.mpr rfl) hr⟩
theorem sim_int0 {g : Int → Int → Int} {f : F2} (h : ∀ dx dy st R, f dx dy st R → ∃ i j, dx = .int i ∧ dy = .int j ∧ R (.int (g i j)) st) : Sim2 K (rI0 fun i j => .int (g i j)) f := by
  intro H st x y dx dy R Q hs rx ry hf hq
  obtain ⟨i, j, rfl, rfl, hr⟩ := h _ _ _ _ hf
  exact ⟨i, j, Rep_int.mp rx, Rep_int.mp ry, hq _ _ _ _ .refl hs (Rep_int.mpr rfl) hr⟩
theorem sim_sub : Sim2 K (rI0 fun i j => .int (i - j)) subD := sim_int0 fun dx dy st R h => by
  cases dx <;> cases dy <;> first | exact h.elim | exact ⟨_, _, rfl, rfl, h⟩
theorem sim_mul : Sim2 K (rI MulOk fun i j => .int (i * j)) mulD := sim_int fun dx dy st R h => by
  cases dx <;> cases dy <;> first | exact h.elim | exact ⟨_, _, rfl, rfl, h.1, h.2⟩
theorem sim_div : Sim2 K (rI CDivW fun i j => .int (i / j)) divD := sim_int fun dx dy st R h => by
  cases dx <;> cases dy <;> first | exact h.elim | exact ⟨_, _, rfl, rfl, h.1, h.2⟩
theorem sim_mod : Sim2 K (rI (fun _ j => 0 < j) fun i j => .int (i % j)) modD := sim_int fun dx dy st R h => by
  cases dx <;> cases dy <;> first | exact h.elim | exact ⟨_, _, rfl, rfl, h.1, h.2⟩
theorem sim_pow : Sim2 K (rI CPow fun i j => .int (i ^ j.toNat)) powD := sim_int fun dx dy st R h => by
  cases dx <;> cases dy <;> first | exact h.elim | exact ⟨_, _, rfl, rfl, h.1, h.2⟩
theorem sim_shl : Sim2 K (rI CPow fun i j => .int (i * 2 ^ j.toNat)) shlD := sim_int fun dx dy st R h => by
  cases dx <;> cases dy <;> first | exact h.elim | exact ⟨_, _, rfl, rfl, h.1, h.2⟩
end
def rStrAdd : R2 := fun x y H Q => ∃ i j, x = .str i ∧ y = .str j ∧ i.length + j.length ≤ sizeLine ∧ Q (.str (i ++ j)) H
theorem op_addA {X : Cx} : OpR X (binaryOp .Add) (fun x y H Q => (rI0 (fun i j => .int (i + j)) x y H Q ∨ rStrAdd x y H Q) ∨ (rCatA X.K x y H Q ∨ rCat x y H Q)) :=
  OpR_or (OpR_or op_add op_add_str) (OpR_or op_catA op_cat)
theorem sim_add {K : PySem.W.Frag} : Sim2 K (fun x y H Q => (rI0 (fun i j => .int (i + j)) x y H Q ∨ rStrAdd x y H Q) ∨ (rCatA K x y H Q ∨ rCat x y H Q)) addD := by
  intro H st x y dx dy R Q hs rx ry hf hq
  cases dx with
  | int i =>
    cases dy with
    | int j => exact .inl (.inl ⟨i, j, Rep_int.mp rx, Rep_int.mp ry, hq _ _ _ _ .refl hs (Rep_int.mpr rfl) hf⟩)
    | _ => exact hf.elim
  | str i =>
    cases dy with
    | str j => exact .inl (.inr ⟨i, j, Rep_str.mp rx, Rep_str.mp ry, hf.1, hq _ _ _ _ .refl hs (Rep_str.mpr rfl) hf.2⟩)
    | _ => exact hf.elim
  | tup as =>
    cases dy with
    | tup bs =>
      obtain ⟨a, va, rfl, ta, ra⟩ := Rep_tup.mp rx
      obtain ⟨b, vb, rfl, tb, rb⟩ := Rep_tup.mp ry
      obtain ⟨hz, hr⟩ := hf
      have la := ra.length
      have lb := rb.length
      refine .inr (.inl ⟨a, b, va, vb, rfl, rfl, ta, tb, by omega, fun e => ?_, fun e1 e2 => ?_, fun e1 e2 p hp => ?_⟩)
      · subst e
        have : as = [] := by
          cases as with
          | nil => rfl
          | cons d ds => simp at la
        subst this
        exact hq _ _ _ _ .refl hs (Rep_tup.mpr ⟨b, vb, rfl, tb, rb⟩) hr
      · subst e2
        have : bs = [] := by
          cases bs with
          | nil => rfl
          | cons d ds => simp at lb
        subst this
        refine hq _ _ _ _ .refl hs (Rep_tup.mpr ⟨a, va, rfl, ta, ra⟩) ?_
        rw [List.append_nil] at hr; exact hr
      · have k : Keep K H st (upd H p (.tup (va ++ vb))) st := Keep.untold hp _
        exact hq _ _ _ _ k (hs.untold hp _) (Rep_tup.mpr ⟨p, _, rfl, .inl (.inl upd_same), (ra.keep k).append (rb.keep k)⟩) hr
    | _ => exact hf.elim
  | ref p =>
    cases dy with
    | ref q =>
      obtain ⟨as, ha, hf⟩ := getL_inv hf
      obtain ⟨bs, hb, hz, hr⟩ := getL_inv hf
      obtain ⟨va, ea, ra⟩ := hs p _ ha
      obtain ⟨vb, eb, rb⟩ := hs q _ hb
      have la := ra.length
      have lb := rb.length
      refine .inr (.inr ⟨p, q, va, vb, Rep_ref.mp rx, Rep_ref.mp ry, ea, eb, by omega, fun l hl => ?_⟩)
      have k : Keep K H st (upd H l (.lst (va ++ vb))) (put st l (.lst (as ++ bs))) := Keep.told hl _ _
      exact hq _ _ _ _ k (hs.told hl ⟨_, upd_same, (ra.keep k).append (rb.keep k)⟩) (Rep_ref.mpr rfl) (hr l (hs.free hl))
    | _ => exact hf.elim
  | _ => exact hf.elim
section
variable {X : Cx} {W : WX} {a b : Expr} {wa wb : WE} {pos : Pos}
theorem j_add (ha : JE X W a wa) (hb : JE X W b wb) : JE X W (.BinOp a .Add b pos) (wBin addD wa wb) := j_op op_addA sim_add ha hb
theorem j_sub (ha : JE X W a wa) (hb : JE X W b wb) : JE X W (.BinOp a .Sub b pos) (wBin subD wa wb) := j_op op_sub sim_sub ha hb
theorem j_mul (ha : JE X W a wa) (hb : JE X W b wb) : JE X W (.BinOp a .Mult b pos) (wBin mulD wa wb) := j_op op_mulA sim_mul ha hb
theorem j_div (ha : JE X W a wa) (hb : JE X W b wb) : JE X W (.BinOp a .FloorDiv b pos) (wBin divD wa wb) := j_op op_fdivW sim_div ha hb
theorem j_mod (ha : JE X W a wa) (hb : JE X W b wb) : JE X W (.BinOp a .Mod b pos) (wBin modD wa wb) := j_op op_mod sim_mod ha hb
theorem j_pow (ha : JE X W a wa) (hb : JE X W b wb) : JE X W (.BinOp a .Pow b pos) (wBin powD wa wb) := j_op op_pow sim_pow ha hb
theorem j_shl (ha : JE X W a wa) (hb : JE X W b wb) : JE X W (.BinOp a .LShift b pos) (wBin shlD wa wb) := j_op op_shl sim_shl ha hb
end

/-! ### comparisons by data -/
/-- data that == tells, with the lists of the store -/
inductive PyOf (st : DS) : D → PyData → Prop where
  | non : PyOf st .non .none
  | bl (b : Bool) : PyOf st (.bl b) (.bool b)
  | int (i : Int) : PyOf st (.int i) (.int i)
  | str (x : Str) : PyOf st (.str x) (.str x)
  | tup {ds : List D} {ps : List PyData} (h : Paired (PyOf st) ds ps) : PyOf st (.tup ds) (.tuple ps)
  | lst {a : Addr} {ds : List D} {ps : List PyData} (e : st a = some (.lst ds)) (h : Paired (PyOf st) ds ps) : PyOf st (.ref a) (.list ps)
theorem dp_all {K : PySem.W.Frag} {H : Hp} : ∀ {vs : List V} {ps : List PyData}, Paired (Dp K H) vs ps → DpAll K H vs ps
  | _, _, .nil => .nil
  | _, _, .cons a b => .cons a (dp_all b)
mutual
theorem PyOf.dp {K : PySem.W.Frag} {H : Hp} {st : DS} (hs : RepS K H st) : ∀ {d : D} {p : PyData} {v : V}, PyOf st d p → Rep K H d v → Dp K H v p
  | _, _, _, .non, r => by rw [Rep_non.mp r]; exact .non
  | _, _, _, .bl b, r => by rw [Rep_bl.mp r]; exact .bl b
  | _, _, _, .int i, r => by rw [Rep_int.mp r]; exact .int i
  | _, _, _, .str x, r => by rw [Rep_str.mp r]; exact .str x
  | _, _, _, .tup h, r => by
    obtain ⟨a, vs, rfl, t, q⟩ := Rep_tup.mp r
    exact .tup t (PyOf.dps hs h q)
  | _, _, _, .lst e h, r => by
    rw [Rep_ref.mp r]
    obtain ⟨vs, e1, q⟩ := hs _ _ e
    exact .lst (SqL.of e1) (PyOf.dps hs h q)
theorem PyOf.dps {K : PySem.W.Frag} {H : Hp} {st : DS} (hs : RepS K H st) : ∀ {ds : List D} {ps : List PyData} {vs : List V}, Paired (PyOf st) ds ps → Reps K H ds vs → DpAll K H vs ps
  | _, _, _, .nil, r => by rw [Reps_nil.mp r]; exact .nil
  | _, _, _, .cons a b, r => by
    obtain ⟨v, t, rfl, h1, h2⟩ := Reps_cons.mp r
    exact .cons (PyOf.dp hs a h1) (PyOf.dps hs b h2)
end
/-- plain scalars -/
def D.flat : D → Bool
  | .non => true
  | .bl _ => true
  | .int _ => true
  | .str _ => true
  | _ => false
/-- == of scalars -/
def D.feq : D → D → Bool
  | .non, .non => true
  | .bl a, .bl b => a == b
  | .bl a, .int b => (if a then 1 else 0) == b
  | .int a, .bl b => a == (if b then 1 else 0)
  | .int a, .int b => a == b
  | .str a, .str b => a == b
  | _, _ => false
def D.toV : D → V
  | .non => .non
  | .bl b => .bl b
  | .int i => .int i
  | .str x => .str x
  | _ => .non
theorem D.flat_rep {K : PySem.W.Frag} {H : Hp} {d : D} {v : V} (f : d.flat = true) (r : Rep K H d v) : v = d.toV ∧ flatV v = true := by
  cases d with
  | non => rw [Rep_non.mp r]; exact ⟨rfl, rfl⟩
  | bl b => rw [Rep_bl.mp r]; exact ⟨rfl, rfl⟩
  | int b => rw [Rep_int.mp r]; exact ⟨rfl, rfl⟩
  | str b => rw [Rep_str.mp r]; exact ⟨rfl, rfl⟩
  | _ => cases f
theorem D.feq_V {d e : D} (f : d.flat = true) (g : e.flat = true) : eqV d.toV e.toV = D.feq d e := by
  cases d <;> cases e <;> first | exact absurd (show false = true from f) Bool.false_ne_true | exact absurd (show false = true from g) Bool.false_ne_true | rfl
theorem flats_rep {K : PySem.W.Frag} {H : Hp} {x : D} (g : x.flat = true) : ∀ {ds : List D} {vs : List V}, ds.all D.flat = true → Reps K H ds vs → vs.all flatV = true ∧ inV x.toV vs = ds.any fun d => D.feq d x
  | [], _, _, r => by rw [Reps_nil.mp r]; exact ⟨rfl, rfl⟩
  | d :: ds, _, f, r => by
    obtain ⟨v, t, rfl, h1, h2⟩ := Reps_cons.mp r
    rw [List.all_cons, Bool.and_eq_true] at f
    obtain ⟨e1, e2⟩ := D.flat_rep f.1 h1
    obtain ⟨i1, i2⟩ := flats_rep g f.2 h2
    refine ⟨by rw [List.all_cons, e2, i1]; rfl, ?_⟩
    unfold inV at i2 ⊢
    rw [List.any_cons, List.any_cons, i2, e1, D.feq_V f.1 g]
/-- x == y -/
def eqD : F2 := fun x y st R => match x, y with
  | .int i, .int j => R (.bl (decide (i = j))) st
  | .str i, .str j => R (.bl (decide (i = j))) st
  | .bl i, .bl j => R (.bl (decide (i = j))) st
  | .non, .non => R (.bl true) st
  | .non, .int _ => R (.bl false) st
  | .int _, .non => R (.bl false) st
  | .non, .str _ => R (.bl false) st
  | .str _, .non => R (.bl false) st
  | .int _, .str _ => R (.bl false) st
  | .str _, .int _ => R (.bl false) st
  | x, y => ∃ px py, PyOf st x px ∧ PyOf st y py ∧ SeqAt.shaped px = true ∧ SeqAt.shaped py = true ∧ R (.bl (PyData.eqv px py)) st
def neD : F2 := fun x y st R => match x, y with
  | .int i, .int j => R (.bl (!decide (i = j))) st
  | .str i, .str j => R (.bl (!decide (i = j))) st
  | .bl i, .bl j => R (.bl (!decide (i = j))) st
  | .non, .non => R (.bl false) st
  | .non, .int _ => R (.bl true) st
  | .int _, .non => R (.bl true) st
  | .non, .str _ => R (.bl true) st
  | .str _, .non => R (.bl true) st
  | .int _, .str _ => R (.bl true) st
  | .str _, .int _ => R (.bl true) st
  | x, y => ∃ px py, PyOf st x px ∧ PyOf st y py ∧ SeqAt.shaped px = true ∧ SeqAt.shaped py = true ∧ R (.bl (!PyData.eqv px py)) st
theorem sim_eq {K : PySem.W.Frag} : Sim2 K (fun x y H Q => rEq x y H Q ∨ rEqD K x y H Q) eqD := by
  intro H st x y dx dy R Q hs rx ry hf hq
  have fin : ∀ {b : Bool}, R (.bl b) st → Q (.bl b) H := fun h => hq _ _ _ _ .refl hs (Rep_bl.mpr rfl) h
  have deep : (∃ px py, PyOf st dx px ∧ PyOf st dy py ∧ SeqAt.shaped px = true ∧ SeqAt.shaped py = true ∧ R (.bl (PyData.eqv px py)) st) → rEqD K x y H Q := by
    rintro ⟨px, py, h1, h2, s1, s2, h⟩
    exact ⟨px, py, h1.dp hs rx, h2.dp hs ry, s1, s2, fin h⟩
  have scal : ∀ {a b : V} {c : Bool}, x = a → y = b → L2.scal a b = true → decide (a = b) = c → R (.bl c) st → rEq x y H Q := by
    rintro a b c rfl rfl h1 h2 h3
    refine ⟨h1, ?_⟩
    rw [h2]; exact fin h3
  cases dx <;> cases dy <;> first
    | exact .inr (deep hf)
    | exact .inl (scal (Rep_int.mp rx) (Rep_int.mp ry) rfl (by simp) hf)
    | exact .inl (scal (Rep_str.mp rx) (Rep_str.mp ry) rfl (by simp) hf)
    | exact .inl (scal (Rep_bl.mp rx) (Rep_bl.mp ry) rfl (by simp) hf)
    | exact .inl (scal (Rep_non.mp rx) (Rep_non.mp ry) rfl (by simp) hf)
    | exact .inl (scal (Rep_non.mp rx) (Rep_int.mp ry) rfl (by simp) hf)
    | exact .inl (scal (Rep_int.mp rx) (Rep_non.mp ry) rfl (by simp) hf)
    | exact .inl (scal (Rep_non.mp rx) (Rep_str.mp ry) rfl (by simp) hf)
    | exact .inl (scal (Rep_str.mp rx) (Rep_non.mp ry) rfl (by simp) hf)
    | exact .inl (scal (Rep_int.mp rx) (Rep_str.mp ry) rfl (by simp) hf)
    | exact .inl (scal (Rep_str.mp rx) (Rep_int.mp ry) rfl (by simp) hf)
theorem sim_ne {K : PySem.W.Frag} : Sim2 K (fun x y H Q => rNe x y H Q ∨ rNeD K x y H Q) neD := by
  intro H st x y dx dy R Q hs rx ry hf hq
  have fin : ∀ {b : Bool}, R (.bl b) st → Q (.bl b) H := fun h => hq _ _ _ _ .refl hs (Rep_bl.mpr rfl) h
  have deep : (∃ px py, PyOf st dx px ∧ PyOf st dy py ∧ SeqAt.shaped px = true ∧ SeqAt.shaped py = true ∧ R (.bl (!PyData.eqv px py)) st) → rNeD K x y H Q := by
    rintro ⟨px, py, h1, h2, s1, s2, h⟩
    exact ⟨px, py, h1.dp hs rx, h2.dp hs ry, s1, s2, fin h⟩
  have scal : ∀ {a b : V} {c : Bool}, x = a → y = b → L2.scal a b = true → (!decide (a = b)) = c → R (.bl c) st → rNe x y H Q := by
    rintro a b c rfl rfl h1 h2 h3
    refine ⟨h1, ?_⟩
    rw [h2]; exact fin h3
  cases dx <;> cases dy <;> first
    | exact .inr (deep hf)
    | exact .inl (scal (Rep_int.mp rx) (Rep_int.mp ry) rfl (by simp) hf)
    | exact .inl (scal (Rep_str.mp rx) (Rep_str.mp ry) rfl (by simp) hf)
    | exact .inl (scal (Rep_bl.mp rx) (Rep_bl.mp ry) rfl (by simp) hf)
    | exact .inl (scal (Rep_non.mp rx) (Rep_non.mp ry) rfl (by simp) hf)
    | exact .inl (scal (Rep_non.mp rx) (Rep_int.mp ry) rfl (by simp) hf)
    | exact .inl (scal (Rep_int.mp rx) (Rep_non.mp ry) rfl (by simp) hf)
    | exact .inl (scal (Rep_non.mp rx) (Rep_str.mp ry) rfl (by simp) hf)
    | exact .inl (scal (Rep_str.mp rx) (Rep_non.mp ry) rfl (by simp) hf)
    | exact .inl (scal (Rep_int.mp rx) (Rep_str.mp ry) rfl (by simp) hf)
    | exact .inl (scal (Rep_str.mp rx) (Rep_int.mp ry) rfl (by simp) hf)
def cmpD (p : Int → Int → Bool) : F2 := fun x y st R => match x, y with
  | .int i, .int j => R (.bl (p i j)) st
  | _, _ => False
theorem sim_cmp {K : PySem.W.Frag} {p : Int → Int → Bool} : Sim2 K (rI0 fun i j => .bl (p i j)) (cmpD p) := by
  intro H st x y dx dy R Q hs rx ry hf hq
  cases dx <;> cases dy <;> first | exact hf.elim | exact ⟨_, _, Rep_int.mp rx, Rep_int.mp ry, hq _ _ _ _ .refl hs (Rep_bl.mpr rfl) hf⟩
/-- x in y; neg: not in -/
def inD (neg : Bool) : F2 := fun x y st R => match y with
  | .ref a => getL st a fun ds => x.flat = true ∧ ds.all D.flat = true ∧ R (.bl (if neg = true then !(ds.any fun d => D.feq d x) else ds.any fun d => D.feq d x)) st
  | .tup ds => x.flat = true ∧ ds.all D.flat = true ∧ R (.bl (if neg = true then !(ds.any fun d => D.feq d x) else ds.any fun d => D.feq d x)) st
  | .str z => ∃ c : Nat, x = .str ⟨#[c]⟩ ∧ R (.bl (if neg = true then !decide (c ∈ z.cps.toList) else decide (c ∈ z.cps.toList))) st
  | _ => False
def rInSign (neg : Bool) : R2 := fun x y H Q => ∃ (c : Nat) (z : Str), x = .str ⟨#[c]⟩ ∧ y = .str z ∧ Q (.bl (if neg = true then !decide (c ∈ z.cps.toList) else decide (c ∈ z.cps.toList))) H
theorem sim_in {K : PySem.W.Frag} {neg : Bool} : Sim2 K (fun x y H Q => rIn K neg x y H Q ∨ rInSign neg x y H Q) (inD neg) := by
  intro H st x y dx dy R Q hs rx ry hf hq
  cases dy with
  | ref a =>
    obtain ⟨ds, e, f, g, h⟩ := getL_inv hf
    obtain ⟨vs, e1, q⟩ := hs a _ e
    obtain ⟨ex, fx⟩ := D.flat_rep f rx
    obtain ⟨g1, g2⟩ := flats_rep f g q
    refine .inl ⟨a, vs, Rep_ref.mp ry, .inl (SqL.of e1), fx, g1, ?_⟩
    rw [ex, g2]
    exact hq _ _ _ _ .refl hs (Rep_bl.mpr rfl) h
  | tup ds =>
    obtain ⟨f, g, h⟩ := hf
    obtain ⟨a, vs, rfl, t, q⟩ := Rep_tup.mp ry
    obtain ⟨ex, fx⟩ := D.flat_rep f rx
    obtain ⟨g1, g2⟩ := flats_rep f g q
    refine .inl ⟨a, vs, rfl, .inr t, fx, g1, ?_⟩
    rw [ex, g2]
    exact hq _ _ _ _ .refl hs (Rep_bl.mpr rfl) h
  | str z =>
    obtain ⟨c, rfl, h⟩ := hf
    exact .inr ⟨c, z, Rep_str.mp rx, Rep_str.mp ry, hq _ _ _ _ .refl hs (Rep_bl.mpr rfl) h⟩
  | _ => exact hf.elim
def D.isNon : D → Bool
  | .non => true
  | _ => false
section
variable {X : Cx} {W : WX} {a b : Expr} {wa wb : WE} {pos : Pos}
theorem op_inA : OpR X (compareOp .In) (fun x y H Q => rIn X.K false x y H Q ∨ rInSign false x y H Q) := OpR_or op_in_seq op_in_sign
theorem op_notInA : OpR X (compareOp .NotIn) (fun x y H Q => rIn X.K true x y H Q ∨ rInSign true x y H Q) := OpR_or op_notIn_seq op_notIn_sign
def wNone (neg : Bool) (wa : WE) : WE := fun ep st R Rx => wa ep st (fun d st' => R (.bl (if neg = true then !d.isNon else d.isNon)) st') Rx
theorem non_dec {K : PySem.W.Frag} {H : Hp} {d : D} {v : V} (r : Rep K H d v) : decide (v = V.non) = d.isNon := by
  cases d with
  | non => rw [Rep_non.mp r]; rfl
  | bl b => rw [Rep_bl.mp r]; rfl
  | int b => rw [Rep_int.mp r]; rfl
  | str b => rw [Rep_str.mp r]; rfl
  | ref b => rw [Rep_ref.mp r]; rfl
  | tup b => obtain ⟨a, vs, rfl, _⟩ := Rep_tup.mp r; rfl
  | scr b => obtain ⟨a, vs, rfl, _⟩ := Rep_scr.mp r; rfl
  | key b => obtain ⟨a, rfl, _⟩ := Rep_key.mp r; rfl
theorem j_isN {j p2} (ha : JE X W a wa) : JE X W (.Compare a [.Is] [.Constant .none j p2] pos) (wNone false wa) := by
  refine (pe_cmp (pc_isN ha)).weak ?_
  rintro sg H Q ⟨ep, st, R, Rx, he, hs, hw, hq, hx⟩
  refine ⟨ep, st, _, Rx, he, hs, hw, fun v H' d st' k s r h => ?_, hx⟩
  show Q (V.bl (decide (v = V.non))) H'
  rw [non_dec r]
  exact hq _ _ _ _ k s (Rep_bl.mpr rfl) h
theorem j_notN {j p2} (ha : JE X W a wa) : JE X W (.Compare a [.IsNot] [.Constant .none j p2] pos) (wNone true wa) := by
  refine (pe_cmp (pc_notN ha)).weak ?_
  rintro sg H Q ⟨ep, st, R, Rx, he, hs, hw, hq, hx⟩
  refine ⟨ep, st, _, Rx, he, hs, hw, fun v H' d st' k s r h => ?_, hx⟩
  show Q (V.bl (!decide (v = V.non))) H'
  rw [non_dec r]
  exact hq _ _ _ _ k s (Rep_bl.mpr rfl) h
abbrev ltD : F2 := cmpD fun i j => decide (i < j)
abbrev leD : F2 := cmpD fun i j => decide (i ≤ j)
abbrev gtD : F2 := cmpD fun i j => decide (j < i)
abbrev geD : F2 := cmpD fun i j => decide (j ≤ i)
end
/-! ### and, or, not, if -/
def wTru (f : D → DS → (Bool → DS → Prop) → Prop) (wa : WE) : WT := fun ep st R Rx => wa ep st (fun d st' => f d st' R) Rx
def wB (wa : WE) : WT := fun ep st R Rx => wa ep st (fun d st' => asB d fun b => R b st') Rx
def wAnd (a b : WT) : WT := fun ep st R Rx => a ep st (fun c st' => cnd c (fun _ => b ep st' R Rx) (fun _ => R false st')) Rx
def wOr (a b : WT) : WT := fun ep st R Rx => a ep st (fun c st' => cnd c (fun _ => R true st') (fun _ => b ep st' R Rx)) Rx
def wNot (a : WT) : WT := fun ep st R Rx => a ep st (fun c st' => R (!c) st') Rx
def wTV (a : WT) : WE := fun ep st R Rx => a ep st (fun c st' => R (.bl c) st') Rx
def wIfE (c : WT) (a b : WE) : WE := fun ep st R Rx => c ep st (fun t st' => cnd t (fun _ => a ep st' R Rx) (fun _ => b ep st' R Rx)) Rx
section
variable {X : Cx} {W : WX} {a b : Expr} {wa wb : WE} {ta tb : WT} {rest : List Expr} {pos : Pos}
theorem jt_val (h : JE X W a wa) (he : ∀ whole, isTrue a X.env whole = (do let v ← whole; standAt a.pos; holding [v] (truthy v)) := by intro _; rfl) : JT X W a (wB wa) := by
  refine (pt_val h he).weak ?_
  rintro sg H Q ⟨ep, st, R, Rx, he, hs, hw, hq, hx⟩
  refine ⟨ep, st, _, Rx, he, hs, hw, fun v H' d st' k s r h => ?_, hx⟩
  cases d with
  | bl b => exact ⟨b, Rep_bl.mp r, hq b H' st' k s h⟩
  | _ => exact h.elim
theorem jw_and1 (ha : JT X W a ta) : JW X W (.BoolOp .And [a] pos) ta := pw_and1 ha
theorem jw_or1 (ha : JT X W a ta) : JW X W (.BoolOp .Or [a] pos) ta := pw_or1 ha
theorem jw_and (ha : JT X W a ta) (hb : JW X W (.BoolOp .And (b :: rest) pos) tb) : JW X W (.BoolOp .And (a :: b :: rest) pos) (wAnd ta tb) := by
  refine (pw_and ha hb).weak ?_
  rintro sg H Q ⟨ep, st, R, Rx, he, hs, hw, hq, hx⟩
  refine ⟨ep, st, _, Rx, he, hs, hw, fun c H1 st1 k s h => ?_, hx⟩
  cases c with
  | true => exact ⟨ep, st1, R, Rx, he.keep k, s, h.1 rfl, fun b H2 st2 k2 => hq b H2 st2 (k.trans k2), hx.keep k⟩
  | false => exact hq false H1 st1 k s (h.2 rfl)
theorem jw_or (ha : JT X W a ta) (hb : JW X W (.BoolOp .Or (b :: rest) pos) tb) : JW X W (.BoolOp .Or (a :: b :: rest) pos) (wOr ta tb) := by
  refine (pw_or ha hb).weak ?_
  rintro sg H Q ⟨ep, st, R, Rx, he, hs, hw, hq, hx⟩
  refine ⟨ep, st, _, Rx, he, hs, hw, fun c H1 st1 k s h => ?_, hx⟩
  cases c with
  | false => exact ⟨ep, st1, R, Rx, he.keep k, s, h.2 rfl, fun b H2 st2 k2 => hq b H2 st2 (k.trans k2), hx.keep k⟩
  | true => exact hq true H1 st1 k s (h.1 rfl)
theorem jw_t {e : Expr} (h : JW X W e ta) : JT X W e ta := PW.pt h
theorem jt_not (ha : JT X W a ta) : JT X W (.UnaryOp .Not a pos) (wNot ta) := by
  refine (pt_not ha).weak ?_
  rintro sg H Q ⟨ep, st, R, Rx, he, hs, hw, hq, hx⟩
  exact ⟨ep, st, _, Rx, he, hs, hw, fun c H1 st1 k s h => hq (!c) H1 st1 k s h, hx⟩
/-- as values: all parts are True or False -/
theorem je_one {op} (h : JE X W a wa) : JE X W (.BoolOp op [a] pos) wa := pe_one h
theorem je_and (ha : JE X W a wa) (hb : JE X W (.BoolOp .And (b :: rest) pos) wb) : JE X W (.BoolOp .And (a :: b :: rest) pos)
    (fun ep st R Rx => wB wa ep st (fun c st' => cnd c (fun _ => wb ep st' R Rx) (fun _ => R (.bl false) st')) Rx) := by
  refine (pe_and ha hb).weak ?_
  rintro sg H Q ⟨ep, st, R, Rx, he, hs, hw, hq, hx⟩
  refine ⟨ep, st, _, Rx, he, hs, hw, fun v H1 d st1 k s r h => ?_, hx⟩
  cases d with
  | bl c =>
    refine ⟨c, Rep_bl.mp r, ?_⟩
    cases c with
    | true => exact ⟨ep, st1, R, Rx, he.keep k, s, h.1 rfl, hq.keep k, hx.keep k⟩
    | false => exact hq _ H1 _ st1 k s (Rep_bl.mpr rfl) (h.2 rfl)
  | _ => exact h.elim
theorem je_or (ha : JE X W a wa) (hb : JE X W (.BoolOp .Or (b :: rest) pos) wb) : JE X W (.BoolOp .Or (a :: b :: rest) pos)
    (fun ep st R Rx => wB wa ep st (fun c st' => cnd c (fun _ => R (.bl true) st') (fun _ => wb ep st' R Rx)) Rx) := by
  refine (pe_or ha hb).weak ?_
  rintro sg H Q ⟨ep, st, R, Rx, he, hs, hw, hq, hx⟩
  refine ⟨ep, st, _, Rx, he, hs, hw, fun v H1 d st1 k s r h => ?_, hx⟩
  cases d with
  | bl c =>
    refine ⟨c, Rep_bl.mp r, ?_⟩
    cases c with
    | false => exact ⟨ep, st1, R, Rx, he.keep k, s, h.2 rfl, hq.keep k, hx.keep k⟩
    | true => exact hq _ H1 _ st1 k s (Rep_bl.mpr rfl) (h.1 rfl)
  | _ => exact h.elim
theorem je_not (ha : JE X W a wa) : JE X W (.UnaryOp .Not a pos) (fun ep st R Rx => wB wa ep st (fun c st' => R (.bl (!c)) st') Rx) := by
  refine (pe_not ha).weak ?_
  rintro sg H Q ⟨ep, st, R, Rx, he, hs, hw, hq, hx⟩
  refine ⟨ep, st, _, Rx, he, hs, hw, fun v H1 d st1 k s r h => ?_, hx⟩
  cases d with
  | bl c => exact ⟨c, Rep_bl.mp r, hq _ H1 _ st1 k s (Rep_bl.mpr rfl) h⟩
  | _ => exact h.elim
theorem je_if {c : Expr} {tc : WT} (hc : JT X W c tc) (ha : JE X W a wa) (hb : JE X W b wb) : JE X W (.IfExp c a b pos) (wIfE tc wa wb) := by
  refine (pe_ifExp hc ha hb).weak ?_
  rintro sg H Q ⟨ep, st, R, Rx, he, hs, hw, hq, hx⟩
  refine ⟨ep, st, _, Rx, he, hs, hw, fun t H1 st1 k s h => ?_, hx⟩
  cases t with
  | true => exact ⟨ep, st1, R, Rx, he.keep k, s, h.1 rfl, hq.keep k, hx.keep k⟩
  | false => exact ⟨ep, st1, R, Rx, he.keep k, s, h.2 rfl, hq.keep k, hx.keep k⟩
theorem je_neg (ha : JE X W a wa) : JE X W (.UnaryOp .USub a pos) (fun ep st R Rx => wa ep st (fun d st' => asI d fun i => R (.int (-i)) st') Rx) := by
  refine (pe_un un_neg ha).weak ?_
  rintro sg H Q ⟨ep, st, R, Rx, he, hs, hw, hq, hx⟩
  refine ⟨ep, st, _, Rx, he, hs, hw, fun v H1 d st1 k s r h => ?_, hx⟩
  cases d with
  | int c => exact ⟨c, Rep_int.mp r, hq _ H1 _ st1 k s (Rep_int.mpr rfl) h⟩
  | _ => exact h.elim
end
end DL

namespace DL
open PySem PySem.Spec PyProof.Rows L2

/-! ### argument lists, displays -/
def wANil : WA := fun _ st R _ => R [] st
def wACons (w : WE) (ws : WA) : WA := fun ep st R Rx => w ep st (fun d st1 => ws ep st1 (fun ds st2 => R (d :: ds) st2) Rx) Rx
def kD : L2.Key → D
  | .inl i => .int i
  | .inr x => .str x
theorem reps_kD {K : PySem.W.Frag} {H : Hp} : ∀ {ks : List L2.Key} {vs : List V}, Reps K H (ks.map kD) vs ↔ vs = ks.map kV
  | [], vs => by rw [List.map_nil, List.map_nil, Reps_nil]
  | k :: ks, vs => by
    rw [List.map_cons, List.map_cons, Reps_cons]
    have e : ∀ v, Rep K H (kD k) v ↔ v = kV k := fun v => by cases k <;> first | exact Rep_int | exact Rep_str
    constructor
    · rintro ⟨v, r, rfl, h1, h2⟩
      rw [(e v).mp h1, reps_kD.mp h2]
    · rintro rfl
      exact ⟨_, _, rfl, (e _).mpr rfl, reps_kD.mpr rfl⟩
def wTup (wa : WA) : WE := fun ep st R Rx => wa ep st (fun ds st' => R (.tup ds) st' ∨ ∃ ks : List L2.Key, ds = ks.map kD ∧ R (.key ks) st') Rx
def wLst (wa : WA) : WE := fun ep st R Rx => wa ep st (fun ds st' => ∀ p, st' p = none → R (.ref p) (put st' p (.lst ds))) Rx
section
variable {X : Cx} {W : WX} {e : Expr} {es : List Expr} {w : WE} {ws : WA} {n : Nat} {pos : Pos}
theorem ja_nil : JA X W 0 [] wANil := by
  refine pa_nil.weak ?_
  rintro sg H Q ⟨ep, st, R, Rx, he, hs, hw, hq, hx⟩
  exact hq [] H [] st rfl .refl hs Reps.nil hw
theorem ja_cons (h : JE X W e w) (t : JA X W n es ws) (hst : starEach (e :: es) X.env = (false, eval e X.env) :: starEach es X.env := by rfl) : JA X W (n + 1) (e :: es) (wACons w ws) := by
  refine (pa_cons h t hst).weak ?_
  rintro sg H Q ⟨ep, st, R, Rx, he, hs, hw, hq, hx⟩
  refine ⟨ep, st, _, Rx, he, hs, hw, fun v H1 d st1 k s r h => ?_, hx⟩
  exact ⟨ep, st1, _, Rx, he.keep k, s, h, fun vs H2 ds st2 hl k2 s2 r2 h2 => hq (v :: vs) H2 (d :: ds) st2 (by rw [List.length_cons, hl]) (k.trans k2) s2 (.cons (r.keep k2) r2) h2, hx.keep k⟩
theorem je_tup {x1} (h : JA X W n es ws) (hn : n ≤ sizeLine := by decide) : JE X W (.Tuple es x1 pos) (wTup ws) := by
  refine (pe_tup h).weak ?_
  rintro sg H Q ⟨ep, st, R, Rx, he, hs, hw, hq, hx⟩
  refine ⟨ep, st, _, Rx, he, hs, hw, fun vs H1 ds st1 hl k s r h => ⟨by rw [← r.length, hl]; exact hn, fun p hp => ?_⟩, hx⟩
  have k2 : Keep X.K H1 st1 (upd H1 p (.tup vs)) st1 := Keep.untold hp _
  rcases h with h | ⟨ks, rfl, h⟩
  · exact hq _ _ _ _ (k.trans k2) (s.untold hp _) (Rep_tup.mpr ⟨p, vs, rfl, .inl (.inl upd_same), r.keep k2⟩) h
  · rw [reps_kD.mp r] at k2 ⊢
    exact hq _ _ _ _ (k.trans k2) (s.untold hp _) (Rep_key.mpr ⟨p, rfl, upd_same⟩) h
theorem je_lst (h : JA X W n es ws) (hn : n ≤ sizeLine := by decide) : JE X W (.List es pos) (wLst ws) := by
  refine (pe_lst h).weak ?_
  rintro sg H Q ⟨ep, st, R, Rx, he, hs, hw, hq, hx⟩
  refine ⟨ep, st, _, Rx, he, hs, hw, fun vs H1 ds st1 hl k s r h => ⟨by rw [← r.length, hl]; exact hn, fun p hp => ?_⟩, hx⟩
  have k2 : Keep X.K H1 st1 (upd H1 p (.lst vs)) (put st1 p (.lst ds)) := Keep.told hp _ _
  exact hq _ _ _ _ (k.trans k2) (s.told hp ⟨vs, upd_same, r.keep k2⟩) (Rep_ref.mpr rfl) (h p (s.free hp))
end

/-! ### subscripts -/
def ixD : F2 := fun x y st R => match x, y with
  | .key ks, .int i => optP (atI (ks.map kD) i) fun d => R d st
  | .tup ds, .int i => optP (atI ds i) fun d => R d st
  | .scr ds, .int i => optP (atI ds i) fun d => R d st
  | .ref a, .int i => getL st a fun ds => optP (atI ds i) fun d => R d st
  | .str z, .int i => z.length ≤ sizeLine ∧ optP (atI z.cps.toList i) fun c => R (.str ⟨#[c]⟩) st
  | _, _ => False
theorem atI_rep {K : PySem.W.Frag} {H : Hp} {ds : List D} {vs : List V} {i : Int} {d : D} (r : Reps K H ds vs) (h : atI ds i = some d) : ∃ v, atI vs i = some v ∧ Rep K H d v := by
  unfold atI at h ⊢
  rw [← r.length]
  cases e : ixN ds.length i with
  | none => rw [e] at h; cases h
  | some j =>
    rw [e] at h
    obtain ⟨v, h1, h2⟩ := r.get (show ds[j]? = some d from h)
    exact ⟨v, h1, h2⟩
theorem sim_ix {K : PySem.W.Frag} : Sim2 K (rIx K) ixD := by
  intro H st x y dx dy R Q hs rx ry hf hq
  cases dy with
  | int i =>
    cases dx with
    | key ks =>
      obtain ⟨d, h1, h2⟩ := optP_inv hf
      obtain ⟨a, rfl, t⟩ := Rep_key.mp rx
      obtain ⟨v, e1, r1⟩ := atI_rep (reps_kD.mpr rfl) h1
      exact .inr (.inl ⟨a, _, i, v, rfl, Rep_int.mp ry, .inl (.inl t), e1, hq _ _ _ _ .refl hs r1 h2⟩)
    | tup ds =>
      obtain ⟨d, h1, h2⟩ := optP_inv hf
      obtain ⟨a, vs, rfl, t, q⟩ := Rep_tup.mp rx
      obtain ⟨v, e1, r1⟩ := atI_rep q h1
      exact .inr (.inl ⟨a, vs, i, v, rfl, Rep_int.mp ry, t, e1, hq _ _ _ _ .refl hs r1 h2⟩)
    | scr ds =>
      obtain ⟨d, h1, h2⟩ := optP_inv hf
      obtain ⟨a, vs, rfl, t, q⟩ := Rep_scr.mp rx
      obtain ⟨v, e1, r1⟩ := atI_rep q h1
      exact .inl ⟨a, vs, i, v, rfl, Rep_int.mp ry, t.sq, e1, hq _ _ _ _ .refl hs r1 h2⟩
    | ref a =>
      obtain ⟨ds, h0, hf⟩ := getL_inv hf
      obtain ⟨d, h1, h2⟩ := optP_inv hf
      obtain ⟨vs, t, q⟩ := hs a _ h0
      obtain ⟨v, e1, r1⟩ := atI_rep q h1
      exact .inl ⟨a, vs, i, v, Rep_ref.mp rx, Rep_int.mp ry, SqL.of t, e1, hq _ _ _ _ .refl hs r1 h2⟩
    | str z =>
      obtain ⟨h0, hf⟩ := hf
      obtain ⟨c, h1, h2⟩ := optP_inv hf
      exact .inr (.inr ⟨z, i, c, Rep_str.mp rx, Rep_int.mp ry, h0, h1, hq _ _ _ _ .refl hs (Rep_str.mpr rfl) h2⟩)
    | _ => exact hf.elim
  | _ => cases dx <;> exact hf.elim
theorem j_ix {X : Cx} {W : WX} {a b : Expr} {wa wb : WE} {pos : Pos} (ha : JE X W a wa) (hb : JE X W b wb) (hs : PlainIx b := by intro _ _; rfl) : JE X W (.Subscript a b pos) (wBin ixD wa wb) :=
  (pe_ix ix_seq ha hb hs).weak (tw_bin sim_ix)
@[simp] theorem atI_0 {α : Type} (a : α) (l : List α) : atI (a :: l) 0 = some a := atI_nat (j := 0) rfl
@[simp] theorem atI_1 {α : Type} (a b : α) (l : List α) : atI (a :: b :: l) 1 = some b := atI_nat (j := 1) rfl
@[simp] theorem atI_2 {α : Type} (a b c : α) (l : List α) : atI (a :: b :: c :: l) 2 = some c := atI_nat (j := 2) rfl
@[simp] theorem atI_3 {α : Type} (a b c d : α) (l : List α) : atI (a :: b :: c :: d :: l) 3 = some d := atI_nat (j := 3) rfl
@[simp] theorem atI_4 {α : Type} (a b c d e : α) (l : List α) : atI (a :: b :: c :: d :: e :: l) 4 = some e := atI_nat (j := 4) rfl

/-! ### slices -/
abbrev WO := DE → DS → (Option Int → DS → Prop) → RX → Prop
def twO (K : PySem.W.Frag) (W : WX) (w : WO) : TO := fun sg H Q => ∃ ep st R Rx, RepE K H ep sg ∧ RepS K H st ∧ w ep st R Rx ∧ (∀ o H' st', Keep K H st H' st' → RepS K H' st' → R o st' → Q o H') ∧ OkX K W sg H st Rx
def wONone : WO := fun _ st R _ => R none st
def wOSome (w : WE) : WO := fun ep st R Rx => w ep st (fun d st' => asI d fun i => R (some i) st') Rx
def cutD (ds : List D) (lo hi : Option Int) : List D := (ds.drop (HT.sIx ds.length 0 lo)).take (HT.sIx ds.length ds.length hi - HT.sIx ds.length 0 lo)
def slD (x : D) (lo hi : Option Int) (st : DS) (R : RD) : Prop := match x with
  | .tup ds => R (.tup (cutD ds lo hi)) st
  | .ref a => getL st a fun ds => ∀ p, st p = none → R (.ref p) (put st p (.lst (cutD ds lo hi)))
  | .str z => z.length ≤ sizeLine ∧ R (.str (cutS z lo hi)) st
  | _ => False
def wSl (wa : WE) (wl wh : WO) : WE := fun ep st R Rx => wa ep st (fun x st1 => wl ep st1 (fun lo st2 => wh ep st2 (fun hi st3 => slD x lo hi st3 R) Rx) Rx) Rx
theorem cut_whole {ds : List D} {lo hi : Option Int} (h : HT.sIx ds.length 0 lo = 0 ∧ HT.sIx ds.length ds.length hi = ds.length) : cutD ds lo hi = ds := by
  unfold cutD
  rw [h.1, h.2, List.drop_zero, Nat.sub_zero, List.take_length]
theorem Reps.cut {K : PySem.W.Frag} {H : Hp} {ds : List D} {vs : List V} (r : Reps K H ds vs) (lo hi : Option Int) : Reps K H (cutD ds lo hi) (cutV vs lo hi) := by
  unfold cutD cutV
  rw [← r.length]
  exact (r.drop _).take _
section
variable {X : Cx} {W : WX} {a : Expr} {wa : WE} {wl wh : WO} {lo hi : Option Expr} {pos p2 : Pos}
theorem jo_none : PO X none (twO X.K W wONone) := by
  refine ⟨fun pins s sg H Q I h => po_none.run pins s sg H Q I ?_⟩
  obtain ⟨ep, st, R, Rx, he, hs, hw, hq, hx⟩ := h
  exact hq none H st .refl hs hw
theorem jo_some {e : Expr} {w : WE} (h : JE X W e w) : PO X (some e) (twO X.K W (wOSome w)) := by
  refine ⟨fun pins s sg H Q I hh => (po_some h).run pins s sg H Q I ?_⟩
  obtain ⟨ep, st, R, Rx, he, hs, hw, hq, hx⟩ := hh
  refine ⟨ep, st, _, Rx, he, hs, hw, fun v H' d st' k s r h => ?_, hx⟩
  cases d with
  | int i => exact ⟨i, Rep_int.mp r, hq _ H' st' k s h⟩
  | _ => exact h.elim
theorem j_sl (ha : JE X W a wa) (hl : PO X lo (twO X.K W wl)) (hh : PO X hi (twO X.K W wh)) : JE X W (.Subscript a (.Slice lo hi none p2) pos) (wSl wa wl wh) := by
  refine (pe_slice ((sl_list.or sl_tupA).or sl_str) ha hl hh).weak ?_
  rintro sg H Q ⟨ep, st, R, Rx, he, hs, hw, hq, hx⟩
  refine ⟨ep, st, _, Rx, he, hs, hw, fun x H1 d st1 k s r h => ?_, hx⟩
  refine ⟨ep, st1, _, Rx, he.keep k, s, h, fun l H2 st2 k2 s2 h2 => ?_, hx.keep k⟩
  refine ⟨ep, st2, _, Rx, (he.keep k).keep k2, s2, h2, fun u H3 st3 k3 s3 h3 => ?_, (hx.keep k).keep k2⟩
  have r3 := (r.keep k2).keep k3
  have kk := (k.trans k2).trans k3
  cases d with
  | tup ds =>
    obtain ⟨b, vs, rfl, t, q⟩ := Rep_tup.mp r3
    refine .inl (.inr ⟨b, vs, rfl, t, fun hw => ?_, fun _ p hp => ?_⟩)
    · refine hq _ _ _ _ kk s3 (Rep_tup.mpr ⟨b, vs, rfl, t, ?_⟩) h3
      rw [cut_whole (by rw [q.length]; exact hw)]; exact q
    · have k4 : Keep X.K H3 st3 (upd H3 p (.tup (cutV vs l u))) st3 := Keep.untold hp _
      exact hq _ _ _ _ (kk.trans k4) (s3.untold hp _) (Rep_tup.mpr ⟨p, _, rfl, .inl (.inl upd_same), (q.cut l u).keep k4⟩) h3
  | ref b =>
    obtain ⟨ds, e, h4⟩ := getL_inv h3
    obtain ⟨vs, e1, q⟩ := s3 b _ e
    refine .inl (.inl ⟨b, vs, Rep_ref.mp r3, SqL.of e1, fun p hp => ?_⟩)
    have k4 : Keep X.K H3 st3 (upd H3 p (.lst (cutV vs l u))) (put st3 p (.lst (cutD ds l u))) := Keep.told hp _ _
    exact hq _ _ _ _ (kk.trans k4) (s3.told hp ⟨_, upd_same, (q.cut l u).keep k4⟩) (Rep_ref.mpr rfl) (h4 p (s3.free hp))
  | str z => exact .inr ⟨z, Rep_str.mp r3, h3.1, hq _ _ _ _ kk s3 (Rep_str.mpr rfl) h3.2⟩
  | _ => exact h3.elim
end

/-! ### calls of built-in functions -/
abbrev FC := List D → DS → RD → Prop
def wCB (f : FC) (wa : WA) : WE := fun ep st R Rx => wa ep st (fun ds st' => f ds st' R) Rx
def SimC (K : PySem.W.Frag) (r : List V → Hp → VK → Prop) (f : FC) : Prop := ∀ H st vs ds R Q, RepS K H st → Reps K H ds vs → f ds st R → OkQ K H st R Q → r vs H Q
section
variable {X : Cx} {W : WX} {K : PySem.W.Frag} {x : Str} {p pos : Pos} {e : Expr} {es : List Expr} {wa : WA} {n : Nat} {id T : String} {r : List V → Hp → VK → Prop} {f : FC}
theorem tw_cb (hf : SimC K r f) : ∀ sg H Q, twE K W (wCB f wa) sg H Q → tCB r (twA K W n wa) sg H Q := by
  rintro sg H Q ⟨ep, st, R, Rx, he, hs, hw, hq, hx⟩
  exact ⟨ep, st, _, Rx, he, hs, hw, fun vs H1 ds st1 hl k s q h => hf H1 st1 vs ds R Q s q h (hq.keep k), hx⟩
theorem j_callB (hc : CallR X (.builtin id) r) (hf : SimC X.K r f) (hm : X.mg x = none) (hv : bootBuiltins x = some (.builtin id)) (ha : JA X W n (e :: es) wa) (hg : Gl X x := by rfl) (hn : x ≠ "__name__" := by decide) (hdb : (x == ("__debug__" : Str)) = false := by decide)
    (he : starEach (e :: es) X.env = (false, eval e X.env) :: starEach es X.env := by rfl) (hpl : (backTo pos (starEach es X.env)).any (·.1) = false := by rfl) : JE X W (.Call (.Name x p) (e :: es) [] pos) (wCB f wa) :=
  (pe_callB hc hg hm hv ha hn hdb he hpl).weak (tw_cb hf)
theorem j_callTy (hc : CallR X (.type T) r) (hf : SimC X.K r f) (hm : X.mg x = none) (hv : bootBuiltins x = some (.type T)) (ha : JA X W n (e :: es) wa) (hg : Gl X x := by rfl) (hn : x ≠ "__name__" := by decide) (hdb : (x == ("__debug__" : Str)) = false := by decide)
    (he : starEach (e :: es) X.env = (false, eval e X.env) :: starEach es X.env := by rfl) (hpl : (backTo pos (starEach es X.env)).any (·.1) = false := by rfl) : JE X W (.Call (.Name x p) (e :: es) [] pos) (wCB f wa) :=
  (pe_callTy hc hg hm hv ha hn hdb he hpl).weak (tw_cb hf)
theorem j_callF (hc : CallR X (.builtin id) r) (hf : SimC X.K r f) (hm : X.mg x = some (.builtin id)) (ha : JA X W n (e :: es) wa) (hg : Gl X x := by rfl) (hdb : (x == ("__debug__" : Str)) = false := by decide)
    (he : starEach (e :: es) X.env = (false, eval e X.env) :: starEach es X.env := by rfl) (hpl : (backTo pos (starEach es X.env)).any (·.1) = false := by rfl) : JE X W (.Call (.Name x p) (e :: es) [] pos) (wCB f wa) :=
  (pe_callBfun hc hg hm ha hdb he hpl).weak (tw_cb hf)
/-- len -/
def lenD : FC := fun ds st R => match ds with
  | [.str z] => z.length ≤ sizeLine ∧ R (.int z.length) st
  | [.tup es] => R (.int es.length) st
  | [.key es] => R (.int es.length) st
  | [.scr es] => R (.int es.length) st
  | [.ref a] => getL st a fun es => R (.int es.length) st
  | _ => False
theorem sim_len : SimC K (fun xs H Q => ∃ x n, xs = [x] ∧ LenV K x H n ∧ Q (.int n) H) lenD := by
  intro H st vs ds R Q hs rs hf hq
  match ds, hf with
  | [d], hf =>
    obtain ⟨v, t, rfl, r, r2⟩ := Reps_cons.mp rs
    rw [Reps_nil.mp r2]
    cases d with
    | str z => exact ⟨v, z.length, rfl, by rw [Rep_str.mp r]; exact ⟨hf.1, rfl⟩, hq _ _ _ _ .refl hs (Rep_int.mpr rfl) hf.2⟩
    | tup es =>
      obtain ⟨a, us, rfl, t, q⟩ := Rep_tup.mp r
      exact ⟨_, es.length, rfl, .inr ⟨us, t, q.length⟩, hq _ _ _ _ .refl hs (Rep_int.mpr rfl) hf⟩
    | key es =>
      obtain ⟨a, rfl, t⟩ := Rep_key.mp r
      exact ⟨_, es.length, rfl, .inr ⟨_, .inl (.inl t), (List.length_map ..).symm⟩, hq _ _ _ _ .refl hs (Rep_int.mpr rfl) hf⟩
    | scr es =>
      obtain ⟨a, us, rfl, t, q⟩ := Rep_scr.mp r
      exact ⟨_, es.length, rfl, .inl ⟨us, t.sq, q.length⟩, hq _ _ _ _ .refl hs (Rep_int.mpr rfl) hf⟩
    | ref a =>
      obtain ⟨es, e, h⟩ := getL_inv hf
      obtain ⟨us, e1, q⟩ := hs a _ e
      exact ⟨v, es.length, rfl, by rw [Rep_ref.mp r]; exact .inl ⟨us, SqL.of e1, q.length⟩, hq _ _ _ _ .refl hs (Rep_int.mpr rfl) h⟩
    | _ => exact hf.elim
  | a :: b :: c, hf => cases a <;> exact hf.elim
theorem j_len (hm : X.mg "len" = none) {p pos : Pos} {wa : WA} (ha : JA X W n [e] wa) (hg : Gl X "len" := by rfl) (he : starEach [e] X.env = (false, eval e X.env) :: starEach [] X.env := by rfl) : JE X W (.Call (.Name "len" p) [e] [] pos) (wCB lenD wa) :=
  j_callB call_len sim_len hm PySem.boot_len ha hg (by decide) (by decide) he rfl
/-- abs -/
def absD : FC := fun ds st R => match ds with
  | [.int i] => R (.int (if i < 0 then -i else i)) st
  | _ => False
theorem sim_abs : SimC K (fun xs H Q => ∃ i, xs = [.int i] ∧ Q (.int (if i < 0 then -i else i)) H) absD := by
  intro H st vs ds R Q hs rs hf hq
  match ds, hf with
  | [.int i], hf =>
    obtain ⟨v, t, rfl, r, r2⟩ := Reps_cons.mp rs
    rw [Reps_nil.mp r2, Rep_int.mp r]
    exact ⟨i, rfl, hq _ _ _ _ .refl hs (Rep_int.mpr rfl) hf⟩
theorem j_abs (hm : X.mg "abs" = none) {p pos : Pos} {wa : WA} (ha : JA X W n [e] wa) (hg : Gl X "abs" := by rfl) (he : starEach [e] X.env = (false, eval e X.env) :: starEach [] X.env := by rfl) : JE X W (.Call (.Name "abs" p) [e] [] pos) (wCB absD wa) :=
  j_callB call_abs sim_abs hm (by decide +kernel) ha hg (by decide) (by decide) he rfl
/-- int of a number or a truth value -/
def intD : FC := fun ds st R => match ds with
  | [.int i] => R (.int i) st
  | [.bl b] => R (.int (if b = true then 1 else 0)) st
  | _ => False
theorem sim_intc : SimC K (fun xs H Q => (∃ i, xs = [.int i] ∧ Q (.int i) H) ∨ ∃ k, xs = [.bl k] ∧ Q (.int (if k then 1 else 0)) H) intD := by
  intro H st vs ds R Q hs rs hf hq
  match ds, hf with
  | [.int i], hf =>
    obtain ⟨v, t, rfl, r, r2⟩ := Reps_cons.mp rs
    rw [Reps_nil.mp r2, Rep_int.mp r]
    exact .inl ⟨i, rfl, hq _ _ _ _ .refl hs (Rep_int.mpr rfl) hf⟩
  | [.bl b], hf =>
    obtain ⟨v, t, rfl, r, r2⟩ := Reps_cons.mp rs
    rw [Reps_nil.mp r2, Rep_bl.mp r]
    exact .inr ⟨b, rfl, hq _ _ _ _ .refl hs (Rep_int.mpr rfl) hf⟩
theorem j_int (hm : X.mg "int" = none) {p pos : Pos} {wa : WA} (ha : JA X W n [e] wa) (hg : Gl X "int" := by rfl) (he : starEach [e] X.env = (false, eval e X.env) :: starEach [] X.env := by rfl) : JE X W (.Call (.Name "int" p) [e] [] pos) (wCB intD wa) :=
  j_callTy call_int1 sim_intc hm (by decide +kernel) ha hg (by decide) (by decide) he rfl
/-- list(..), tuple(..) of a list or a tuple -/
def listD : FC := fun ds st R => match ds with
  | [.tup es] => ∀ p, st p = none → R (.ref p) (put st p (.lst es))
  | [.scr es] => ∀ p, st p = none → R (.ref p) (put st p (.lst es))
  | [.ref a] => getL st a fun es => ∀ p, st p = none → R (.ref p) (put st p (.lst es))
  | _ => False
theorem sim_list : SimC K (fun xs H Q => ∃ p ys, xs = [.ref p] ∧ (SqL K H p ys ∨ SqT K H p ys) ∧ ∀ l, H l = none → Q (.ref l) (upd H l (.lst ys))) listD := by
  intro H st vs ds R Q hs rs hf hq
  have fin : ∀ {es : List D} {us : List V}, Reps K H es us → (∀ p, st p = none → R (.ref p) (put st p (.lst es))) → ∀ l, H l = none → Q (.ref l) (upd H l (.lst us)) := fun {es us} q h l hl => by
    have k2 : Keep K H st (upd H l (.lst us)) (put st l (.lst es)) := Keep.told hl _ _
    exact hq _ _ _ _ k2 (hs.told hl ⟨us, upd_same, q.keep k2⟩) (Rep_ref.mpr rfl) (h l (hs.free hl))
  match ds, hf with
  | [.tup es], hf =>
    obtain ⟨v, t, rfl, r, r2⟩ := Reps_cons.mp rs
    obtain ⟨a, us, rfl, t, q⟩ := Rep_tup.mp r
    rw [Reps_nil.mp r2]
    exact ⟨a, us, rfl, .inr t, fin q hf⟩
  | [.scr es], hf =>
    obtain ⟨v, t, rfl, r, r2⟩ := Reps_cons.mp rs
    obtain ⟨a, us, rfl, t, q⟩ := Rep_scr.mp r
    rw [Reps_nil.mp r2]
    exact ⟨a, us, rfl, .inl t.sq, fin q hf⟩
  | [.ref a], hf =>
    obtain ⟨v, t, rfl, r, r2⟩ := Reps_cons.mp rs
    obtain ⟨es, e, h⟩ := getL_inv hf
    obtain ⟨us, e1, q⟩ := hs a _ e
    rw [Reps_nil.mp r2, Rep_ref.mp r]
    exact ⟨a, us, rfl, .inl (SqL.of e1), fin q h⟩
theorem j_list (hm : X.mg "list" = none) {p pos : Pos} {wa : WA} (ha : JA X W n [e] wa) (hg : Gl X "list" := by rfl) (he : starEach [e] X.env = (false, eval e X.env) :: starEach [] X.env := by rfl) : JE X W (.Call (.Name "list" p) [e] [] pos) (wCB listD wa) :=
  j_callTy call_list_of sim_list hm (by decide +kernel) ha hg (by decide) (by decide) he rfl
def tupleD : FC := fun ds st R => match ds with
  | [.tup es] => R (.tup es) st
  | [.scr es] => R (.tup es) st
  | [.ref a] => getL st a fun es => R (.tup es) st
  | _ => False
theorem sim_tuple : SimC K (fun xs H Q => ∃ p ys, xs = [.ref p] ∧ ((SqL K H p ys ∧ ∀ l, H l = none → Q (.ref l) (upd H l (.tup ys))) ∨ (SqT K H p ys ∧ Q (.ref p) H))) tupleD := by
  intro H st vs ds R Q hs rs hf hq
  have fin : ∀ {es : List D} {us : List V}, Reps K H es us → R (.tup es) st → ∀ l, H l = none → Q (.ref l) (upd H l (.tup us)) := fun {es us} q h l hl => by
    have k2 : Keep K H st (upd H l (.tup us)) st := Keep.untold hl _
    exact hq _ _ _ _ k2 (hs.untold hl _) (Rep_tup.mpr ⟨l, us, rfl, .inl (.inl upd_same), q.keep k2⟩) h
  match ds, hf with
  | [.tup es], hf =>
    obtain ⟨v, t, rfl, r, r2⟩ := Reps_cons.mp rs
    obtain ⟨a, us, rfl, t, q⟩ := Rep_tup.mp r
    rw [Reps_nil.mp r2]
    exact ⟨a, us, rfl, .inr ⟨t, hq _ _ _ _ .refl hs (Rep_tup.mpr ⟨a, us, rfl, t, q⟩) hf⟩⟩
  | [.scr es], hf =>
    obtain ⟨v, t, rfl, r, r2⟩ := Reps_cons.mp rs
    obtain ⟨a, us, rfl, t, q⟩ := Rep_scr.mp r
    rw [Reps_nil.mp r2]
    exact ⟨a, us, rfl, .inl ⟨t.sq, fin q hf⟩⟩
  | [.ref a], hf =>
    obtain ⟨v, t, rfl, r, r2⟩ := Reps_cons.mp rs
    obtain ⟨es, e, h⟩ := getL_inv hf
    obtain ⟨us, e1, q⟩ := hs a _ e
    rw [Reps_nil.mp r2, Rep_ref.mp r]
    exact ⟨a, us, rfl, .inl ⟨SqL.of e1, fin q h⟩⟩
theorem j_tuple (hm : X.mg "tuple" = none) {p pos : Pos} {wa : WA} (ha : JA X W n [e] wa) (hg : Gl X "tuple" := by rfl) (he : starEach [e] X.env = (false, eval e X.env) :: starEach [] X.env := by rfl) : JE X W (.Call (.Name "tuple" p) [e] [] pos) (wCB tupleD wa) :=
  j_callTy call_tuple_of sim_tuple hm (by decide +kernel) ha hg (by decide) (by decide) he rfl
/-- math.gcd -/
def gcdD : FC := fun ds st R => match ds with
  | [.int a, .int b] => R (.int ((Nat.gcd a.natAbs b.natAbs : Nat) : Int)) st
  | _ => False
theorem sim_gcd : SimC K rGcd gcdD := by
  intro H st vs ds R Q hs rs hf hq
  match ds, hf with
  | [.int i, .int j], hf =>
    obtain ⟨v, t, rfl, r, r2⟩ := Reps_cons.mp rs
    obtain ⟨v2, t2, rfl, r3, r4⟩ := Reps_cons.mp r2
    rw [Reps_nil.mp r4, Rep_int.mp r, Rep_int.mp r3]
    exact ⟨i, j, rfl, hq _ _ _ _ .refl hs (Rep_int.mpr rfl) hf⟩
theorem j_gcd (hm : X.mg "gcd" = some (.builtin "math.gcd")) {p pos : Pos} {e2 : Expr} {wa : WA} (ha : JA X W n [e, e2] wa) (hg : Gl X "gcd" := by rfl) (he : starEach [e, e2] X.env = (false, eval e X.env) :: starEach [e2] X.env := by rfl) (hpl : (backTo pos (starEach [e2] X.env)).any (·.1) = false := by rfl) : JE X W (.Call (.Name "gcd" p) [e, e2] [] pos) (wCB gcdD wa) :=
  j_callF cr_gcd sim_gcd hm ha hg (by decide) he hpl
/-- the bools of a list -/
def boolsOf : List D → Option (List Bool)
  | [] => some []
  | .bl b :: r => (boolsOf r).map (b :: ·)
  | _ :: _ => none
theorem bools_rep {H : Hp} : ∀ {ds : List D} {vs : List V} {bs : List Bool}, boolsOf ds = some bs → Reps K H ds vs → vs = bs.map V.bl
  | [], _, _, e, r => by
    rw [Reps_nil.mp r]
    unfold boolsOf at e; cases e; rfl
  | d :: ds, _, bs, e, r => by
    obtain ⟨v, t, rfl, h1, h2⟩ := Reps_cons.mp r
    cases d with
    | bl b =>
      unfold boolsOf at e
      cases q : boolsOf ds with
      | none => rw [q] at e; cases e
      | some cs =>
        rw [q] at e
        cases e
        rw [Rep_bl.mp h1, bools_rep q h2]; rfl
    | _ => cases e
@[simp] theorem boolsOf_map : ∀ bs : List Bool, boolsOf (bs.map D.bl) = some bs
  | [] => rfl
  | b :: bs => by unfold List.map boolsOf; rw [boolsOf_map bs]; rfl
/-- all, any of a list of truth values -/
def allD : FC := fun ds st R => match ds with
  | [.ref a] => getL st a fun es => optP (boolsOf es) fun bs => R (.bl (bs.all fun b => b)) st
  | _ => False
def anyD : FC := fun ds st R => match ds with
  | [.ref a] => getL st a fun es => optP (boolsOf es) fun bs => R (.bl (bs.any fun b => b)) st
  | _ => False
theorem sim_all : SimC K (rAll K) allD := by
  intro H st vs ds R Q hs rs hf hq
  match ds, hf with
  | [.ref a], hf =>
    obtain ⟨v, t, rfl, r, r2⟩ := Reps_cons.mp rs
    obtain ⟨es, e, hf⟩ := getL_inv hf
    obtain ⟨bs, eb, h⟩ := optP_inv hf
    obtain ⟨us, e1, q⟩ := hs a _ e
    rw [Reps_nil.mp r2, Rep_ref.mp r]
    exact ⟨a, bs, rfl, SqL.of (by rw [← bools_rep eb q]; exact e1), hq _ _ _ _ .refl hs (Rep_bl.mpr rfl) h⟩
theorem sim_any : SimC K (rAny K) anyD := by
  intro H st vs ds R Q hs rs hf hq
  match ds, hf with
  | [.ref a], hf =>
    obtain ⟨v, t, rfl, r, r2⟩ := Reps_cons.mp rs
    obtain ⟨es, e, hf⟩ := getL_inv hf
    obtain ⟨bs, eb, h⟩ := optP_inv hf
    obtain ⟨us, e1, q⟩ := hs a _ e
    rw [Reps_nil.mp r2, Rep_ref.mp r]
    exact ⟨a, bs, rfl, SqL.of (by rw [← bools_rep eb q]; exact e1), hq _ _ _ _ .refl hs (Rep_bl.mpr rfl) h⟩
theorem j_all (hm : X.mg "all" = none) {p pos : Pos} {wa : WA} (ha : JA X W n [e] wa) (hc : X.calm = true := by rfl) (hg : Gl X "all" := by rfl) (he : starEach [e] X.env = (false, eval e X.env) :: starEach [] X.env := by rfl) : JE X W (.Call (.Name "all" p) [e] [] pos) (wCB allD wa) :=
  j_callB (cr_all hc) sim_all hm (by decide +kernel) ha hg (by decide) (by decide) he rfl
theorem j_any (hm : X.mg "any" = none) {p pos : Pos} {wa : WA} (ha : JA X W n [e] wa) (hc : X.calm = true := by rfl) (hg : Gl X "any" := by rfl) (he : starEach [e] X.env = (false, eval e X.env) :: starEach [] X.env := by rfl) : JE X W (.Call (.Name "any" p) [e] [] pos) (wCB anyD wa) :=
  j_callB (cr_any hc) sim_any hm (by decide +kernel) ha hg (by decide) (by decide) he rfl
def intsOf : List D → Option (List Int)
  | [] => some []
  | .int b :: r => (intsOf r).map (b :: ·)
  | _ :: _ => none
@[simp] theorem intsOf_map : ∀ bs : List Int, intsOf (bs.map D.int) = some bs
  | [] => rfl
  | b :: bs => by unfold List.map intsOf; rw [intsOf_map bs]; rfl
theorem intsOf_inv : ∀ {ds : List D} {ns : List Int}, intsOf ds = some ns → ds = ns.map D.int
  | [], _, e => by unfold intsOf at e; cases e; rfl
  | d :: ds, ns, e => by
    cases d with
    | int b =>
      unfold intsOf at e
      cases q : intsOf ds with
      | none => rw [q] at e; cases e
      | some cs =>
        rw [q] at e
        cases e
        rw [intsOf_inv q]; rfl
    | _ => cases e
/-- sum of a list of ints -/
def sumD : FC := fun ds st R => match ds with
  | [.ref a] => getL st a fun es => optP (intsOf es) fun ns => R (.int ns.sum) st
  | _ => False
theorem sim_sum : SimC K (rSum K) sumD := by
  intro H st vs ds R Q hs rs hf hq
  match ds, hf with
  | [.ref a], hf =>
    obtain ⟨v, t, rfl, r, r2⟩ := Reps_cons.mp rs
    obtain ⟨es, e, hf⟩ := getL_inv hf
    obtain ⟨ns, en, h⟩ := optP_inv hf
    rw [intsOf_inv en] at e
    obtain ⟨us, e1, q⟩ := hs a _ e
    rw [Reps_nil.mp r2, Rep_ref.mp r]
    exact ⟨a, ns, rfl, SqL.of (by rw [← Reps.ints.mp q]; exact e1), hq _ _ _ _ .refl hs (Rep_int.mpr rfl) h⟩
theorem j_sum (hm : X.mg "sum" = none) {p pos : Pos} {wa : WA} (ha : JA X W n [e] wa) (hc : X.calm = true := by rfl) (hg : Gl X "sum" := by rfl) (he : starEach [e] X.env = (false, eval e X.env) :: starEach [] X.env := by rfl) : JE X W (.Call (.Name "sum" p) [e] [] pos) (wCB sumD wa) :=
  j_callB (cr_sum hc) sim_sum hm (by decide +kernel) ha hg (by decide) (by decide) he rfl
end
end DL

namespace DL
open PySem PySem.Spec PyProof.Rows L2

/-! ### a def's promise over data -/
abbrev SpD := List D → DS → RD → RX → Prop
def spOf (K : PySem.W.Frag) (S : SpD) : Sp := fun vs H Q E => ∃ ds st R Rx, Reps K H ds vs ∧ RepS K H st ∧ S ds st R Rx ∧ OkQ K H st R Q ∧
  (∀ x cls dd H' st', Keep K H st H' st' → RepS K H' st' → RepX K H' x cls dd → Rx x st' → E cls dd H')
abbrev FnD (P : Program) (w : World) (K : PySem.W.Frag) (mg : Str → Option Value) (base : Heap) (k : Nat) (f : Addr) (fd : FuncData) (ps : List Str) (S : SpD) : Prop := FnOk P w K mg base (L2.CX P w) k f fd ps (spOf K S)
def wCall (S : SpD) (wa : WA) : WE := fun ep st R Rx => wa ep st (fun ds st' => S ds st' R Rx) Rx
section
variable {X : Cx} {W : WX} {S : SpD} {k n : Nat} {f : Addr} {fd : FuncData} {ps : List Str} {x : Str} {p pos : Pos} {e : Expr} {es : List Expr} {wa : WA}
theorem j_call (F : FnD X.prog X.w X.K X.mg X.base k f fd ps S) (hr : Room k X.A) (hm : X.mg x = some (.ref f)) (hk : PySem.W.keepIn X.K (.ref f) = true) (hb : Binds X.K fd ps []) (tk : Takes X W) (ha : JA X W n (e :: es) wa)
    (hg : Gl X x := by rfl) (hdb : (x == ("__debug__" : Str)) = false := by decide) (he : starEach (e :: es) X.env = (false, eval e X.env) :: starEach es X.env := by rfl) (hpl : (backTo pos (starEach es X.env)).any (·.1) = false := by rfl) :
    JE X W (.Call (.Name x p) (e :: es) [] pos) (wCall S wa) := by
  refine (pe_callS F hr hg hm hk hb (fun sg => passAt tk sg) ha hdb he hpl).weak ?_
  rintro sg H Q ⟨ep, st, R, Rx, he, hs, hw, hq, hx⟩
  exact ⟨ep, st, _, Rx, he, hs, hw, fun vs H1 ds st1 hl k s q h => ⟨ds, st1, R, Rx, q, s, h, hq.keep k, hx.keep k⟩, hx⟩
theorem j_call0 (F : FnD X.prog X.w X.K X.mg X.base k f fd ps S) (hr : Room k X.A) (hm : X.mg x = some (.ref f)) (hk : PySem.W.keepIn X.K (.ref f) = true) (hb : Binds X.K fd ps []) (tk : Takes X W)
    (hg : Gl X x := by rfl) (hdb : (x == ("__debug__" : Str)) = false := by decide) : JE X W (.Call (.Name x p) [] [] pos) (wCall S wANil) := by
  refine ⟨fun pins s sg H Q I h => ?_⟩
  obtain ⟨ep, st, R, Rx, he, hs, hw, hq, hx⟩ := h
  refine wpAny_Call_Name_kw (ld_glob I hg hm ?_ hdb)
  exact PySem.W.callWith_K0 I.kIn hk (run_fnS (us := []) (vs := []) (E := L2.WE W) F hr hb (passAt tk sg) I .nil ⟨[], st, R, Rx, Reps.nil, hs, hw, hq, hx⟩)
end
/-- the slots at the entry -/
def startD (n : Nat) (ds : List D) : DE := ds.map some ++ List.replicate (n - ds.length) none
theorem startD_rep {K : PySem.W.Frag} {H : Hp} {N : List Str} {ds : List D} {vs : List V} (r : Reps K H ds vs) : RepE K H (startD N.length ds) (L2.start N vs) := by
  unfold startD L2.start
  refine ⟨by simp only [List.length_append, List.length_map, List.length_replicate, r.length], fun i d h => ?_⟩
  by_cases hi : i < ds.length
  · rw [List.getElem?_append_left (by simpa using hi), List.getElem?_map] at h
    cases e : ds[i]? with
    | none => rw [e] at h; cases h
    | some d' =>
      rw [e] at h
      have : d' = d := by simpa using h
      subst this
      obtain ⟨v, e1, r1⟩ := r.get e
      refine ⟨v, ?_, r1⟩
      rw [List.getElem?_append_left (by rw [List.length_map, ← r.length]; exact hi), List.getElem?_map, e1]; rfl
  · rw [List.getElem?_append_right (by simpa using hi), List.getElem?_replicate] at h
    split at h <;> cases h
/-- what a def's body is to reach -/
def bodyEd (R : RD) (Rx : RX) : Ed := { nx := fun _ st' => ∃ s2, Sub s2 st' ∧ R .non s2, rt := fun d st' => ∃ s2, Sub s2 st' ∧ R d s2, ex := fun x _ st' => ∃ s2, Sub s2 st' ∧ Rx x s2 }
section
variable {P : Program} {w : World} {K : PySem.W.Frag} {mg : Str → Option Value} {base : Heap}
/-- THE RULE for a def -/
theorem fn_D {x qual : Str} {st0 : Stmt} {f : Addr} {fd : FuncData} {N ps : List Str} {k : Nat} {S : SpD} {wb : WS} (F : Fun K x qual st0 f fd) (Sc : FnScope N ps (defScope st0)) (len : ∀ ds st R Rx, S ds st R Rx → ds.length = ps.length)
    (hbody : ∀ (cdv : Value) (A : Around) (outer : List PySem.Env) (s : Shared) (H : Hp) (E : XK), Room k (A.deeper (envOfC qual (defScope st0) s.heap.objs.size f cdv)) →
      Takes (cxOf (L2.CX P w) P w K mg base N qual (defScope st0) f cdv A outer s H E) (fun cls d _ H' => E cls d H') →
      PassesOwn (model P w) (A.deeper (envOfC qual (defScope st0) s.heap.objs.size f cdv)) (envOfC qual (defScope st0) s.heap.objs.size f cdv) (cxOf (L2.CX P w) P w K mg base N qual (defScope st0) f cdv A outer s H E).xe →
      JSs (cxOf (L2.CX P w) P w K mg base N qual (defScope st0) f cdv A outer s H E) (fun cls d _ H' => E cls d H') (defBody st0) wb)
    (read : ∀ ds st R Rx, S ds st R Rx → wb (bodyEd R Rx) (startD N.length ds) st) : FnD P w K mg base (k + 1) f fd ps S := by
  refine F.okX Sc (fun vs H Q E h => ?_) (fun cdv A outer s H vs Q E hr h => ?_)
  · obtain ⟨ds, st, R, Rx, r, _, h, _⟩ := h
    rw [← r.length]; exact len _ _ _ _ h
  · obtain ⟨ds, st, R, Rx, r, hs, h, hq, hx⟩ := h
    refine ⟨_, hbody cdv A outer s H E hr (takes_of rfl rfl rfl rfl) (passes_of (X := cxOf (L2.CX P w) P w K mg base N qual (defScope st0) f cdv A outer s H E) rfl), startD N.length ds, st, bodyEd R Rx, startD_rep r, hs, read ds st R Rx h, ?_⟩
    refine ⟨fun sg' H' ep' st' k s _ h => ?_, fun v H' d st' k s r h => ?_, fun _ _ _ _ _ _ _ h => h.elim, fun _ _ _ _ _ _ _ h => h.elim, fun x cls dd sg' H' ep' st' k s _ rx h => ?_⟩
    · obtain ⟨s2, hsub, h⟩ := h
      exact hq _ H' _ s2 (k.sub hsub) (s.sub hsub) (Rep_non.mpr rfl) h
    · obtain ⟨s2, hsub, h⟩ := h
      exact hq _ H' _ s2 (k.sub hsub) (s.sub hsub) r h
    · obtain ⟨s2, hsub, h⟩ := h
      exact hx x cls dd H' s2 (k.sub hsub) (s.sub hsub) rx h
end

/-! ### statements -/
def wNext : WS := fun E ep st => E.nx ep st
def wSeq (a b : WS) : WS := fun E ep st => a { E with nx := fun ep' st' => b E ep' st' } ep st
def wRet (we : WE) : WS := fun E ep st => we ep st (fun d st' => E.rt d st') (fun x st' => E.ex x ep st')
def wRetN : WS := fun E _ st => E.rt .non st
def wDrop (we : WE) : WS := fun E ep st => we ep st (fun _ st' => E.nx ep st') (fun x st' => E.ex x ep st')
def wSet (i : Nat) (we : WE) : WS := fun E ep st => we ep st (fun d st' => E.nx (ep.set i (some d)) st') (fun x st' => E.ex x ep st')
def wIf (c : WT) (a b : WS) : WS := fun E ep st => c ep st (fun t st' => cnd t (fun _ => a E ep st') (fun _ => b E ep st')) (fun x st' => E.ex x ep st')
def wBrk : WS := fun E ep st => E.bk ep st
def wCnt : WS := fun E ep st => E.ct ep st
def wNever : WS := fun _ _ _ => False
section
variable {X : Cx} {W : WX} {st : Stmt} {sts : List Stmt} {w u : WS} {e : Expr} {we : WE} {pos : Pos}
theorem jss_nil : JSs X W [] wNext := by
  refine pss_nil.weak ?_
  rintro Dn sg H ⟨ep, st, E, he, hs, hw, ok⟩
  exact ok.nx sg H ep st .refl hs he hw
theorem jss_cons (h1 : JS X W st w) (h2 : JSs X W sts u) : JSs X W (st :: sts) (wSeq w u) := by
  refine (pss_cons h1 h2).weak ?_
  rintro Dn sg H ⟨ep, st, E, he, hs, hw, ok⟩
  refine ⟨ep, st, _, he, hs, hw, ⟨fun sg' H' ep' st' k s e h => ?_, ok.rt, ok.bk, ok.ct, ok.ex⟩⟩
  exact ⟨ep', st', E, e, s, h, ok.keep k⟩
theorem jss_one (h : JS X W st w) : JSs X W [st] w := pss_one h
theorem js_pass : JS X W (.Pass pos) wNext := by
  refine ps_pass.weak ?_
  rintro Dn sg H ⟨ep, st, E, he, hs, hw, ok⟩
  exact ok.nx sg H ep st .refl hs he hw
theorem js_break : JS X W (.Break pos) wBrk := by
  refine ps_break.weak ?_
  rintro Dn sg H ⟨ep, st, E, he, hs, hw, ok⟩
  exact ok.bk sg H ep st .refl hs he hw
theorem js_continue : JS X W (.Continue pos) wCnt := by
  refine ps_continue.weak ?_
  rintro Dn sg H ⟨ep, st, E, he, hs, hw, ok⟩
  exact ok.ct sg H ep st .refl hs he hw
theorem js_never : JS X W st wNever := ps_never.weak fun _ _ _ ⟨_, _, _, _, _, h, _⟩ => h.elim
theorem jss_never : JSs X W sts wNever := pss_never.weak fun _ _ _ ⟨_, _, _, _, _, h, _⟩ => h.elim
theorem js_expr (h : JE X W e we) (hs : swapsWith e none pos.line X.env = pure false := by rfl) : JS X W (.Expr e pos) (wDrop we) := by
  refine (ps_expr h hs).weak ?_
  rintro Dn sg H ⟨ep, st, E, he, hs, hw, ok⟩
  exact ⟨ep, st, _, _, he, hs, hw, fun v H' d st' k s r h => ok.nx sg H' ep st' k s (he.keep k) h, ok.okX he⟩
theorem js_ret (h : JE X W e we) : JS X W (.Return (some e) pos) (wRet we) := by
  refine (ps_ret h).weak ?_
  rintro Dn sg H ⟨ep, st, E, he, hs, hw, ok⟩
  exact ⟨ep, st, _, _, he, hs, hw, fun v H' d st' k s r h => ok.rt v H' d st' k s r h, ok.okX he⟩
theorem js_retN : JS X W (.Return none pos) wRetN := by
  refine ps_retN.weak ?_
  rintro Dn sg H ⟨ep, st, E, he, hs, hw, ok⟩
  exact ok.rt _ H _ st .refl hs (Rep_non.mpr rfl) hw
theorem js_set {i : Nat} {x : Str} {pos' : Pos} (hN : X.N.Nodup) (h : JE X W e we) (hi : X.N[i]? = some x := by rfl) (hx : Loc X.env.scope x := by first | exact Or.inl rfl | exact Or.inr rfl) (hs : swapsWith e (some (.Name x pos')) pos.line X.env = pure false := by rfl)
    (hf : X.fn x = true ∨ X.env.scope.names.lookup x = some .local := by first | exact .inl rfl | exact .inr rfl) : JS X W (.Assign [.Name x pos'] e pos) (wSet i we) := by
  refine (ps_set hN hi hx h hs hf).weak ?_
  rintro Dn sg H ⟨ep, st, E, he, hs, hw, ok⟩
  exact ⟨ep, st, _, _, he, hs, hw, fun v H' d st' k s r h => ok.nx _ H' _ st' k s ((he.keep k).set r i) h, ok.okX he⟩
theorem js_if {c : Expr} {a b : List Stmt} {wc : WT} (hc : JT X W c wc) (ha : JSs X W a w) (hb : JSs X W b u) : JS X W (.If c a b pos) (wIf wc w u) := by
  refine (ps_if hc ha hb).weak ?_
  rintro Dn sg H ⟨ep, st, E, he, hs, hw, ok⟩
  refine ⟨ep, st, _, _, he, hs, hw, fun t H' st' k s h => ?_, ok.okX he⟩
  cases t with
  | true => exact ⟨ep, st', E, he.keep k, s, h.1 rfl, ok.keep k⟩
  | false => exact ⟨ep, st', E, he.keep k, s, h.2 rfl, ok.keep k⟩
end

/-! ### targets -/
abbrev DG := D → DE → DS → (DE → DS → Prop) → Prop
def twG (K : PySem.W.Frag) (g : DG) : TG := fun v sg H Q => ∃ d ep st k, Rep K H d v ∧ RepE K H ep sg ∧ RepS K H st ∧ g d ep st k ∧ (∀ sg' H' ep' st', Keep K H st H' st' → RepS K H' st' → RepE K H' ep' sg' → k ep' st' → Q sg' H')
abbrev DGs := List D → DE → DS → (DE → DS → Prop) → Prop
def twGs (K : PySem.W.Frag) (g : DGs) : TGs := fun vs sg H Q => ∃ ds ep st k, Reps K H ds vs ∧ RepE K H ep sg ∧ RepS K H st ∧ g ds ep st k ∧ (∀ sg' H' ep' st', Keep K H st H' st' → RepS K H' st' → RepE K H' ep' sg' → k ep' st' → Q sg' H')
abbrev JG (X : Cx) (e : Expr) (g : DG) : Prop := PG X e (twG X.K g)
abbrev JGs (X : Cx) (e : List Expr) (g : DGs) : Prop := PGs X e (twGs X.K g)
def gN (i : Nat) : DG := fun d ep st k => k (ep.set i (some d)) st
def gsNil : DGs := fun ds ep st k => match ds with
  | [] => k ep st
  | _ :: _ => False
def gsCons (g : DG) (u : DGs) : DGs := fun ds ep st k => match ds with
  | [] => False
  | d :: r => g d ep st (fun ep' st' => u r ep' st' k)
/-- a tuple or a list taken apart -/
def gT (n : Nat) (u : DGs) : DG := fun d ep st k => match d with
  | .tup ds => ds.length = n ∧ u ds ep st k
  | .key ks => ks.length = n ∧ u (ks.map kD) ep st k
  | _ => False
def gIx (f : D → D → D → DS → (DS → Prop) → Prop) (wo wi : WE) : DG := fun d ep st k => wo ep st (fun o st1 => wi ep st1 (fun i st2 => f o i d st2 (fun st3 => k ep st3)) (fun _ _ => False)) (fun _ _ => False)
theorem _root_.L2.PG.weak {X : Cx} {e : Expr} {t t' : TG} (h : PG X e t) (f : ∀ v sg H Q, t' v sg H Q → t v sg H Q) : PG X e t' := ⟨fun pins s sg H v u Q I r hw => h.run pins s sg H v u Q I r (f v sg H Q hw)⟩
theorem _root_.L2.PGs.weak {X : Cx} {e : List Expr} {t t' : TGs} (h : PGs X e t) (f : ∀ v sg H Q, t' v sg H Q → t v sg H Q) : PGs X e t' := ⟨fun pins s sg H v u Q I r hw => h.run pins s sg H v u Q I r (f v sg H Q hw)⟩
section
variable {X : Cx} {W : WX} {e : Expr} {es : List Expr} {g : DG} {u : DGs} {pos : Pos}
theorem jg_name {i : Nat} {x : Str} (hN : X.N.Nodup) (hi : X.N[i]? = some x := by rfl) (hx : Loc X.env.scope x := by first | exact Or.inl rfl | exact Or.inr rfl) (hf : X.fn x = true ∨ X.env.scope.names.lookup x = some .local := by first | exact .inl rfl | exact .inr rfl) : JG X (.Name x pos) (gN i) := by
  refine (pg_name hN hi hx hf).weak ?_
  rintro v sg H Q ⟨d, ep, st, k, r, he, hs, hw, hq⟩
  exact hq _ H _ st .refl hs (he.set r i) hw
theorem jgs_nil : JGs X [] gsNil := by
  refine pgs_nil.weak ?_
  rintro vs sg H Q ⟨ds, ep, st, k, r, he, hs, hw, hq⟩
  cases ds with
  | nil => exact ⟨Reps_nil.mp r, hq _ H _ st .refl hs he hw⟩
  | cons d ds => exact hw.elim
theorem jgs_cons (h1 : JG X e g) (h2 : JGs X es u) (hs : (assignEach (e :: es) X.env).map (·.2) = assign e X.env :: (assignEach es X.env).map (·.2) := by rfl) : JGs X (e :: es) (gsCons g u) := by
  refine (pgs_cons h1 h2 hs).weak ?_
  rintro vs sg H Q ⟨ds, ep, st, k, r, he, hs, hw, hq⟩
  cases ds with
  | nil => exact hw.elim
  | cons d ds =>
    obtain ⟨v, t, rfl, r1, r2⟩ := Reps_cons.mp r
    refine ⟨v, t, rfl, d, ep, st, _, r1, he, hs, hw, fun sg' H' ep' st' k1 s1 e1 h => ?_⟩
    exact ⟨ds, ep', st', k, r2.keep k1, e1, s1, h, fun sg2 H2 ep2 st2 k2 => hq sg2 H2 ep2 st2 (k1.trans k2)⟩
theorem jg_tup {k n : Nat} (h : JGs X es u) (hc : X.calm = true := by rfl) (hn : (assignEach es X.env).length = n := by rfl) (hst : (assignEach es X.env).findIdx? (·.1) = none := by rfl) : JG X (.Tuple es k pos) (gT n u) := by
  refine (pg_tup hc h hn hst).weak ?_
  rintro v sg H Q ⟨d, ep, st, k, r, he, hs, hw, hq⟩
  cases d with
  | tup ds =>
    obtain ⟨a, vs, rfl, t, q⟩ := Rep_tup.mp r
    exact ⟨a, vs, rfl, t, by rw [← q.length]; exact hw.1, ds, ep, st, k, q, he, hs, hw.2, hq⟩
  | key ks =>
    obtain ⟨a, rfl, t⟩ := Rep_key.mp r
    exact ⟨a, _, rfl, .inl (.inl t), by rw [List.length_map]; exact hw.1, ks.map kD, ep, st, k, reps_kD.mpr rfl, he, hs, hw.2, hq⟩
  | _ => exact hw.elim
/-- o[i] = .. of a list -/
def setD (o i d : D) (st : DS) (k : DS → Prop) : Prop := match o, i with
  | .ref a, .int z => getL st a fun ds => optP (ixN ds.length z) fun j => k (put st a (.lst (ds.set j d)))
  | _, _ => False
theorem takes_no {X : Cx} : Takes X (fun _ _ _ _ => False) := takes_none5
theorem setD_ok {K : PySem.W.Frag} {H : Hp} {st : DS} {o i v : V} {dO dI d : D} {k : DS → Prop} {Q : Hp → Prop} (hs : RepS K H st) (ro : Rep K H dO o) (ri : Rep K H dI i) (r : Rep K H d v) (h : setD dO dI d st k)
    (hq : ∀ H' st', Keep K H st H' st' → RepS K H' st' → k st' → Q H') : rSetL o i v H Q := by
  cases dO with
  | ref a =>
    cases dI with
    | int z =>
      obtain ⟨ds, e, h⟩ := getL_inv h
      obtain ⟨j, hj, hk⟩ := optP_inv h
      obtain ⟨vs, e1, q⟩ := hs a _ e
      refine ⟨a, vs, z, j, Rep_ref.mp ro, Rep_int.mp ri, e1, by rw [← q.length]; exact hj, ?_⟩
      have k2 := hs.keepW e (HO.lst (vs.set j v)) (OB.lst (ds.set j d))
      exact hq _ _ k2 (hs.write e ⟨_, upd_same, (q.keep k2).set (r.keep k2) j⟩) hk
    | _ => exact h.elim
  | _ => exact h.elim
theorem jg_ix {o i : Expr} {wo wi : WE} (ho : JE X (fun _ _ _ _ => False) o wo) (hi : JE X (fun _ _ _ _ => False) i wi)
    (ha : ∀ v, assign (.Subscript o i pos) X.env v = (do
      let ov ← holding [v] (eval o X.env)
      let iv ← holding [v, ov] (eval i X.env)
      standAt pos
      holding [v, ov, iv] (setItem ov iv v)
      release [v, ov, iv] []) := by intro _; rfl) : JG X (.Subscript o i pos) (gIx setD wo wi) := by
  refine (pg_sub ho hi set_list ha).weak ?_
  rintro v sg H Q ⟨d, ep, st, k, r, he, hs, hw, hq⟩
  refine ⟨ep, st, _, _, he, hs, hw, fun x H1 d1 st1 k1 s1 r1 h1 => ?_, fun _ _ _ _ _ _ _ _ z => z.elim⟩
  refine ⟨ep, st1, _, _, he.keep k1, s1, h1, fun y H2 d2 st2 k2 s2 r2 h2 => ?_, fun _ _ _ _ _ _ _ _ z => z.elim⟩
  exact setD_ok s2 (r1.keep k2) r2 ((r.keep k1).keep k2) h2 fun H3 st3 k3 s3 h3 => hq sg H3 ep st3 ((k1.trans k2).trans k3) s3 (((he.keep k1).keep k2).keep k3) h3
/-- target = value -/
def wAsg (we : WE) (g : DG) : WS := fun E ep st => we ep st (fun d st' => g d ep st' E.nx) (fun x st' => E.ex x ep st')
theorem js_asg {tg : Expr} {we : WE} (h : JE X W e we) (hg : JG X tg g) (hs : swapsWithSole [tg] e pos.line X.env = pure false := by rfl) (hw : swappedStores [tg] e X.env = pure none := by rfl)
    (h1 : (assignEach [tg] X.env).map (·.2) = [assign tg X.env] := by rfl) : JS X W (.Assign [tg] e pos) (wAsg we g) := by
  refine (ps_asg h hg hs hw h1).weak ?_
  rintro Dn sg H ⟨ep, st, E, he, hs, hw, ok⟩
  refine ⟨ep, st, _, _, he, hs, hw, fun v H' d st' k s r h => ?_, ok.okX he⟩
  exact ⟨d, ep, st', E.nx, r, he.keep k, s, h, fun sg2 H2 ep2 st2 k2 s2 e2 h2 => ok.nx sg2 H2 ep2 st2 (k.trans k2) s2 e2 h2⟩
/-- a, b = x, y of plain local names -/
def wPar (i j : Nat) (wa wb : WE) : WS := fun E ep st => wa ep st (fun x st1 => wb ep st1 (fun y st2 => E.nx ((ep.set i (some x)).set j (some y)) st2) (fun x st' => E.ex x ep st')) (fun x st' => E.ex x ep st')
theorem js_par {i j : Nat} {x y : Str} {a b : Expr} {wa wb : WE} {px py pt : Pos} {kt k2 pt2} (hN : X.N.Nodup) (ha : JE X W a wa) (hb : JE X W b wb) (hc : X.calm = true := by rfl) (hi : X.N[i]? = some x := by rfl) (hj : X.N[j]? = some y := by rfl) (hij : i ≠ j := by decide)
    (hx : X.env.scope.names.lookup x = some .local := by rfl) (hy : X.env.scope.names.lookup y = some .local := by rfl) (hs1 : starEach [a, b] X.env = (false, eval a X.env) :: starEach [b] X.env := by rfl) (hs2 : starEach [b] X.env = (false, eval b X.env) :: starEach [] X.env := by rfl)
    (hw : swappedStores [.Tuple [.Name x px, .Name y py] kt pt] (.Tuple [a, b] k2 pt2) X.env = pure (some [x, y]) := by rfl)
    (hs : swapsWithSole [.Tuple [.Name x px, .Name y py] kt pt] (.Tuple [a, b] k2 pt2) pos.line X.env = pure false := by rfl) :
    JS X W (.Assign [.Tuple [.Name x px, .Name y py] kt pt] (.Tuple [a, b] k2 pt2) pos) (wPar i j wa wb) := by
  refine (ps_par hc hN hi hj hij hx hy (pa_cons ha (pa_cons hb pa_nil hs2) hs1) hw hs).weak ?_
  rintro Dn sg H ⟨ep, st, E, he, hs, hw, ok⟩
  refine ⟨ep, st, _, _, he, hs, hw, fun v H1 d st1 k s r h => ?_, ok.okX he⟩
  refine ⟨ep, st1, _, _, he.keep k, s, h, fun v2 H2 d2 st2 k2 s2 r2 h2 => ?_, (ok.okX he).keep k⟩
  exact ⟨v, v2, rfl, ok.nx _ H2 _ st2 (k.trans k2) s2 ((((he.keep k).keep k2).set (r.keep k2) i).set r2 j) h2⟩
end

/-! ### in-place -/
def wAug (i : Nat) (f : F2) (we : WE) : WS := fun E ep st => match lk ep i with
  | some x => we ep st (fun y st1 => f x y st1 (fun z st2 => E.nx (ep.set i (some z)) st2)) (fun x st' => E.ex x ep st')
  | none => False
theorem js_aug {X : Cx} {W : WX} {i : Nat} {x : Str} {e : Expr} {we : WE} {op : Operator} {r : R2} {f : F2} {pos pos' : Pos} (hN : X.N.Nodup) (ho : OpR X (inplaceOp op) r) (hf : Sim2 X.K r f) (h : JE X W e we) (hi : X.N[i]? = some x := by rfl) (hx : Loc X.env.scope x := by first | exact Or.inl rfl | exact Or.inr rfl)
    (hfn : X.fn x = true ∨ X.env.scope.names.lookup x = some .local := by first | exact .inl rfl | exact .inr rfl) : JS X W (.AugAssign (.Name x pos') op e pos) (wAug i f we) := by
  refine (ps_aug hN hi hx h ho hfn).weak ?_
  rintro Dn sg H ⟨ep, st, E, he, hs, hw, ok⟩
  unfold wAug at hw
  cases q : lk ep i with
  | none => rw [q] at hw; exact hw.elim
  | some d =>
    rw [q] at hw
    obtain ⟨v, e1, r1⟩ := he.2 i d (lk_some q)
    refine ⟨v, e1, ep, st, _, _, he, hs, hw, fun y H1 dy st1 k1 s1 r2 h1 => ?_, ok.okX he⟩
    exact hf H1 st1 v y d dy _ _ s1 (r1.keep k1) r2 h1 fun z H2 dz st2 k2 s2 r3 h2 => ok.nx _ H2 _ st2 (k1.trans k2) s2 (((he.keep k1).keep k2).set r3 i) h2
theorem get_list {X : Cx} : PGet X (fun x y H Q => ∃ p xs i v, x = .ref p ∧ y = .int i ∧ SqL X.K H p xs ∧ 0 ≤ i ∧ atI xs i = some v ∧ Q v H) := by
  intro pins s sg H x y v u Q I rx ry h
  obtain ⟨p, xs, i, z, rfl, rfl, hq, h0, he, q⟩ := h
  cases rx
  obtain ⟨t, rfl⟩ := ry
  obtain ⟨its, r, pl, hz⟩ := I.list hq
  obtain ⟨j, h1, h2, h3, h4, h5⟩ := atI_get he
  obtain ⟨w, ew, rw'⟩ := r.get h2
  have hl := r.length
  have hn := line63
  have hj : i.toNat = j := by
    rw [seqIndex_of h0 h5] at h1
    exact Option.some.inj h1
  exact wpAny_getItem_list pl.isList h0 (by omega) (by rw [hj]; simpa using ew) ⟨z, H, I, rw', q⟩
/-- o[i] op= e of a list -/
def asRI (o i : D) (k : Addr → Int → Prop) : Prop := match o, i with
  | .ref a, .int z => k a z
  | _, _ => False
def wAugIx (f : F2) (wo wi we : WE) : WS := fun E ep st => wo ep st (fun o st1 => wi ep st1 (fun i st2 => asRI o i fun a z => 0 ≤ z ∧ getL st2 a fun ds => optP (atI ds z) fun x => we ep st2 (fun y st3 => f x y st3 (fun v st4 => setD (.ref a) (.int z) v st4 (fun st5 => E.nx ep st5))) (fun x st' => E.ex x ep st')) (fun x st' => E.ex x ep st')) (fun x st' => E.ex x ep st')
theorem js_augix {X : Cx} {W : WX} {o i e : Expr} {wo wi we : WE} {op : Operator} {r : R2} {f : F2} {pos tpos : Pos} (ho : JE X W o wo) (hi : JE X W i wi) (hop : OpR X (inplaceOp op) r) (hf : Sim2 X.K r f) (h : JE X W e we)
    (ha : ∀ ov iv new, augStore i ov iv new = (do holding [new, ov, iv] (setItem ov iv new); release [new, ov, iv] []; pure .next) := by intros; rfl) : JS X W (.AugAssign (.Subscript o i tpos) op e pos) (wAugIx f wo wi we) := by
  refine (ps_augS ho hi get_list h hop set_list ha).weak ?_
  rintro Dn sg H ⟨ep, st, E, he, hs, hw, ok⟩
  refine ⟨ep, st, _, _, he, hs, hw, fun x H1 d1 st1 k1 s1 r1 h1 => ?_, ok.okX he⟩
  refine ⟨ep, st1, _, _, he.keep k1, s1, h1, fun y H2 d2 st2 k2 s2 r2 h2 => ?_, (ok.okX he).keep k1⟩
  cases d1 with
  | ref a =>
    cases d2 with
    | int z =>
      obtain ⟨h0, h2⟩ := h2
      obtain ⟨ds, e1, h2⟩ := getL_inv h2
      obtain ⟨dx, hz, h3⟩ := optP_inv h2
      obtain ⟨vs, ev, q⟩ := s2 a _ e1
      obtain ⟨vx, hvx, rx⟩ := atI_rep q hz
      refine ⟨a, vs, z, vx, Rep_ref.mp (r1.keep k2), Rep_int.mp r2, SqL.of ev, h0, hvx, ?_⟩
      have k12 := k1.trans k2
      refine ⟨ep, st2, _, _, he.keep k12, s2, h3, fun vy H3 dy st3 k3 s3 r3 h4 => ?_, (ok.okX he).keep k12⟩
      refine hf H3 st3 vx vy dx dy _ _ s3 (rx.keep k3) r3 h4 fun vz H4 dz st4 k4 s4 r4 h5 => ?_
      refine setD_ok s4 ((r1.keep k2).keep (k3.trans k4)) (r2.keep (k3.trans k4)) r4 h5 fun H5 st5 k5 s5 h6 => ?_
      have kk := ((k12.trans k3).trans k4).trans k5
      exact ok.nx sg H5 ep st5 kk s5 (he.keep kk) h6
    | _ => exact h2.elim
  | _ => exact h2.elim
def iaddD : F2 := fun x y st R => match x, y with
  | .int i, .int j => R (.int (i + j)) st
  | .str a, .str b => a.length + b.length ≤ sizeLine ∧ R (.str (a ++ b)) st
  | _, _ => False
theorem iop_addA {X : Cx} : OpR X (inplaceOp .Add) (fun x y H Q => rI0 (fun i j => .int (i + j)) x y H Q ∨ rStrAdd x y H Q) := OpR_or iop_add iop_add_str
theorem sim_iadd {K : PySem.W.Frag} : Sim2 K (fun x y H Q => rI0 (fun i j => .int (i + j)) x y H Q ∨ rStrAdd x y H Q) iaddD := by
  intro H st x y dx dy R Q hs rx ry hf hq
  cases dx with
  | int i =>
    cases dy with
    | int j => exact .inl ⟨i, j, Rep_int.mp rx, Rep_int.mp ry, hq _ _ _ _ .refl hs (Rep_int.mpr rfl) hf⟩
    | _ => exact hf.elim
  | str i =>
    cases dy with
    | str j => exact .inr ⟨i, j, Rep_str.mp rx, Rep_str.mp ry, hf.1, hq _ _ _ _ .refl hs (Rep_str.mpr rfl) hf.2⟩
    | _ => exact hf.elim
  | _ => exact hf.elim
theorem sim_isub {K : PySem.W.Frag} : Sim2 K (rI0 fun i j => .int (i - j)) subD := sim_sub

/-! ### while -/
def wWhile (c : WT) (b : WS) : WS := fun E ep st => ∃ I : Nat → DE → DS → Prop, (∃ m, I m ep st) ∧ ∀ m ep st, I m ep st →
  c ep st (fun t st' => cnd t (fun _ => b { E with nx := fun ep' st'' => ∃ m', m' < m ∧ I m' ep' st'', ct := fun ep' st'' => ∃ m', m' < m ∧ I m' ep' st'', bk := E.nx } ep st') (fun _ => E.nx ep st')) (fun x st' => E.ex x ep st')
theorem js_while {X : Cx} {W : WX} {c : Expr} {body : List Stmt} {wc : WT} {wb : WS} {pos : Pos} (hp : PassesOwn (model X.prog X.w) X.A X.env X.xe) (hc : JT X W c wc) (hb : JSs X W body wb) : JS X W (.While c body [] pos) (wWhile wc wb) := by
  refine (ps_while hp hc hb).weak ?_
  rintro Dn sg H ⟨ep, st, E, he, hs, ⟨I, ⟨m0, i0⟩, turn⟩, ok⟩
  refine ⟨fun m sg' H' => ∃ ep' st', RepE X.K H' ep' sg' ∧ RepS X.K H' st' ∧ I m ep' st' ∧ OkS X.K W H' st' E Dn, ⟨m0, ep, st, he, hs, i0, ok⟩, ?_⟩
  rintro m sg1 H1 ⟨ep1, st1, e1, s1, i1, ok1⟩
  refine ⟨ep1, st1, _, _, e1, s1, turn m ep1 st1 i1, fun t H2 st2 k2 s2 h2 => ?_, ok1.okX e1⟩
  cases t with
  | true =>
    refine ⟨fun sg' H' => ∃ m', m' < m ∧ ∃ ep' st', RepE X.K H' ep' sg' ∧ RepS X.K H' st' ∧ I m' ep' st' ∧ OkS X.K W H' st' E Dn, fun sg' H' ⟨m', hm, z⟩ => ⟨m', hm, z⟩, ?_⟩
    refine ⟨ep1, st2, _, e1.keep k2, s2, h2.1 rfl, ?_⟩
    have ok2 := ok1.keep k2
    refine ⟨fun sg' H' ep' st' k s e h => ?_, ok2.rt, ok2.nx, fun sg' H' ep' st' k s e h => ?_, ok2.ex⟩
    · obtain ⟨m', hm, i'⟩ := h
      exact ⟨m', hm, ep', st', e, s, i', ok2.keep k⟩
    · obtain ⟨m', hm, i'⟩ := h
      exact ⟨m', hm, ep', st', e, s, i', ok2.keep k⟩
  | false => exact ok1.nx sg1 H2 ep1 st2 k2 s2 (e1.keep k2) (h2.2 rfl)

/-! ### for -/
/-- what a walk gives: items, while the guard stands -/
structure ItD (K : PySem.W.Frag) (H0 : Hp) (st0 : DS) (J : It) (items : List D) (G : DS → Prop) : Prop where
  goes : ∀ i H st, i < items.length → Keep K H0 st0 H st → RepS K H st → G st → J.go i H
  stops : ∀ H st, Keep K H0 st0 H st → RepS K H st → G st → J.stop items.length H
  yields : ∀ i H st x H' d, items[i]? = some d → Keep K H0 st0 H st → RepS K H st → G st → J.yld i H x H' → Keep K H st H' st ∧ RepS K H' st ∧ Rep K H' d x
abbrev WI := DE → DS → (List D → (DS → Prop) → DS → Prop) → RX → Prop
def twI (K : PySem.W.Frag) (W : WX) (w : WI) : TI := fun sg H R => ∃ ep st RR Rx, RepE K H ep sg ∧ RepS K H st ∧ w ep st RR Rx ∧ (∀ H' st' items G J, Keep K H st H' st' → RepS K H' st' → ItD K H' st' J items G → RR items G st' → R J H') ∧ OkX K W sg H st Rx
abbrev JI (X : Cx) (W : WX) (tg e : Expr) (w : WI) : Prop := PI X tg e (twI X.K W w)
theorem _root_.L2.PI.weak {X : Cx} {tg e : Expr} {t t' : TI} (h : PI X tg e t) (f : ∀ sg H R, t' sg H R → t sg H R) : PI X tg e t' := ⟨fun pins s sg H R I hw => h.run pins s sg H R I (f sg H R hw)⟩
def forL (g : DG) (b : WS) (G : DS → Prop) (E : Ed) : List D → DE → DS → Prop
  | [], ep, st => G st ∧ E.nx ep st
  | d :: r, ep, st => G st ∧ g d ep st (fun ep' st' => b { E with nx := forL g b G E r, ct := forL g b G E r, bk := E.nx } ep' st')
def wFor (wi : WI) (g : DG) (b : WS) : WS := fun E ep st => wi ep st (fun items G st' => forL g b G E items ep st') (fun x st' => E.ex x ep st')
theorem js_for {X : Cx} {W : WX} {tg iter : Expr} {body : List Stmt} {wi : WI} {g : DG} {wb : WS} {pos : Pos} (hp : PassesOwn (model X.prog X.w) X.A X.env X.xe) (hi : JI X W tg iter wi) (hg : JG X tg g) (hb : JSs X W body wb) (hc : X.calm = true := by rfl)
    (hs : ∀ x, foldedSetIterable iter X.env x = pure x := by intro _; rfl) : JS X W (.For tg iter body [] pos) (wFor wi g wb) := by
  refine (ps_for hp hc hi hg hb hs).weak ?_
  rintro Dn sg H ⟨ep, st, E, he, hs, hw, ok⟩
  refine ⟨ep, st, _, _, he, hs, hw, fun H1 st1 items G J k1 s1 it hf => ?_, ok.okX he⟩
  refine ⟨fun i m sg' H' => m = items.length - i ∧ i ≤ items.length ∧ ∃ ep' st', RepE X.K H' ep' sg' ∧ RepS X.K H' st' ∧ Keep X.K H1 st1 H' st' ∧ OkS X.K W H' st' E Dn ∧ forL g wb G E (items.drop i) ep' st', ?_, ?_⟩
  · exact ⟨items.length, by simp, Nat.zero_le _, ep, st1, he.keep k1, s1, .refl, ok.keep k1, by rw [List.drop_zero]; exact hf⟩
  · rintro i m sg2 H2 ⟨rfl, hi, ep2, st2, e2, s2, k2, ok2, hf2⟩
    by_cases hlt : i < items.length
    · rw [List.drop_eq_getElem_cons hlt] at hf2
      obtain ⟨gg, hf3⟩ := hf2
      refine .inr ⟨it.goes i H2 st2 hlt k2 s2 gg, fun sg' H' => (i + 1 ≤ items.length) ∧ ∃ ep' st', RepE X.K H' ep' sg' ∧ RepS X.K H' st' ∧ Keep X.K H1 st1 H' st' ∧ OkS X.K W H' st' E Dn ∧ forL g wb G E (items.drop (i + 1)) ep' st', fun sg' H' ⟨hl, z⟩ => ⟨items.length - (i + 1), by omega, rfl, hl, z⟩, fun x H' y => ?_⟩
      obtain ⟨k3, s3, r3⟩ := it.yields i H2 st2 x H' items[i] (List.getElem?_eq_getElem hlt) k2 s2 gg y
      have ok3 := ok2.keep k3
      refine ⟨items[i], ep2, st2, _, r3, e2.keep k3, s3, hf3, fun sg4 H4 ep4 st4 k4 s4 e4 h4 => ?_⟩
      have ok4 := ok3.keep k4
      refine ⟨ep4, st4, _, e4, s4, h4, ⟨fun sg' H' ep' st' k s e h => ⟨hlt, ep', st', e, s, ((k2.trans k3).trans k4).trans k, ok4.keep k, h⟩, ok4.rt, ok4.nx, fun sg' H' ep' st' k s e h => ⟨hlt, ep', st', e, s, ((k2.trans k3).trans k4).trans k, ok4.keep k, h⟩, ok4.ex⟩⟩
    · have e : i = items.length := by omega
      subst e
      rw [List.drop_length] at hf2
      exact .inl ⟨it.stops H2 st2 k2 s2 hf2.1, ok2.nx sg2 H2 ep2 st2 .refl s2 e2 hf2.2⟩
/-- over a list, a tuple, the script -/
def itemsD (d : D) (st : DS) (RR : List D → (DS → Prop) → DS → Prop) : Prop := match d with
  | .ref a => getL st a fun ds => RR ds (fun s => s a = some (.lst ds)) st
  | .tup ds => RR ds (fun _ => True) st
  | .scr ds => RR ds (fun _ => True) st
  | _ => False
def wIt (we : WE) : WI := fun ep st RR Rx => we ep st (fun d st' => itemsD d st' RR) Rx
theorem PI_seq {X : Cx} {tg l : Expr} {tl : TE} (hl : PE X l tl) : PI X tg l (fun sg H R => tl sg H fun x H1 => ∃ a, x = .ref a ∧ (((∃ xs, SqL X.K H1 a xs) ∧ R (Itl X.K a) H1) ∨ ((∃ xs, SqT X.K H1 a xs) ∧ R (Itt X.K a) H1))) := by
  refine ⟨fun pins s sg H R I h => ?_⟩
  refine thn (hl.run pins s sg H _ I h) fun v s1 ⟨x, H1, I1, r1, q1⟩ => ?_
  obtain ⟨a, e, q⟩ := q1
  subst e
  cases r1
  rcases q with ⟨⟨xs, hq⟩, q⟩ | ⟨⟨xs, hq⟩, q⟩
  · obtain ⟨its, rv, p, hz⟩ := I1.list hq
    refine wpAny_pyIter_list p.isList ?_
    refine ⟨s1.heap.objs.size, [s1.heap.objs.size], _, _, H1, rfl, I1.kept (t' := s1.toks) fun b o e => Heap.get?_push_of_some _ e, turn_list a _, ⟨_, Heap.get?_push_size _ rfl, rfl, rfl⟩, fun b hb => ?_, q⟩
    have e : b = s1.heap.objs.size := by simpa using hb
    subst e
    exact I1.fpOk (Nat.le_refl _) (I1.hok.fresh (Nat.le_refl _))
  · obtain ⟨its, rv, p, hz⟩ := I1.tuple hq
    refine wpAny_pyIter_tuple (show s1.heap.IsTuple a its.toArray from p) ?_
    refine ⟨s1.heap.objs.size, [s1.heap.objs.size], _, _, H1, rfl, I1.kept (t' := s1.toks) fun b o e => Heap.get?_push_of_some _ e, turn_tuple a _, ⟨_, Heap.get?_push_size _ rfl, rfl, rfl⟩, fun b hb => ?_, q⟩
    have e : b = s1.heap.objs.size := by simpa using hb
    subst e
    exact I1.fpOk (Nat.le_refl _) (I1.hok.fresh (Nat.le_refl _))
theorem itd_list {K : PySem.W.Frag} {H0 : Hp} {st0 : DS} {a : Addr} {ds : List D} : ItD K H0 st0 (Itl K a) ds (fun s => s a = some (.lst ds)) where
  goes := fun i H st hi k s g => by
    obtain ⟨vs, e, q⟩ := s a _ g
    exact ⟨vs, vs[i]'(by rw [← q.length]; exact hi), SqL.of e, List.getElem?_eq_getElem _⟩
  stops := fun H st k s g => by
    obtain ⟨vs, e, q⟩ := s a _ g
    exact ⟨vs, SqL.of e, by rw [q.length]; exact Nat.le_refl _⟩
  yields := fun i H st x H' d hd k s g y => by
    obtain ⟨rfl, y⟩ := y
    obtain ⟨vs, e, q⟩ := s a _ g
    obtain ⟨v, ev, r⟩ := q.get hd
    have := y vs (SqL.of e)
    rw [ev] at this; cases this
    exact ⟨.refl, s, r⟩
theorem itd_tup {K : PySem.W.Frag} {H0 : Hp} {st0 : DS} {a : Addr} {vs : List V} {ds : List D} (t : SqT K H0 a vs) (q : Reps K H0 ds vs) : ItD K H0 st0 (Itt K a) ds (fun _ => True) where
  goes := fun i H st hi k s g => ⟨vs, vs[i]'(by rw [← q.length]; exact hi), k.tup _ _ t, List.getElem?_eq_getElem _⟩
  stops := fun H st k s g => ⟨vs, k.tup _ _ t, by rw [q.length]; exact Nat.le_refl _⟩
  yields := fun i H st x H' d hd k s g y => by
    obtain ⟨rfl, y⟩ := y
    obtain ⟨v, ev, r⟩ := q.get hd
    have := y vs (k.tup _ _ t)
    rw [ev] at this; cases this
    exact ⟨.refl, s, r.keep k⟩
theorem itd_scr {K : PySem.W.Frag} {H0 : Hp} {st0 : DS} {a : Addr} {vs : List V} {ds : List D} (t : SqF K H0 a vs) (q : Reps K H0 ds vs) : ItD K H0 st0 (Itl K a) ds (fun _ => True) where
  goes := fun i H st hi k s g => ⟨vs, vs[i]'(by rw [← q.length]; exact hi), (k.scr _ _ t).sq, List.getElem?_eq_getElem _⟩
  stops := fun H st k s g => ⟨vs, (k.scr _ _ t).sq, by rw [q.length]; exact Nat.le_refl _⟩
  yields := fun i H st x H' d hd k s g y => by
    obtain ⟨rfl, y⟩ := y
    obtain ⟨v, ev, r⟩ := q.get hd
    have := y vs (k.scr _ _ t).sq
    rw [ev] at this; cases this
    exact ⟨.refl, s, r.keep k⟩
theorem itd_range {K : PySem.W.Frag} {H0 : Hp} {st0 : DS} {lo : Int} {n : Nat} : ItD K H0 st0 (Itr lo n) ((List.range n).map fun i : Nat => D.int (lo + i)) (fun _ => True) where
  goes := fun i H st hi k s g => by simpa [Itr] using hi
  stops := fun H st k s g => by simp [Itr]
  yields := fun i H st x H' d hd k s g y => by
    obtain ⟨rfl, rfl⟩ := y
    rw [List.getElem?_map] at hd
    have hi : i < n := by
      by_cases h : i < n
      · exact h
      · rw [List.getElem?_eq_none (by simpa using h)] at hd; cases hd
    rw [List.getElem?_range hi] at hd
    have : D.int (lo + i) = d := by simpa using hd
    subst this
    exact ⟨.refl, s, Rep_int.mpr rfl⟩
theorem itd_rangeC {K : PySem.W.Frag} {H0 : Hp} {st0 : DS} {lo c : Int} {n : Nat} : ItD K H0 st0 (Itc lo c n) ((List.range n).map fun i : Nat => D.int (lo + i * c)) (fun _ => True) where
  goes := fun i H st hi k s g => by simpa [Itc] using hi
  stops := fun H st k s g => by simp [Itc]
  yields := fun i H st x H' d hd k s g y => by
    obtain ⟨rfl, rfl⟩ := y
    rw [List.getElem?_map] at hd
    have hi : i < n := by
      by_cases h : i < n
      · exact h
      · rw [List.getElem?_eq_none (by simpa using h)] at hd; cases hd
    rw [List.getElem?_range hi] at hd
    have : D.int (lo + i * c) = d := by simpa using hd
    subst this
    exact ⟨.refl, s, Rep_int.mpr rfl⟩
section
variable {X : Cx} {W : WX} {tg e : Expr} {we : WE}
theorem jit (h : JE X W e we) : JI X W tg e (wIt we) := by
  refine (PI_seq h).weak ?_
  rintro sg H R ⟨ep, st, RR, Rx, he, hs, hw, hq, hx⟩
  refine ⟨ep, st, _, _, he, hs, hw, fun v H' d st' k s r h => ?_, hx⟩
  cases d with
  | ref a =>
    obtain ⟨ds, e, h⟩ := getL_inv h
    obtain ⟨vs, ev, q⟩ := s a _ e
    exact ⟨a, Rep_ref.mp r, .inl ⟨⟨vs, SqL.of ev⟩, hq H' st' ds _ _ k s itd_list h⟩⟩
  | tup ds =>
    obtain ⟨a, vs, rfl, t, q⟩ := Rep_tup.mp r
    exact ⟨a, rfl, .inr ⟨⟨vs, t⟩, hq H' st' ds _ _ k s (itd_tup t q) h⟩⟩
  | scr ds =>
    obtain ⟨a, vs, rfl, t, q⟩ := Rep_scr.mp r
    exact ⟨a, rfl, .inl ⟨⟨vs, t.sq⟩, hq H' st' ds _ _ k s (itd_scr t q) h⟩⟩
  | _ => exact h.elim
/-- range(n), range(a, b), range(a, b, -1) -/
def rngD (ds : List D) (st : DS) (RR : List D → (DS → Prop) → DS → Prop) : Prop := match ds with
  | [.int j] => (-(2 ^ 62) ≤ j ∧ j < 2 ^ 62) ∧ RR ((List.range j.toNat).map fun i : Nat => D.int (0 + i)) (fun _ => True) st
  | [.int i, .int j] => (-(2 ^ 62) ≤ i ∧ i < 2 ^ 62 ∧ -(2 ^ 62) ≤ j ∧ j < 2 ^ 62) ∧ RR ((List.range (j - i).toNat).map fun k : Nat => D.int (i + k)) (fun _ => True) st
  | [.int i, .int j, .int c] => ∃ n, RgC i j c n ∧ RR ((List.range n).map fun k : Nat => D.int (i + k * c)) (fun _ => True) st
  | _ => False
def wRng (wa : WA) : WI := fun ep st RR Rx => wa ep st (fun ds st' => rngD ds st' RR) Rx
theorem jir1 {p pos : Pos} {wa : WA} (hm : X.mg "range" = none) (h : JA X W 1 [e] wa) (hg : Gl X "range" := by rfl) (hs : starEach [e] X.env = [(false, eval e X.env)] := by rfl) : JI X W tg (.Call (.Name "range" p) [e] [] pos) (wRng wa) := by
  refine (pi_range1 hg hm h hs).weak ?_
  rintro sg H R ⟨ep, st, RR, Rx, he, hs, hw, hq, hx⟩
  refine ⟨ep, st, _, _, he, hs, hw, fun vs H' ds st' hl k s r h => ?_, hx⟩
  match ds, h, hl with
  | [.int j], h, _ =>
    obtain ⟨v, t, rfl, r1, r2⟩ := Reps_cons.mp r
    rw [Reps_nil.mp r2, Rep_int.mp r1]
    exact ⟨j, rfl, h.1.1, h.1.2, hq H' st' _ _ _ k s itd_range h.2⟩
theorem jir2 {p pos : Pos} {e2 : Expr} {wa : WA} (hm : X.mg "range" = none) (h : JA X W 2 [e, e2] wa) (hg : Gl X "range" := by rfl) (hs : starEach [e, e2] X.env = [(false, eval e X.env), (false, eval e2 X.env)] := by rfl) (hs2 : starEach [e2] X.env = [(false, eval e2 X.env)] := by rfl) :
    JI X W tg (.Call (.Name "range" p) [e, e2] [] pos) (wRng wa) := by
  refine (pi_range2 hg hm h hs hs2).weak ?_
  rintro sg H R ⟨ep, st, RR, Rx, he, hs, hw, hq, hx⟩
  refine ⟨ep, st, _, _, he, hs, hw, fun vs H' ds st' hl k s r h => ?_, hx⟩
  match ds, h, hl with
  | [.int i, .int j], h, _ =>
    obtain ⟨v, t, rfl, r1, r2⟩ := Reps_cons.mp r
    obtain ⟨v', t', rfl, r3, r4⟩ := Reps_cons.mp r2
    rw [Reps_nil.mp r4, Rep_int.mp r1, Rep_int.mp r3]
    exact ⟨i, j, rfl, h.1, hq H' st' _ _ _ k s itd_range h.2⟩
end
end DL

namespace DL
open PySem PySem.Spec PyProof.Rows L2
section
variable {X : Cx} {W : WX} {tg e : Expr} {we : WE}
theorem jir3 {p pos : Pos} {e2 e3 : Expr} {wa : WA} (hm : X.mg "range" = none) (h : JA X W 3 [e, e2, e3] wa) (hg : Gl X "range" := by rfl) (hs : starEach [e, e2, e3] X.env = (false, eval e X.env) :: starEach [e2, e3] X.env := by rfl) (hpl : (backTo pos (starEach [e2, e3] X.env)).any (·.1) = false := by rfl) :
    JI X W tg (.Call (.Name "range" p) [e, e2, e3] [] pos) (wRng wa) := by
  refine (pi_range3 hg hm h hs hpl).weak ?_
  rintro sg H R ⟨ep, st, RR, Rx, he, hs, hw, hq, hx⟩
  refine ⟨ep, st, _, _, he, hs, hw, fun vs H' ds st' hl k s r h => ?_, hx⟩
  match ds, h, hl with
  | [.int i, .int j, .int c], h, _ =>
    obtain ⟨v, t, rfl, r1, r2⟩ := Reps_cons.mp r
    obtain ⟨v', t', rfl, r3, r4⟩ := Reps_cons.mp r2
    obtain ⟨v2, t2, rfl, r5, r6⟩ := Reps_cons.mp r4
    rw [Reps_nil.mp r6, Rep_int.mp r1, Rep_int.mp r3, Rep_int.mp r5]
    obtain ⟨n, hn, h⟩ := h
    exact ⟨i, j, c, n, rfl, hn, hq H' st' _ _ _ k s itd_rangeC h⟩
end

/-! ### comprehensions -/
def wipeD (ep : DE) : List Nat → DE
  | [] => ep
  | v :: vs => (wipeD ep vs).set v none
theorem wipe_rep {K : PySem.W.Frag} {H : Hp} {ep : DE} {sg : L2.St} (h : RepE K H ep sg) : ∀ vs : List Nat, RepE K H (wipeD ep vs) (L2.wipe sg vs)
  | [] => h
  | v :: vs => by
    obtain ⟨h1, h2⟩ := wipe_rep h vs
    unfold wipeD L2.wipe
    refine ⟨by rw [List.length_set, List.length_set, h1], fun i d e => ?_⟩
    by_cases hi : v = i
    · subst hi
      have hl : v < (wipeD ep vs).length := by
        have := (List.getElem?_eq_some_iff.mp e).1
        rw [List.length_set] at this; exact this
      rw [List.getElem?_set_self hl] at e; cases e
    · rw [List.getElem?_set_ne hi] at e ⊢
      exact h2 i d e
/-- names that a target sets, by slots -/
inductive TgI : DG → List Nat → Prop where
  | name (i : Nat) : TgI (gN i) [i]
theorem set_wipe (sg : L2.St) (i : Nat) (x : Option V) : ∀ vs : List Nat, i ∈ vs → L2.wipe (sg.set i x) vs = L2.wipe sg vs
  | [], h => by cases h
  | v :: vs, h => by
    unfold L2.wipe
    by_cases hv : i ∈ vs
    · rw [set_wipe sg i x vs hv]
    · have e : i = v := by
        rcases List.mem_cons.mp h with h | h
        · exact h
        · exact absurd h hv
      subst e
      have key : ∀ us : List Nat, i ∉ us → L2.wipe (sg.set i x) us = (L2.wipe sg us).set i x := by
        intro us
        induction us with
        | nil => intro _; rfl
        | cons u us ih =>
          intro hu
          unfold L2.wipe
          rw [ih (fun z => hu (List.mem_cons_of_mem _ z)), List.set_comm _ _ (fun z => hu (by rw [z]; exact List.mem_cons_self))]
      rw [key vs hv, List.set_set]
theorem wipe_wipe (sg : L2.St) : ∀ vs : List Nat, L2.wipe (L2.wipe sg vs) vs = L2.wipe sg vs := by
  intro vs
  have key : ∀ us : List Nat, (∀ i ∈ us, i ∈ vs) → L2.wipe (L2.wipe sg us) vs = L2.wipe sg vs := by
    intro us
    induction us with
    | nil => intro _; rfl
    | cons u us ih =>
      intro hu
      show L2.wipe ((L2.wipe sg us).set u none) vs = _
      rw [set_wipe _ u none vs (hu u List.mem_cons_self), ih fun i hi => hu i (List.mem_cons_of_mem _ hi)]
  exact key vs fun i h => h
/-- one turn after the other: b the target's binding -/
def lcL (bind : D → DE → (DE → Prop) → Prop) (ep0 : DE) (wt : WT) (we : WE) (G : DS → Prop) (k : List D → DS → Prop) : List D → List D → DS → Prop
  | [], acc, st => G st ∧ k acc st
  | d :: r, acc, st => G st ∧ bind d ep0 fun ep => wt ep st (fun b st2 => cnd b (fun _ => we ep st2 (fun y st3 => acc.length < sizeLine ∧ lcL bind ep0 wt we G k r (acc ++ [y]) st3) (fun _ _ => False)) (fun _ => lcL bind ep0 wt we G k r acc st2)) (fun _ _ => False)
def wLc (wi : WI) (bind : D → DE → (DE → Prop) → Prop) (vs : List Nat) (wt : WT) (we : WE) : WE := fun ep st R Rx =>
  wi ep st (fun items G st' => lcL bind (wipeD ep vs) wt we G (fun acc st2 => ∀ p, st2 p = none → R (.ref p) (put st2 p (.lst acc))) items [] st') Rx
def bN (i : Nat) : D → DE → (DE → Prop) → Prop := fun d ep k => k (ep.set i (some d))
def bTn : List Nat → List D → DE → (DE → Prop) → Prop
  | [], [], ep, k => k ep
  | i :: is, d :: ds, ep, k => bTn is ds (ep.set i (some d)) k
  | _, _, _, _ => False
def bT (is : List Nat) : D → DE → (DE → Prop) → Prop := fun d ep k => match d with
  | .tup ds => bTn is ds ep k
  | .key ks => bTn is (ks.map kD) ep k
  | _ => False
/-- a target's binding agrees with the hand layer's -/
structure BindOk (K : PySem.W.Frag) (g : TG) (bind : D → DE → (DE → Prop) → Prop) (vs : List Nat) : Prop where
  run : ∀ {H : Hp} {d : D} {v : V} {ep : DE} {sg : L2.St} {k : DE → Prop} {Q : L2.St → Hp → Prop}, Rep K H d v → RepE K H ep sg → bind d ep k → (∀ ep' sg', RepE K H ep' sg' → L2.wipe sg' vs = L2.wipe sg vs → k ep' → Q sg' H) → g v sg H Q
theorem bind_name {K : PySem.W.Frag} {i : Nat} {vs : List Nat} (h : i ∈ vs) : BindOk K (gName i) (bN i) vs := ⟨fun r he hb hq => hq _ _ (he.set r i) (set_wipe _ i _ vs h) hb⟩
def gNames : List Nat → TGs
  | [] => gNil
  | i :: is => gCons (gName i) (gNames is)
theorem bind_names {K : PySem.W.Frag} {vs : List Nat} {H : Hp} {Q : L2.St → Hp → Prop} {k : DE → Prop} : ∀ {is : List Nat} {ds : List D} {us : List V} {ep : DE} {sg : L2.St}, (∀ i ∈ is, i ∈ vs) → Reps K H ds us → RepE K H ep sg → bTn is ds ep k → (∀ ep' sg', RepE K H ep' sg' → L2.wipe sg' vs = L2.wipe sg vs → k ep' → Q sg' H) → gNames is us sg H Q
  | [], [], us, ep, sg, _, r, he, hb, hq => ⟨Reps_nil.mp r, hq _ _ he rfl hb⟩
  | [], _ :: _, _, _, _, _, _, _, hb, _ => hb.elim
  | _ :: _, [], _, _, _, _, _, _, hb, _ => hb.elim
  | i :: is, d :: ds, us, ep, sg, hv, r, he, hb, hq => by
    obtain ⟨v, t, rfl, r1, r2⟩ := Reps_cons.mp r
    refine ⟨v, t, rfl, ?_⟩
    refine bind_names (fun j hj => hv j (List.mem_cons_of_mem _ hj)) r2 (he.set r1 i) hb fun ep' sg' e w h => hq ep' sg' e ?_ h
    rw [w, set_wipe _ i _ vs (hv i List.mem_cons_self)]
theorem bTn_len {k : DE → Prop} : ∀ {is : List Nat} {ds : List D} {ep : DE}, bTn is ds ep k → ds.length = is.length
  | [], [], _, _ => rfl
  | [], _ :: _, _, h => h.elim
  | _ :: _, [], _, h => h.elim
  | i :: is, d :: ds, ep, h => by rw [List.length_cons, List.length_cons, bTn_len (is := is) (ds := ds) h]
theorem bind_tup {K : PySem.W.Frag} {is vs : List Nat} (h : ∀ i ∈ is, i ∈ vs) : BindOk K (gTup K is.length (gNames is)) (bT is) vs := ⟨fun {H d v ep sg k Q} r he hb hq => by
  cases d with
  | tup ds =>
    obtain ⟨a, us, rfl, t, q⟩ := Rep_tup.mp r
    exact ⟨a, us, rfl, t, by rw [← q.length]; exact bTn_len hb, bind_names h q he hb hq⟩
  | key ks =>
    obtain ⟨a, rfl, t⟩ := Rep_key.mp r
    exact ⟨a, _, rfl, .inl (.inl t), by have := bTn_len hb; rw [List.length_map] at this; rw [List.length_map]; exact this, bind_names h (reps_kD.mpr rfl) he hb hq⟩
  | _ => exact hb.elim⟩
abbrev JTs (X : Cx) (W : WX) (ifs : List Expr) (w : WT) : Prop := PTs X ifs (twT X.K W w)
def wYes : WT := fun _ st R _ => R true st
theorem jts_nil {X : Cx} {W : WX} : JTs X W [] wYes := ⟨fun pins s sg H Q I h => pts_nil.run pins s sg H Q I (by
  obtain ⟨ep, st, R, Rx, he, hs, hw, hq, hx⟩ := h
  exact hq true H st .refl hs hw)⟩
theorem jts_one {X : Cx} {W : WX} {c : Expr} {w : WT} (h : JT X W c w) : JTs X W [c] w := pts_one h
/-- the reading of a comprehension -/
theorem lc_ok {K : PySem.W.Frag} {W : WX} {g : TG} {bind : D → DE → (DE → Prop) → Prop} {vs : List Nat} {wi : WI} {wt : WT} {we : WE} (bo : BindOk K g bind vs) : ∀ sg H Q, twE K W (wLc wi bind vs wt we) sg H Q →
    tLc (twI K W wi) g (twT K (fun _ _ _ _ => False) wt) (twE K (fun _ _ _ _ => False) we) vs sg H Q := by
  rintro sg H Q ⟨ep, st, R, Rx, he, hs, hw, hq, hx⟩
  refine ⟨ep, st, _, _, he, hs, hw, fun H1 st1 items G J k1 s1 it hf Dl hD => ?_, hx⟩
  -- the list at Dl is the comprehension's own
  refine ⟨fun i m H' => m = items.length - i ∧ i ≤ items.length ∧ ∃ acc accV st', Reps K H' acc accV ∧ H' Dl = some (.lst accV) ∧ st' Dl = none ∧ RepS K H' st' ∧ Keep K H1 st1 H' st' ∧
    lcL bind (wipeD ep vs) wt we G (fun acc st2 => ∀ p, st2 p = none → R (.ref p) (put st2 p (.lst acc))) (items.drop i) acc st', ?_, ?_⟩
  · exact ⟨items.length, by simp, Nat.zero_le _, [], [], st1, Reps.nil, upd_same, s1.free hD, s1.untold hD _, Keep.untold hD _, by rw [List.drop_zero]; exact hf⟩
  · rintro i m H2 ⟨rfl, hi, acc, accV, st2, ra, eD, nD, s2, k2, hf2⟩
    by_cases hlt : i < items.length
    · rw [List.drop_eq_getElem_cons hlt] at hf2
      obtain ⟨gg, hf3⟩ := hf2
      refine .inr ⟨it.goes i H2 st2 hlt k2 s2 gg, fun H' => (i + 1 ≤ items.length) ∧ ∃ acc accV st', Reps K H' acc accV ∧ H' Dl = some (.lst accV) ∧ st' Dl = none ∧ RepS K H' st' ∧ Keep K H1 st1 H' st' ∧
        lcL bind (wipeD ep vs) wt we G (fun acc st2 => ∀ p, st2 p = none → R (.ref p) (put st2 p (.lst acc))) (items.drop (i + 1)) acc st', fun H' ⟨hl, z⟩ => ⟨items.length - (i + 1), by omega, rfl, hl, z⟩, fun x H' y => ?_⟩
      obtain ⟨k3, s3, r3⟩ := it.yields i H2 st2 x H' items[i] (List.getElem?_eq_getElem hlt) k2 s2 gg y
      have he3 : RepE K H' (wipeD ep vs) (L2.wipe sg vs) := wipe_rep (((he.keep k1).keep k2).keep k3) vs
      refine bo.run r3 he3 hf3 fun ep4 sg4 e4 w4 h4 => ⟨by rw [w4, wipe_wipe], ?_⟩
      have d3 := k3.oth Dl _ eD (fun _ z => by cases z) nD
      refine ⟨ep4, st2, _, _, e4, s3, h4, fun b H5 st5 k5 s5 h5 => ?_, fun _ _ _ _ _ _ _ _ z => z.elim⟩
      have d5 := k5.oth Dl _ d3.1 (fun _ z => by cases z) d3.2
      cases b with
      | true =>
        replace h5 := h5.1 rfl
        dsimp only
        rw [if_pos rfl]
        refine ⟨ep4, st5, _, _, e4.keep k5, s5, h5, fun v H6 d st6 k6 s6 r6 h6 => ?_, fun _ _ _ _ _ _ _ _ z => z.elim⟩
        have d6 := k6.oth Dl _ d5.1 (fun _ z => by cases z) d5.2
        have ra6 := ((ra.keep k3).keep k5).keep k6
        refine ⟨accV, d6.1, by rw [← ra6.length]; exact h6.1, hlt, acc ++ [d], accV ++ [v], st6, ?_, upd_same, d6.2, ?_, ?_, h6.2⟩
        · have kk : ∀ a vs, SqT K H6 a vs → SqT K (upd H6 Dl (.lst (accV ++ [v]))) a vs := fun a vs => sqT_upd (by rw [d6.1]; trivial)
          have jj : ∀ a vs, SqF K H6 a vs → SqF K (upd H6 Dl (.lst (accV ++ [v]))) a vs := fun a vs => sqF_upd (by rw [d6.1]; trivial)
          have mm : ∀ a vs, H6 a = some (.tup vs) → upd H6 Dl (.lst (accV ++ [v])) a = some (.tup vs) := fun a vs => tps_upd (by rw [d6.1]; trivial)
          exact (Reps.mono kk jj mm _ _ ra6).append (.cons (Rep.mono kk jj mm _ _ r6) Reps.nil)
        · intro a o ea
          exact (s6 a o ea).upd (by rw [d6.1]; trivial) (fun z => by rw [z, d6.2] at ea; cases ea)
        · have kk : Keep K H1 st1 H6 st6 := ((k2.trans k3).trans k5).trans k6
          refine ⟨fun a vs h => sqT_upd (by rw [d6.1]; trivial) (kk.tup a vs h), fun a vs h => sqF_upd (by rw [d6.1]; trivial) (kk.scr a vs h), fun a vs h => tps_upd (by rw [d6.1]; trivial) (kk.tps a vs h), fun a o h nx n => ?_, fun a fv h => by rw [upd_ne (fun z => by rw [z, hD] at h; cases h)]; exact kk.xds a fv h⟩
          have ne : a ≠ Dl := fun z => by rw [z, hD] at h; cases h
          rw [upd_ne ne]
          exact kk.oth a o h nx n
      | false =>
        replace h5 := h5.2 rfl
        dsimp only
        rw [if_neg Bool.false_ne_true]
        exact ⟨hlt, acc, accV, st5, (ra.keep k3).keep k5, d5.1, d5.2, s5, (k2.trans k3).trans k5, h5⟩
    · have e : i = items.length := by omega
      subst e
      rw [List.drop_length] at hf2
      refine .inl ⟨it.stops H2 st2 k2 s2 hf2.1, ?_⟩
      have kk := k1.trans k2
      refine hq _ H2 _ (put st2 Dl (.lst acc)) ⟨kk.tup, kk.scr, kk.tps, fun a o h nx n => ⟨(kk.oth a o h nx n).1, ?_⟩, kk.xds⟩ (fun a o h => ?_) (Rep_ref.mpr rfl) (hf2.2 Dl nD)
      · have h1 := (k1.oth a o h nx n).1
        have ne : a ≠ Dl := fun z => by rw [z, hD] at h1; cases h1
        rw [put_ne ne]; exact (kk.oth a o h nx n).2
      · by_cases ne : a = Dl
        · subst ne
          rw [put_same] at h; cases h
          exact ⟨accV, eD, ra⟩
        · rw [put_ne ne] at h
          exact s2 a o h
end DL

namespace DL
open PySem PySem.Spec PyProof.Rows L2
abbrev noW : WX := fun _ _ _ _ => False
section
variable {X : Cx} {W : WX} {elt tg iter : Expr} {ifs : List Expr} {scope : Scope} {own : List (Str × Nat)} {pos : Pos} {wi : WI} {g : TG} {bind : D → DE → (DE → Prop) → Prop} {wt : WT} {we : WE}
/-- [elt for target in iter if ..] -/
theorem je_lc (hN : X.N.Nodup) (hi : JI X W tg iter wi) (ok : blkC X.N X.env.scope scope own = true) (bo : BindOk X.K g bind (own.map (·.2)))
    (hg : ∀ (s : Shared) (H : Hp) (C : Addr) (cl : List (Str × Addr)) (fp : List Addr), PG (X.blk s H scope (compEnvC scope cl C X.env) fp) tg g) (ht : ∀ (s : Shared) (H : Hp) (C : Addr) (cl : List (Str × Addr)) (fp : List Addr), JTs (X.blk s H scope (compEnvC scope cl C X.env) fp) noW ifs wt)
    (he : ∀ (s : Shared) (H : Hp) (C : Addr) (cl : List (Str × Addr)) (fp : List Addr), JE (X.blk s H scope (compEnvC scope cl C X.env) fp) noW elt we) (hc : X.calm = true := by rfl) (hs : ∀ x, foldedSetIterable iter X.env x = pure x := by intro _; rfl) :
    JE X W (.ListComp elt [⟨tg, iter, ifs, 0⟩] scope pos) (wLc wi bind (own.map (·.2)) wt we) :=
  (pe_lc hc hN hi (blkOk_by ok) hg ht he hs).weak (lc_ok bo)
/-- name = [..] -/
theorem js_setlc {i : Nat} {y : Str} {py spos : Pos} (hN : X.N.Nodup) (hi : JI X W tg iter wi) (ok : blkC X.N X.env.scope scope own = true) (bo : BindOk X.K g bind (own.map (·.2)))
    (hg : ∀ (s : Shared) (H : Hp) (C : Addr) (cl : List (Str × Addr)) (fp : List Addr), PG (X.blk s H scope (compEnvC scope cl C X.env) fp) tg g) (ht : ∀ (s : Shared) (H : Hp) (C : Addr) (cl : List (Str × Addr)) (fp : List Addr), JTs (X.blk s H scope (compEnvC scope cl C X.env) fp) noW ifs wt)
    (he : ∀ (s : Shared) (H : Hp) (C : Addr) (cl : List (Str × Addr)) (fp : List Addr), JE (X.blk s H scope (compEnvC scope cl C X.env) fp) noW elt we)
    (hsw : swapsWith (.ListComp elt [⟨tg, iter, ifs, 0⟩] scope pos) (some (.Name y py)) spos.line X.env = pure true) (hc : X.calm = true := by rfl) (hy : X.N[i]? = some y := by rfl) (hyl : X.env.scope.names.lookup y = some .local := by rfl) (hs : ∀ x, foldedSetIterable iter X.env x = pure x := by intro _; rfl) :
    JS X W (.Assign [.Name y py] (.ListComp elt [⟨tg, iter, ifs, 0⟩] scope pos) spos) (wSet i (wLc wi bind (own.map (·.2)) wt we)) := by
  refine (ps_setLc (te := twE X.K noW we) (tt := twT X.K noW wt) hc hN hy hyl hsw hi (blkOk_by ok) hg ht he hs).weak ?_
  rintro Dn sg H ⟨ep, st, E, he, hs, hw, ok⟩
  refine lc_ok bo sg H _ ⟨ep, st, _, _, he, hs, hw, fun v H' d st' k s r h => ?_, ok.okX he⟩
  exact ok.nx _ H' _ st' k s ((he.keep k).set r i) h
end

/-! ### isinstance against built-in types -/
inductive Ty5 where
  | int | bool | str | tup | lst
def Ty5.nm : Ty5 → String
  | .int => "int" | .bool => "bool" | .str => "str" | .tup => "tuple" | .lst => "list"
/-- is it one; of a list or an instance ask the store -/
def isTy : Ty5 → D → Bool
  | .int, .int _ => true
  | .int, .bl _ => true
  | .bool, .bl _ => true
  | .str, .str _ => true
  | .tup, .tup _ => true
  | .lst, .ref _ => true
  | .lst, .scr _ => true
  | _, _ => false
def lstOk (d : D) (st : DS) : Prop := match d with
  | .ref a => getL st a fun _ => True
  | .key _ => False
  | _ => True
def wIsi (T : Ty5) (we : WE) : WE := fun ep st R Rx => we ep st (fun d st' => lstOk d st' ∧ R (.bl (isTy T d)) st') Rx
theorem tyx_of {K : PySem.W.Frag} {H : Hp} {st : DS} {d : D} {v : V} (hs : RepS K H st) (r : Rep K H d v) (h : lstOk d st) :
    ∃ n : String, TyX K H v (.type n) ∧ ∀ T : Ty5, kitB n T.nm = some (isTy T d) := by
  cases d with
  | non => rw [Rep_non.mp r]; exact ⟨_, .base .non, fun T => by cases T <;> decide +kernel⟩
  | bl b => rw [Rep_bl.mp r]; exact ⟨_, .base (.bl b), fun T => by cases T <;> (show kitB _ _ = some _; simp only [isTy, Ty5.nm]; decide +kernel)⟩
  | int b => rw [Rep_int.mp r]; exact ⟨_, .base (.int b), fun T => by cases T <;> (show kitB _ _ = some _; simp only [isTy, Ty5.nm]; decide +kernel)⟩
  | str b => rw [Rep_str.mp r]; exact ⟨_, .base (.str b), fun T => by cases T <;> (show kitB _ _ = some _; simp only [isTy, Ty5.nm]; decide +kernel)⟩
  | tup ds =>
    obtain ⟨a, vs, rfl, t, q⟩ := Rep_tup.mp r
    have fin : ∀ T : Ty5, kitB "tuple" T.nm = some (isTy T (.tup ds)) := fun T => by cases T <;> (simp only [isTy, Ty5.nm]; decide +kernel)
    rcases t with (h | ⟨o, h⟩) | ⟨o, its, n, hk, hc, _⟩
    · exact ⟨"tuple", .base (.tup h), fin⟩
    · exact ⟨"tuple", .fTuple h, fin⟩
    · exact ⟨"tuple", .kTuple hk hc, fin⟩
  | ref a =>
    obtain ⟨ds, e, _⟩ := getL_inv h
    obtain ⟨vs, e1, _⟩ := hs a _ e
    rw [Rep_ref.mp r]
    exact ⟨"list", .base (.lst e1), fun T => by cases T <;> (simp only [isTy, Ty5.nm]; decide +kernel)⟩
  | key ds => exact h.elim
  | scr ds =>
    obtain ⟨a, vs, rfl, t, q⟩ := Rep_scr.mp r
    have fin : ∀ T : Ty5, kitB "list" T.nm = some (isTy T (.scr ds)) := fun T => by cases T <;> (simp only [isTy, Ty5.nm]; decide +kernel)
    rcases t with ⟨o, h⟩ | ⟨o, its, n, hk, hc, _⟩
    · exact ⟨"list", .base (.frz h), fin⟩
    · exact ⟨"list", .kList hk hc, fin⟩
section
variable {X : Cx} {W : WX} {e : Expr} {we : WE} {p p2 pos : Pos}
theorem j_isi (T : Ty5) {x : Str} (hm : X.mg "isinstance" = none) (hmT : X.mg x = none) (hv : bootBuiltins x = some (.type T.nm)) (h : JE X W e we) (hg : Gl X "isinstance" := by rfl) (hgT : Gl X x := by rfl) (hn : x ≠ "__name__" := by decide) (hdb : (x == ("__debug__" : Str)) = false := by decide)
    (hs : starEach [e, .Name x p2] X.env = (false, eval e X.env) :: starEach [.Name x p2] X.env := by rfl) (hs2 : starEach [.Name x p2] X.env = (false, eval (.Name x p2) X.env) :: starEach [] X.env := by rfl) (hpl : (backTo pos (starEach [.Name x p2] X.env)).any (·.1) = false := by rfl) :
    JE X W (.Call (.Name "isinstance" p) [e, .Name x p2] [] pos) (wIsi T we) := by
  refine (pe_callB call_isi hg hm (by decide +kernel) (pa_cons h (pa_cons (pe_bltn (v := .ty T.nm) hgT hmT hv rfl hn hdb) pa_nil hs2) hs) (by decide) (by decide) hs hpl).weak ?_
  rintro sg H Q ⟨ep, st, R, Rx, he, hs, hw, hq, hx⟩
  refine ⟨ep, st, _, _, he, hs, hw, fun v H' d st' k s r h => ?_, hx⟩
  obtain ⟨h1, h2⟩ := h
  obtain ⟨n, ty, kit⟩ := tyx_of s r h1
  exact ⟨v, .ty T.nm, .type n, .type T.nm, isTy T d, rfl, .ty _, ty, kit_ty (kit T), hq _ H' _ st' k s (Rep_bl.mpr rfl) h2⟩
end

/-! ### methods of lists -/
def isLst (d : D) (st : DS) : Prop := match d with
  | .ref a => getL st a fun _ => True
  | _ => False
abbrev FM := D → List D → DS → RD → Prop
def wM (f : FM) (wo : WE) (wa : WA) : WE := fun ep st R Rx => wo ep st (fun o st1 => isLst o st1 ∧ wa ep st1 (fun ds st2 => f o ds st2 R) Rx) Rx
def SimM (K : PySem.W.Frag) (r : V → List V → Hp → VK → Prop) (f : FM) : Prop := ∀ H st o v vs ds R Q, RepS K H st → Rep K H o v → Reps K H ds vs → f o ds st R → OkQ K H st R Q → r v vs H Q
theorem lst_tyV {K : PySem.W.Frag} {H : Hp} {st : DS} {d : D} {v : V} (hs : RepS K H st) (r : Rep K H d v) (h : isLst d st) : tyV K "list" v H := by
  cases d with
  | ref a =>
    obtain ⟨ds, e, _⟩ := getL_inv h
    obtain ⟨vs, e1, _⟩ := hs a _ e
    rw [Rep_ref.mp r]
    exact .inl ⟨rfl, vs, SqL.of e1⟩
  | _ => exact h.elim
section
variable {X : Cx} {W : WX} {o e : Expr} {es : List Expr} {wo : WE} {wa : WA} {n : Nat} {name : Str} {apos cpos : Pos} {id : String} {r : V → List V → Hp → VK → Prop} {f : FM}
theorem j_meth (slot : Slot "list" name id) (hty : typeOf (.builtin id) = pure (.type "method_descriptor")) (hm : MtR X id r) (hf : SimM X.K r f) (ho : JE X W o wo) (ha : JA X W n (e :: es) wa)
    (hbase : attributeBase o name X.env (eval o X.env) = eval o X.env := by rfl)
    (hfew : ((backTo cpos (starEach (e :: es) X.env)).all (fun x => !x.1) && (backToKw cpos (keywordEach [] X.env)).all (fun x => x.1.isSome)
      && decide ((e :: es).length + ([] : List Keyword).length + (if ([] : List Keyword).isEmpty then 0 else 1) < 30)) = true := by rfl)
    (hline : (apos.endLine == cpos.line) = true := by rfl) (hs : starEach (e :: es) X.env = (false, eval e X.env) :: starEach es X.env := by rfl) (hplain : (backTo cpos (starEach es X.env)).any (·.1) = false := by rfl) :
    JE X W (.Call (.Attribute o name apos) (e :: es) [] cpos) (wM f wo wa) := by
  refine (pe_bm PySem.F.plainAttrs_list slot hty hm ho ha hbase hfew hline hs hplain).weak ?_
  rintro sg H Q ⟨ep, st, R, Rx, he, hs, hw, hq, hx⟩
  refine ⟨ep, st, _, _, he, hs, hw, fun v H1 d st1 k s r1 h => ⟨lst_tyV s r1 h.1, ?_⟩, hx⟩
  exact ⟨ep, st1, _, _, he.keep k, s, h.2, fun vs H2 ds st2 hl k2 s2 r2 h2 => hf H2 st2 d v vs ds R Q s2 (r1.keep k2) r2 h2 (hq.keep (k.trans k2)), hx.keep k⟩
theorem j_meth0 (slot : Slot "list" name id) (hty : typeOf (.builtin id) = pure (.type "method_descriptor")) (hm : MtR X id r) (hf : SimM X.K r f) (ho : JE X W o wo)
    (hbase : attributeBase o name X.env (eval o X.env) = eval o X.env := by rfl) (hline : (apos.endLine == cpos.line) = true := by rfl) : JE X W (.Call (.Attribute o name apos) [] [] cpos) (wM f wo wANil) := by
  refine (pe_bm0 PySem.F.plainAttrs_list slot hty hm ho hbase hline).weak ?_
  rintro sg H Q ⟨ep, st, R, Rx, he, hs, hw, hq, hx⟩
  refine ⟨ep, st, _, _, he, hs, hw, fun v H1 d st1 k s r1 h => ⟨lst_tyV s r1 h.1, ?_⟩, hx⟩
  exact hf H1 st1 d v [] [] R Q s r1 Reps.nil h.2 (hq.keep k)
end
def appendD : FM := fun o ds st R => match o, ds with
  | .ref a, [d] => getL st a fun es => es.length < sizeLine ∧ R .non (put st a (.lst (es ++ [d])))
  | _, _ => False
def extendD : FM := fun o ds st R => match o, ds with
  | .ref a, [.ref b] => getL st a fun es => getL st b fun fs => es.length + fs.length ≤ sizeLine ∧ R .non (put st a (.lst (es ++ fs)))
  | _, _ => False
def popD : FM := fun o ds st R => match o, ds with
  | .ref a, [] => getL st a fun es => optP es[es.length - 1]? fun d => R d (put st a (.lst es.dropLast))
  | .ref a, [.int i] => getL st a fun es => (-(2 ^ 63) ≤ i ∧ i < 2 ^ 63) ∧ optP (ixN es.length i) fun k => optP es[k]? fun d => R d (put st a (.lst (es.eraseIdx k)))
  | _, _ => False
def reverseD : FM := fun o ds st R => match o, ds with
  | .ref a, [] => getL st a fun es => R .non (put st a (.lst es.reverse))
  | _, _ => False
section
variable {K : PySem.W.Frag}
theorem sim_append : SimM K rAppend appendD := by
  intro H st o v vs ds R Q hs ro rs hf hq
  match o, ds, hf with
  | .ref a, [d], hf =>
    obtain ⟨es, e, hl, h⟩ := getL_inv hf
    obtain ⟨us, e1, q⟩ := hs a _ e
    obtain ⟨x, t, rfl, r1, r2⟩ := Reps_cons.mp rs
    rw [Reps_nil.mp r2]
    refine ⟨a, us, x, Rep_ref.mp ro, rfl, e1, by rw [← q.length]; exact hl, ?_⟩
    have k := hs.keepW e (HO.lst (us ++ [x])) (OB.lst (es ++ [d]))
    exact hq _ _ _ _ k (hs.write e ⟨_, upd_same, (q.keep k).append (.cons (r1.keep k) Reps.nil)⟩) (Rep_non.mpr rfl) h
theorem sim_extend : SimM K rExtend extendD := by
  intro H st o v vs ds R Q hs ro rs hf hq
  match o, ds, hf with
  | .ref a, [.ref b], hf =>
    obtain ⟨es, e, hf⟩ := getL_inv hf
    obtain ⟨fs, f, hl, h⟩ := getL_inv hf
    obtain ⟨us, e1, q⟩ := hs a _ e
    obtain ⟨ws, f1, q2⟩ := hs b _ f
    obtain ⟨x, t, rfl, r1, r2⟩ := Reps_cons.mp rs
    rw [Reps_nil.mp r2, Rep_ref.mp r1]
    refine ⟨a, b, us, ws, Rep_ref.mp ro, rfl, e1, f1, by rw [← q.length, ← q2.length]; exact hl, ?_⟩
    have k := hs.keepW e (HO.lst (us ++ ws)) (OB.lst (es ++ fs))
    exact hq _ _ _ _ k (hs.write e ⟨_, upd_same, (q.keep k).append (q2.keep k)⟩) (Rep_non.mpr rfl) h
theorem Reps.dropLast {H : Hp} : ∀ {ds : List D} {vs : List V}, Reps K H ds vs → Reps K H ds.dropLast vs.dropLast
  | [], _, h => by rw [Reps_nil.mp h]; exact Reps.nil
  | [d], _, h => by
    obtain ⟨x, t, rfl, r1, r2⟩ := Reps_cons.mp h
    rw [Reps_nil.mp r2]; exact Reps.nil
  | d :: e :: ds, _, h => by
    obtain ⟨x, t, rfl, r1, r2⟩ := Reps_cons.mp h
    obtain ⟨y, t2, rfl, r3, r4⟩ := Reps_cons.mp r2
    exact .cons r1 (Reps.dropLast r2)
theorem sim_pop : SimM K (fun x xs H Q => rPop x xs H Q ∨ rPopAt x xs H Q) popD := by
  intro H st o v vs ds R Q hs ro rs hf hq
  match o, ds, hf with
  | .ref a, [], hf =>
    obtain ⟨es, e, hf⟩ := getL_inv hf
    obtain ⟨d, hd, h⟩ := optP_inv hf
    obtain ⟨us, e1, q⟩ := hs a _ e
    rw [Reps_nil.mp rs]
    obtain ⟨y, hy, ry⟩ := q.get hd
    refine .inl ⟨a, us, y, Rep_ref.mp ro, rfl, e1, by rw [← q.length]; exact hy, ?_⟩
    have k := hs.keepW e (HO.lst us.dropLast) (OB.lst es.dropLast)
    exact hq _ _ _ _ k (hs.write e ⟨_, upd_same, (q.keep k).dropLast⟩) (ry.keep k) h
  | .ref a, [.int i], hf =>
    obtain ⟨es, e, hi, hf⟩ := getL_inv hf
    obtain ⟨j, hj, hf⟩ := optP_inv hf
    obtain ⟨d, hd, h⟩ := optP_inv hf
    obtain ⟨us, e1, q⟩ := hs a _ e
    obtain ⟨x, t, rfl, r1, r2⟩ := Reps_cons.mp rs
    rw [Reps_nil.mp r2, Rep_int.mp r1]
    obtain ⟨y, hy, ry⟩ := q.get hd
    refine .inr ⟨a, us, i, j, y, Rep_ref.mp ro, rfl, e1, hi.1, hi.2, by rw [← q.length]; exact (ixN_seq hj).1, hy, ?_⟩
    have k := hs.keepW e (HO.lst (us.eraseIdx j)) (OB.lst (es.eraseIdx j))
    exact hq _ _ _ _ k (hs.write e ⟨_, upd_same, (q.keep k).eraseIdx j⟩) (ry.keep k) h
theorem sim_reverse : SimM K rReverse reverseD := by
  intro H st o v vs ds R Q hs ro rs hf hq
  match o, ds, hf with
  | .ref a, [], hf =>
    obtain ⟨es, e, h⟩ := getL_inv hf
    obtain ⟨us, e1, q⟩ := hs a _ e
    rw [Reps_nil.mp rs]
    refine ⟨a, us, Rep_ref.mp ro, rfl, e1, ?_⟩
    have k := hs.keepW e (HO.lst us.reverse) (OB.lst es.reverse)
    exact hq _ _ _ _ k (hs.write e ⟨_, upd_same, (q.keep k).reverse⟩) (Rep_non.mpr rfl) h
end
section
variable {X : Cx} {W : WX} {o e : Expr} {wo : WE} {wa : WA} {n : Nat} {apos cpos : Pos}
theorem j_append (ho : JE X W o wo) (ha : JA X W n [e] wa) (hbase : attributeBase o "append" X.env (eval o X.env) = eval o X.env := by rfl)
    (hfew : ((backTo cpos (starEach [e] X.env)).all (fun x => !x.1) && (backToKw cpos (keywordEach [] X.env)).all (fun x => x.1.isSome)
      && decide ([e].length + ([] : List Keyword).length + (if ([] : List Keyword).isEmpty then 0 else 1) < 30)) = true := by rfl) (hline : (apos.endLine == cpos.line) = true := by rfl) (hs : starEach [e] X.env = (false, eval e X.env) :: starEach [] X.env := by rfl) :
    JE X W (.Call (.Attribute o "append" apos) [e] [] cpos) (wM appendD wo wa) := j_meth PySem.F.slot_list_append PySem.F.type_list_append mt_append sim_append ho ha hbase hfew hline hs
theorem j_extend (ho : JE X W o wo) (ha : JA X W n [e] wa) (hbase : attributeBase o "extend" X.env (eval o X.env) = eval o X.env := by rfl)
    (hfew : ((backTo cpos (starEach [e] X.env)).all (fun x => !x.1) && (backToKw cpos (keywordEach [] X.env)).all (fun x => x.1.isSome)
      && decide ([e].length + ([] : List Keyword).length + (if ([] : List Keyword).isEmpty then 0 else 1) < 30)) = true := by rfl) (hline : (apos.endLine == cpos.line) = true := by rfl) (hs : starEach [e] X.env = (false, eval e X.env) :: starEach [] X.env := by rfl) :
    JE X W (.Call (.Attribute o "extend" apos) [e] [] cpos) (wM extendD wo wa) := j_meth PySem.F.slot_list_extend PySem.F.type_list_extend mt_extend sim_extend ho ha hbase hfew hline hs
theorem j_popAt (ho : JE X W o wo) (ha : JA X W n [e] wa) (hbase : attributeBase o "pop" X.env (eval o X.env) = eval o X.env := by rfl)
    (hfew : ((backTo cpos (starEach [e] X.env)).all (fun x => !x.1) && (backToKw cpos (keywordEach [] X.env)).all (fun x => x.1.isSome)
      && decide ([e].length + ([] : List Keyword).length + (if ([] : List Keyword).isEmpty then 0 else 1) < 30)) = true := by rfl) (hline : (apos.endLine == cpos.line) = true := by rfl) (hs : starEach [e] X.env = (false, eval e X.env) :: starEach [] X.env := by rfl) :
    JE X W (.Call (.Attribute o "pop" apos) [e] [] cpos) (wM popD wo wa) := j_meth PySem.F.slot_list_pop PySem.F.type_list_pop (MtR.or mt_pop mt_popAt) sim_pop ho ha hbase hfew hline hs
theorem j_pop (ho : JE X W o wo) (hbase : attributeBase o "pop" X.env (eval o X.env) = eval o X.env := by rfl) (hline : (apos.endLine == cpos.line) = true := by rfl) :
    JE X W (.Call (.Attribute o "pop" apos) [] [] cpos) (wM popD wo wANil) := j_meth0 PySem.F.slot_list_pop PySem.F.type_list_pop (MtR.or mt_pop mt_popAt) sim_pop ho hbase hline
end
end DL

namespace DL
open PySem PySem.Spec PyProof.Rows L2
def wNeg (wa : WE) : WE := fun ep st R Rx => wa ep st (fun d st' => asI d fun i => R (.int (-i)) st') Rx
def wNotV (wa : WE) : WE := fun ep st R Rx => wB wa ep st (fun c st' => R (.bl (!c)) st') Rx
def wAndV (wa wb : WE) : WE := fun ep st R Rx => wB wa ep st (fun c st' => cnd c (fun _ => wb ep st' R Rx) (fun _ => R (.bl false) st')) Rx
def wOrV (wa wb : WE) : WE := fun ep st R Rx => wB wa ep st (fun c st' => cnd c (fun _ => R (.bl true) st') (fun _ => wb ep st' R Rx)) Rx
def wNoneT (neg : Bool) (wa : WE) : WT := fun ep st R Rx => wa ep st (fun d st' => R (if neg = true then !d.isNon else d.isNon) st') Rx
section
variable {X : Cx} {W : WX} {a b : Expr} {wa wb : WE} {k : Nat} {pos : Pos}
theorem jc_lt (ha : JE X W a wa) (hb : JE X W b wb) : JE X W (.Compare a [.Lt] [b] pos) (wBin ltD wa wb) := j_cmp op_lt sim_cmp ha hb
theorem jc_le (ha : JE X W a wa) (hb : JE X W b wb) : JE X W (.Compare a [.LtE] [b] pos) (wBin leD wa wb) := j_cmp op_le sim_cmp ha hb
theorem jc_gt (ha : JE X W a wa) (hb : JE X W b wb) : JE X W (.Compare a [.Gt] [b] pos) (wBin gtD wa wb) := j_cmp op_gt sim_cmp ha hb
theorem jc_ge (ha : JE X W a wa) (hb : JE X W b wb) : JE X W (.Compare a [.GtE] [b] pos) (wBin geD wa wb) := j_cmp op_ge sim_cmp ha hb
theorem jc_eq (hr : Room k X.A) (ha : JE X W a wa) (hb : JE X W b wb) : JE X W (.Compare a [.Eq] [b] pos) (wBin eqD wa wb) := j_cmp (OpR_or op_eq (op_eqD hr.units)) sim_eq ha hb
theorem jc_ne (hr : Room k X.A) (ha : JE X W a wa) (hb : JE X W b wb) : JE X W (.Compare a [.NotEq] [b] pos) (wBin neD wa wb) := j_cmp (OpR_or op_ne (op_neD hr.units)) sim_ne ha hb
theorem jc_in (ha : JE X W a wa) (hb : JE X W b wb) (hm : behindInMarks .In b = false := by rfl) : JE X W (.Compare a [.In] [b] pos) (wBin (inD false) wa wb) := j_cmp op_inA sim_in ha hb hm
theorem jc_nin (ha : JE X W a wa) (hb : JE X W b wb) (hm : behindInMarks .NotIn b = false := by rfl) : JE X W (.Compare a [.NotIn] [b] pos) (wBin (inD true) wa wb) := j_cmp op_notInA sim_in ha hb hm
theorem jt_lt (ha : JE X W a wa) (hb : JE X W b wb) : JT X W (.Compare a [.Lt] [b] pos) (wBinT ltD wa wb) := j_cmpT op_lt sim_cmp ha hb
theorem jt_le (ha : JE X W a wa) (hb : JE X W b wb) : JT X W (.Compare a [.LtE] [b] pos) (wBinT leD wa wb) := j_cmpT op_le sim_cmp ha hb
theorem jt_gt (ha : JE X W a wa) (hb : JE X W b wb) : JT X W (.Compare a [.Gt] [b] pos) (wBinT gtD wa wb) := j_cmpT op_gt sim_cmp ha hb
theorem jt_ge (ha : JE X W a wa) (hb : JE X W b wb) : JT X W (.Compare a [.GtE] [b] pos) (wBinT geD wa wb) := j_cmpT op_ge sim_cmp ha hb
theorem jt_eq (hr : Room k X.A) (ha : JE X W a wa) (hb : JE X W b wb) : JT X W (.Compare a [.Eq] [b] pos) (wBinT eqD wa wb) := j_cmpT (OpR_or op_eq (op_eqD hr.units)) sim_eq ha hb
theorem jt_ne (hr : Room k X.A) (ha : JE X W a wa) (hb : JE X W b wb) : JT X W (.Compare a [.NotEq] [b] pos) (wBinT neD wa wb) := j_cmpT (OpR_or op_ne (op_neD hr.units)) sim_ne ha hb
theorem jt_in (ha : JE X W a wa) (hb : JE X W b wb) (hm : behindInMarks .In b = false := by rfl) : JT X W (.Compare a [.In] [b] pos) (wBinT (inD false) wa wb) := j_cmpT op_inA sim_in ha hb hm
theorem jt_nin (ha : JE X W a wa) (hb : JE X W b wb) (hm : behindInMarks .NotIn b = false := by rfl) : JT X W (.Compare a [.NotIn] [b] pos) (wBinT (inD true) wa wb) := j_cmpT op_notInA sim_in ha hb hm
theorem jt_isN {j p2} (ha : JE X W a wa) : JT X W (.Compare a [.Is] [.Constant .none j p2] pos) (wNoneT false wa) := by
  refine (pt_cmp (pc_isN ha)).weak ?_
  rintro sg H Q ⟨ep, st, R, Rx, he, hs, hw, hq, hx⟩
  refine ⟨ep, st, _, Rx, he, hs, hw, fun v H' d st' k s r h => ?_, hx⟩
  refine ⟨_, rfl, ?_⟩
  rw [non_dec r]
  exact hq _ _ _ k s h
theorem jt_notN {j p2} (ha : JE X W a wa) : JT X W (.Compare a [.IsNot] [.Constant .none j p2] pos) (wNoneT true wa) := by
  refine (pt_cmp (pc_notN ha)).weak ?_
  rintro sg H Q ⟨ep, st, R, Rx, he, hs, hw, hq, hx⟩
  refine ⟨ep, st, _, Rx, he, hs, hw, fun v H' d st' k s r h => ?_, hx⟩
  refine ⟨_, rfl, ?_⟩
  rw [non_dec r]
  exact hq _ _ _ k s h
end
end DL

/-! Steps of a reading, from the left. -/
namespace DL
open PySem PySem.Spec PyProof.Rows L2
section
variable {E : Ed} {ep : DE} {st : DS} {R : RD} {Rx : RX} {i j k : Nat} {a b c : WS} {wa wb wc : WE} {ta tb : WT} {as : WA} {A B : Unit → Prop} {f : F2} {d x y : D} {RA : List D → DS → Prop} {RT : Bool → DS → Prop}
theorem s_seq (h : a { nx := fun ep' st' => b E ep' st', rt := E.rt, bk := E.bk, ct := E.ct, ex := E.ex } ep st) : wSeq a b E ep st := h
theorem s_seqM {nx rt bk ct ex} (h : a { nx := fun ep' st' => b { nx := nx, rt := rt, bk := bk, ct := ct, ex := ex } ep' st', rt := rt, bk := bk, ct := ct, ex := ex } ep st) : wSeq a b { nx := nx, rt := rt, bk := bk, ct := ct, ex := ex } ep st := h
theorem s_asB {b : Bool} {q : Bool → Prop} (h : q b) : asB (.bl b) q := h
theorem s_asI {b : Int} {q : Int → Prop} (h : q b) : asI (.int b) q := h
theorem s_asRI {p : Addr} {z : Int} {q : Addr → Int → Prop} (h : q p z) : asRI (.ref p) (.int z) q := h
theorem s_next (h : E.nx ep st) : wNext E ep st := h
theorem s_nextM {nx rt bk ct ex} (h : nx ep st) : wNext { nx := nx, rt := rt, bk := bk, ct := ct, ex := ex } ep st := h
theorem s_set {nx rt bk ct ex} (h : wa ep st (fun d st' => nx (ep.set i (some d)) st') (fun x st' => ex x ep st')) : wSet i wa { nx := nx, rt := rt, bk := bk, ct := ct, ex := ex } ep st := h
theorem s_drop {nx rt bk ct ex} (h : wa ep st (fun _ st' => nx ep st') (fun x st' => ex x ep st')) : wDrop wa { nx := nx, rt := rt, bk := bk, ct := ct, ex := ex } ep st := h
theorem s_ret {nx rt bk ct ex} (h : wa ep st (fun d st' => rt d st') (fun x st' => ex x ep st')) : wRet wa { nx := nx, rt := rt, bk := bk, ct := ct, ex := ex } ep st := h
theorem s_retN {nx rt bk ct ex} (h : rt .non st) : wRetN { nx := nx, rt := rt, bk := bk, ct := ct, ex := ex } ep st := h
theorem s_brk {nx rt bk ct ex} (h : bk ep st) : wBrk { nx := nx, rt := rt, bk := bk, ct := ct, ex := ex } ep st := h
theorem s_cnt {nx rt bk ct ex} (h : ct ep st) : wCnt { nx := nx, rt := rt, bk := bk, ct := ct, ex := ex } ep st := h
theorem s_if {nx rt bk ct ex} (h : ta ep st (fun t st' => cnd t (fun _ => a { nx := nx, rt := rt, bk := bk, ct := ct, ex := ex } ep st') (fun _ => b { nx := nx, rt := rt, bk := bk, ct := ct, ex := ex } ep st')) (fun x st' => ex x ep st')) : wIf ta a b { nx := nx, rt := rt, bk := bk, ct := ct, ex := ex } ep st := h
theorem s_par {nx rt bk ct ex} (h : wa ep st (fun x st1 => wb ep st1 (fun y st2 => nx ((ep.set i (some x)).set j (some y)) st2) (fun x st' => ex x ep st')) (fun x st' => ex x ep st')) : wPar i j wa wb { nx := nx, rt := rt, bk := bk, ct := ct, ex := ex } ep st := h
theorem s_asg {g : DG} {nx rt bk ct ex} (h : wa ep st (fun d st' => g d ep st' nx) (fun x st' => ex x ep st')) : wAsg wa g { nx := nx, rt := rt, bk := bk, ct := ct, ex := ex } ep st := h
theorem s_for {wi : WI} {g : DG} {nx rt bk ct ex} (h : wi ep st (fun items G st' => forL g b G { nx := nx, rt := rt, bk := bk, ct := ct, ex := ex } items ep st') (fun x st' => ex x ep st')) : wFor wi g b { nx := nx, rt := rt, bk := bk, ct := ct, ex := ex } ep st := h
theorem s_aug {v : D} {nx rt bk ct ex} (e : lk ep i = some v) (h : wa ep st (fun y st1 => f v y st1 (fun z st2 => nx (ep.set i (some z)) st2)) (fun x st' => ex x ep st')) : wAug i f wa { nx := nx, rt := rt, bk := bk, ct := ct, ex := ex } ep st := by
  unfold wAug; rw [e]; exact h
theorem s_augix {nx rt bk ct ex} (h : wa ep st (fun o st1 => wb ep st1 (fun i st2 => asRI o i fun a z => 0 ≤ z ∧ getL st2 a fun ds => optP (atI ds z) fun x => wc ep st2 (fun y st3 => f x y st3 (fun v st4 => setD (.ref a) (.int z) v st4 (fun st5 => nx ep st5))) (fun x st' => ex x ep st')) (fun x st' => ex x ep st')) (fun x st' => ex x ep st')) : wAugIx f wa wb wc { nx := nx, rt := rt, bk := bk, ct := ct, ex := ex } ep st := h
theorem s_gN {kk : DE → DS → Prop} (h : kk (ep.set i (some d)) st) : gN i d ep st kk := h
theorem s_gT {n : Nat} {u : DGs} {ds : List D} {kk : DE → DS → Prop} (e : ds.length = n) (h : u ds ep st kk) : gT n u (.tup ds) ep st kk := ⟨e, h⟩
theorem s_gsC {g : DG} {u : DGs} {ds : List D} {kk : DE → DS → Prop} (h : g d ep st (fun ep' st' => u ds ep' st' kk)) : gsCons g u (d :: ds) ep st kk := h
theorem s_gsN {kk : DE → DS → Prop} (h : kk ep st) : gsNil [] ep st kk := h
theorem s_gIx {ff : D → D → D → DS → (DS → Prop) → Prop} {kk : DE → DS → Prop} (h : wa ep st (fun o st1 => wb ep st1 (fun i st2 => ff o i d st2 (fun st3 => kk ep st3)) (fun _ _ => False)) (fun _ _ => False)) : gIx ff wa wb d ep st kk := h
theorem s_setD {z : Int} {p : Addr} {q : DS → Prop} (h : getL st p fun ds => optP (ixN ds.length z) fun j => q (put st p (.lst (ds.set j d)))) : setD (.ref p) (.int z) d st q := h
-- expressions
theorem s_var (e : lk ep i = some d) (h : R d st) : wVar i ep st R Rx := by unfold wVar; rw [e]; exact h
theorem s_c (h : R d st) : wC d ep st R Rx := h
theorem s_bin (h : wa ep st (fun x st1 => wb ep st1 (fun y st2 => f x y st2 R) Rx) Rx) : wBin f wa wb ep st R Rx := h
theorem s_binT (h : wa ep st (fun x st1 => wb ep st1 (fun y st2 => f x y st2 (fun d st' => asB d fun b => RT b st')) Rx) Rx) : wBinT f wa wb ep st RT Rx := h
theorem s_cb {ff : FC} (h : as ep st (fun ds st' => ff ds st' R) Rx) : wCB ff as ep st R Rx := h
theorem s_call {S : SpD} (h : as ep st (fun ds st' => S ds st' R Rx) Rx) : wCall S as ep st R Rx := h
theorem s_acons (h : wa ep st (fun d st1 => as ep st1 (fun ds st2 => RA (d :: ds) st2) Rx) Rx) : wACons wa as ep st RA Rx := h
theorem s_anil (h : RA [] st) : wANil ep st RA Rx := h
def tupK (R : RD) : List D → DS → Prop := fun ds st' => R (.tup ds) st' ∨ ∃ ks : List L2.Key, ds = ks.map kD ∧ R (.key ks) st'
theorem s_tup (h : as ep st (tupK R) Rx) : wTup as ep st R Rx := h
theorem s_tpT {R : RD} {ds : List D} (h : R (.tup ds) st) : tupK R ds st := .inl h
theorem s_tpII {R : RD} {i j : Int} (h : R (.key [.inl i, .inl j]) st) : tupK R [.int i, .int j] st := .inr ⟨[.inl i, .inl j], rfl, h⟩
theorem s_tpIII {R : RD} {i j k : Int} (h : R (.key [.inl i, .inl j, .inl k]) st) : tupK R [.int i, .int j, .int k] st := .inr ⟨[.inl i, .inl j, .inl k], rfl, h⟩
theorem s_tpKey {R : RD} {ks : List L2.Key} {ds : List D} (e : ds = ks.map kD) (h : R (.key ks) st) : tupK R ds st := .inr ⟨ks, e, h⟩
theorem s_lst (h : as ep st (fun ds st' => ∀ p, st' p = none → R (.ref p) (put st' p (.lst ds))) Rx) : wLst as ep st R Rx := h
theorem s_b (h : wa ep st (fun d st' => asB d fun b => RT b st') Rx) : wB wa ep st RT Rx := h
theorem s_and (h : ta ep st (fun c st' => cnd c (fun _ => tb ep st' RT Rx) (fun _ => RT false st')) Rx) : wAnd ta tb ep st RT Rx := h
theorem s_or (h : ta ep st (fun c st' => cnd c (fun _ => RT true st') (fun _ => tb ep st' RT Rx)) Rx) : wOr ta tb ep st RT Rx := h
theorem s_not (h : ta ep st (fun c st' => RT (!c) st') Rx) : wNot ta ep st RT Rx := h
theorem s_ife (h : ta ep st (fun t st' => cnd t (fun _ => wa ep st' R Rx) (fun _ => wb ep st' R Rx)) Rx) : wIfE ta wa wb ep st R Rx := h
theorem s_neg (h : wa ep st (fun d st' => asI d fun i => R (.int (-i)) st') Rx) : wNeg wa ep st R Rx := h
theorem s_notV (h : wa ep st (fun d st' => asB d fun c => R (.bl (!c)) st') Rx) : wNotV wa ep st R Rx := h
theorem s_andV (h : wB wa ep st (fun c st' => cnd c (fun _ => wb ep st' R Rx) (fun _ => R (.bl false) st')) Rx) : wAndV wa wb ep st R Rx := h
theorem s_orV (h : wB wa ep st (fun c st' => cnd c (fun _ => R (.bl true) st') (fun _ => wb ep st' R Rx)) Rx) : wOrV wa wb ep st R Rx := h
theorem s_none {neg : Bool} (h : wa ep st (fun d st' => R (.bl (if neg = true then !d.isNon else d.isNon)) st') Rx) : wNone neg wa ep st R Rx := h
theorem s_noneT {neg : Bool} (h : wa ep st (fun d st' => RT (if neg = true then !d.isNon else d.isNon) st') Rx) : wNoneT neg wa ep st RT Rx := h
theorem s_isi {T : Ty5} (h : wa ep st (fun d st' => lstOk d st' ∧ R (.bl (isTy T d)) st') Rx) : wIsi T wa ep st R Rx := h
theorem s_m {ff : FM} (h : wa ep st (fun o st1 => isLst o st1 ∧ as ep st1 (fun ds st2 => ff o ds st2 R) Rx) Rx) : wM ff wa as ep st R Rx := h
theorem s_sl {wl wh : WO} (h : wa ep st (fun x st1 => wl ep st1 (fun lo st2 => wh ep st2 (fun hi st3 => slD x lo hi st3 R) Rx) Rx) Rx) : wSl wa wl wh ep st R Rx := h
theorem s_oN {RO : Option Int → DS → Prop} (h : RO none st) : wONone ep st RO Rx := h
theorem s_oS {RO : Option Int → DS → Prop} (h : wa ep st (fun d st' => asI d fun i => RO (some i) st') Rx) : wOSome wa ep st RO Rx := h
theorem s_lc {wi : WI} {bind : D → DE → (DE → Prop) → Prop} {vs : List Nat} (h : wi ep st (fun items G st' => lcL bind (wipeD ep vs) ta wa G (fun acc st2 => ∀ p, st2 p = none → R (.ref p) (put st2 p (.lst acc))) items [] st') Rx) : wLc wi bind vs ta wa ep st R Rx := h
theorem s_it {RR : List D → (DS → Prop) → DS → Prop} (h : wa ep st (fun d st' => itemsD d st' RR) Rx) : wIt wa ep st RR Rx := h
theorem s_rng {RR : List D → (DS → Prop) → DS → Prop} (h : as ep st (fun ds st' => rngD ds st' RR) Rx) : wRng as ep st RR Rx := h
theorem s_yes (h : RT true st) : wYes ep st RT Rx := h
-- decisions
theorem s_cT (h : A ()) : cnd true A B := by rw [cnd_true]; exact h
theorem s_cF (h : B ()) : cnd false A B := by rw [cnd_false]; exact h
theorem s_dec {p : Prop} [Decidable p] (h1 : p → A ()) (h2 : ¬ p → B ()) : cnd (decide p) A B := ⟨fun e => h1 (of_decide_eq_true e), fun e => h2 (of_decide_eq_false e)⟩
theorem s_ndec {p : Prop} [Decidable p] (h1 : ¬ p → A ()) (h2 : p → B ()) : cnd (!decide p) A B := by
  rw [cnd_not]; exact s_dec h2 h1
theorem s_yesP {p : Prop} [Decidable p] (e : p) (h : A ()) : cnd (decide p) A B := by rw [decide_eq_true e]; exact s_cT h
theorem s_noP {p : Prop} [Decidable p] (e : ¬ p) (h : B ()) : cnd (decide p) A B := by rw [decide_eq_false e]; exact s_cF h
theorem s_nyesP {p : Prop} [Decidable p] (e : ¬ p) (h : A ()) : cnd (!decide p) A B := by rw [decide_eq_false e]; exact s_cT h
theorem s_nnoP {p : Prop} [Decidable p] (e : p) (h : B ()) : cnd (!decide p) A B := by rw [decide_eq_true e]; exact s_cF h
theorem s_b2 {t : Bool} (h1 : t = true → A ()) (h2 : t = false → B ()) : cnd t A B := ⟨h1, h2⟩
-- look-ups
theorem s_getL {p : Addr} {q : List D → Prop} {ds : List D} (e : st p = some (.lst ds)) (h : q ds) : getL st p q := by rw [getL_eq e]; exact h
theorem s_opt {α : Type} {o : Option α} {z : α} {q : α → Prop} (e : o = some z) (h : q z) : optP o q := by rw [e]; exact h
theorem look_ne {p q : Addr} {o : OB} {z : Option OB} (n : q ≠ p) (e : st q = z) : put st p o q = z := by rw [put_ne n]; exact e
theorem look_new {p q : Addr} {o u : OB} (n : st p = none) (e : st q = some u) : put st p o q = some u := by
  rw [put_ne (fun z => by rw [z, n] at e; cases e)]; exact e
theorem ne_new {p q : Addr} {u : OB} (n : st p = none) (e : st q = some u) : q ≠ p := fun z => by rw [z, n] at e; cases e
-- operations
theorem s_addI {m n : Int} (h : R (.int (m + n)) st) : addD (.int m) (.int n) st R := h
theorem s_addT {m n : List D} (e : m.length + n.length ≤ sizeLine) (h : R (.tup (m ++ n)) st) : addD (.tup m) (.tup n) st R := ⟨e, h⟩
theorem s_addS {m n : Str} (e : m.length + n.length ≤ sizeLine) (h : R (.str (m ++ n)) st) : addD (.str m) (.str n) st R := ⟨e, h⟩
theorem s_subI {m n : Int} (h : R (.int (m - n)) st) : subD (.int m) (.int n) st R := h
theorem s_mulI {m n : Int} (e : MulOk m n) (h : R (.int (m * n)) st) : mulD (.int m) (.int n) st R := ⟨e, h⟩
theorem s_divI {m n : Int} (e : 0 < n ∧ n.natAbs.log2 < 9000) (h : R (.int (m / n)) st) : divD (.int m) (.int n) st R := ⟨e, h⟩
theorem s_modI {m n : Int} (e : 0 < n) (h : R (.int (m % n)) st) : modD (.int m) (.int n) st R := ⟨e, h⟩
theorem s_powI {m n : Int} (e : CPow m n) (h : R (.int (m ^ n.toNat)) st) : powD (.int m) (.int n) st R := ⟨e, h⟩
theorem s_shlI {m n : Int} (e : CPow m n) (h : R (.int (m * 2 ^ n.toNat)) st) : shlD (.int m) (.int n) st R := ⟨e, h⟩
theorem s_iaddI {m n : Int} (h : R (.int (m + n)) st) : iaddD (.int m) (.int n) st R := h
theorem s_iaddS {m n : Str} (e : m.length + n.length ≤ sizeLine) (h : R (.str (m ++ n)) st) : iaddD (.str m) (.str n) st R := ⟨e, h⟩
theorem s_eqI {m n : Int} (h : R (.bl (decide (m = n))) st) : eqD (.int m) (.int n) st R := h
theorem s_neI {m n : Int} (h : R (.bl (!decide (m = n))) st) : neD (.int m) (.int n) st R := h
theorem s_eqS {m n : Str} (h : R (.bl (decide (m = n))) st) : eqD (.str m) (.str n) st R := h
theorem s_neS {m n : Str} (h : R (.bl (!decide (m = n))) st) : neD (.str m) (.str n) st R := h
theorem s_eqB {m n : Bool} (h : R (.bl (decide (m = n))) st) : eqD (.bl m) (.bl n) st R := h
theorem s_neB {m n : Bool} (h : R (.bl (!decide (m = n))) st) : neD (.bl m) (.bl n) st R := h
theorem s_cmp {p : Int → Int → Bool} {m n : Int} (h : R (.bl (p m n)) st) : cmpD p (.int m) (.int n) st R := h
theorem s_ixT {ds : List D} {z : Int} (h : optP (atI ds z) fun d => R d st) : ixD (.tup ds) (.int z) st R := h
theorem s_ixS {ds : List D} {z : Int} (h : optP (atI ds z) fun d => R d st) : ixD (.scr ds) (.int z) st R := h
theorem s_ixL {p : Addr} {z : Int} (h : getL st p fun ds => optP (atI ds z) fun d => R d st) : ixD (.ref p) (.int z) st R := h
theorem s_ixX {s : Str} {z : Int} (e : s.length ≤ sizeLine) (h : optP (atI s.cps.toList z) fun c => R (.str ⟨#[c]⟩) st) : ixD (.str s) (.int z) st R := ⟨e, h⟩
theorem s_lenT {ds : List D} (h : R (.int ds.length) st) : lenD [.tup ds] st R := h
theorem s_lenC {ds : List D} (h : R (.int ds.length) st) : lenD [.scr ds] st R := h
theorem s_lenL {p : Addr} (h : getL st p fun es => R (.int es.length) st) : lenD [.ref p] st R := h
theorem s_lenS {s : Str} (e : s.length ≤ sizeLine) (h : R (.int s.length) st) : lenD [.str s] st R := ⟨e, h⟩
theorem s_abs {m : Int} (h : R (.int (if m < 0 then -m else m)) st) : absD [.int m] st R := h
theorem s_intI {m : Int} (h : R (.int m) st) : intD [.int m] st R := h
theorem s_intB {m : Bool} (h : R (.int (if m = true then 1 else 0)) st) : intD [.bl m] st R := h
theorem s_gcd {m n : Int} (h : R (.int ((Nat.gcd m.natAbs n.natAbs : Nat) : Int)) st) : gcdD [.int m, .int n] st R := h
theorem s_listT {ds : List D} (h : ∀ p, st p = none → R (.ref p) (put st p (.lst ds))) : listD [.tup ds] st R := h
theorem s_listL {p : Addr} (h : getL st p fun es => ∀ p, st p = none → R (.ref p) (put st p (.lst es))) : listD [.ref p] st R := h
theorem s_tupT {ds : List D} (h : R (.tup ds) st) : tupleD [.tup ds] st R := h
theorem s_tupL {p : Addr} (h : getL st p fun es => R (.tup es) st) : tupleD [.ref p] st R := h
theorem s_all {p : Addr} (h : getL st p fun es => optP (boolsOf es) fun bs => R (.bl (bs.all fun b => b)) st) : allD [.ref p] st R := h
theorem s_any {p : Addr} (h : getL st p fun es => optP (boolsOf es) fun bs => R (.bl (bs.any fun b => b)) st) : anyD [.ref p] st R := h
theorem s_sum {p : Addr} (h : getL st p fun es => optP (intsOf es) fun ns => R (.int ns.sum) st) : sumD [.ref p] st R := h
theorem s_inL {neg : Bool} {v : D} {p : Addr} (h : getL st p fun ds => v.flat = true ∧ ds.all D.flat = true ∧ R (.bl (if neg = true then !(ds.any fun d => D.feq d v) else ds.any fun d => D.feq d v)) st) : inD neg v (.ref p) st R := h
theorem s_inT {neg : Bool} {v : D} {ds : List D} (h : v.flat = true ∧ ds.all D.flat = true ∧ R (.bl (if neg = true then !(ds.any fun d => D.feq d v) else ds.any fun d => D.feq d v)) st) : inD neg v (.tup ds) st R := h
theorem s_append {p : Addr} (h : getL st p fun es => es.length < sizeLine ∧ R .non (put st p (.lst (es ++ [d])))) : appendD (.ref p) [d] st R := h
theorem s_extend {p q : Addr} (h : getL st p fun es => getL st q fun fs => es.length + fs.length ≤ sizeLine ∧ R .non (put st p (.lst (es ++ fs)))) : extendD (.ref p) [.ref q] st R := h
theorem s_popAt {p : Addr} {z : Int} (h : getL st p fun es => (-(2 ^ 63) ≤ z ∧ z < 2 ^ 63) ∧ optP (ixN es.length z) fun k => optP es[k]? fun d => R d (put st p (.lst (es.eraseIdx k)))) : popD (.ref p) [.int z] st R := h
theorem s_pop {p : Addr} (h : getL st p fun es => optP es[es.length - 1]? fun d => R d (put st p (.lst es.dropLast))) : popD (.ref p) [] st R := h
theorem s_slT {ds : List D} {lo hi : Option Int} (h : R (.tup (cutD ds lo hi)) st) : slD (.tup ds) lo hi st R := h
theorem s_slL {p : Addr} {lo hi : Option Int} (h : getL st p fun ds => ∀ p, st p = none → R (.ref p) (put st p (.lst (cutD ds lo hi)))) : slD (.ref p) lo hi st R := h
theorem s_itT {ds : List D} {RR : List D → (DS → Prop) → DS → Prop} (h : RR ds (fun _ => True) st) : itemsD (.tup ds) st RR := h
theorem s_itC {ds : List D} {RR : List D → (DS → Prop) → DS → Prop} (h : RR ds (fun _ => True) st) : itemsD (.scr ds) st RR := h
theorem s_itL {p : Addr} {RR : List D → (DS → Prop) → DS → Prop} (h : getL st p fun ds => RR ds (fun s => s p = some (.lst ds)) st) : itemsD (.ref p) st RR := h
theorem s_rng1 {z : Int} {RR : List D → (DS → Prop) → DS → Prop} (e : -(2 ^ 62) ≤ z ∧ z < 2 ^ 62) (h : RR ((List.range z.toNat).map fun i : Nat => D.int (0 + i)) (fun _ => True) st) : rngD [.int z] st RR := ⟨e, h⟩
theorem s_rng2 {y z : Int} {RR : List D → (DS → Prop) → DS → Prop} (e : -(2 ^ 62) ≤ y ∧ y < 2 ^ 62 ∧ -(2 ^ 62) ≤ z ∧ z < 2 ^ 62) (h : RR ((List.range (z - y).toNat).map fun i : Nat => D.int (y + i)) (fun _ => True) st) : rngD [.int y, .int z] st RR := ⟨e, h⟩
theorem s_rngD {y z : Int} {RR : List D → (DS → Prop) → DS → Prop} (e : -(2 ^ 62) ≤ y ∧ y < 2 ^ 62 ∧ -(2 ^ 62) ≤ z ∧ z < 2 ^ 62) (h : RR ((List.range (y - z).toNat).map fun i : Nat => D.int (y + i * (-1))) (fun _ => True) st) : rngD [.int y, .int z, .int (-1)] st RR :=
  ⟨_, RgC.neg e.1 e.2.1 e.2.2.1 e.2.2.2, h⟩
/-- the end of a def's body -/
theorem s_end {R : RD} (h : R d st) : ∃ s2, Sub s2 st ∧ R d s2 := ⟨st, .refl _, h⟩
theorem s_endS {R : RD} {s2 : DS} (e : Sub s2 st) (h : R d s2) : ∃ s2, Sub s2 st ∧ R d s2 := ⟨s2, e, h⟩
end
end DL

/-! Loops and comprehensions, by induction. -/
namespace DL
open PySem L2
section
variable {g : DG} {b : WS} {G : DS → Prop} {E : Ed} {ep : DE} {st : DS} {d : D} {r items : List D}
theorem for_nil (hG : G st) (h : E.nx ep st) : forL g b G E [] ep st := ⟨hG, h⟩
theorem for_cons {nx rt bk ct ex} (hG : G st) (h : g d ep st (fun ep' st' => b { nx := forL g b G { nx := nx, rt := rt, bk := bk, ct := ct, ex := ex } r, rt := rt, bk := nx, ct := forL g b G { nx := nx, rt := rt, bk := bk, ct := ct, ex := ex } r, ex := ex } ep' st')) : forL g b G { nx := nx, rt := rt, bk := bk, ct := ct, ex := ex } (d :: r) ep st := ⟨hG, h⟩
/-- a loop by an invariant over what is left -/
theorem for_ind {nx rt bk ct ex} (I : List D → DE → DS → Prop) (h0 : ∀ ep st, I [] ep st → G st ∧ nx ep st)
    (hs : ∀ d r ep st, I (d :: r) ep st → (∀ ep' st', I r ep' st' → forL g b G { nx := nx, rt := rt, bk := bk, ct := ct, ex := ex } r ep' st') → G st ∧ g d ep st (fun ep' st' => b { nx := forL g b G { nx := nx, rt := rt, bk := bk, ct := ct, ex := ex } r, rt := rt, bk := nx, ct := forL g b G { nx := nx, rt := rt, bk := bk, ct := ct, ex := ex } r, ex := ex } ep' st')) :
    ∀ items ep st, I items ep st → forL g b G { nx := nx, rt := rt, bk := bk, ct := ct, ex := ex } items ep st := by
  intro items
  induction items with
  | nil => exact fun ep st i => h0 ep st i
  | cons d r ih => exact fun ep st i => hs d r ep st i ih
end
section
variable {bind : D → DE → (DE → Prop) → Prop} {ep0 ep : DE} {wt : WT} {we : WE} {G : DS → Prop} {k : List D → DS → Prop} {d : D} {r acc items : List D} {st : DS} {q : DE → Prop} {i : Nat}
theorem lc_nil (hG : G st) (h : k acc st) : lcL bind ep0 wt we G k [] acc st := ⟨hG, h⟩
theorem lc_cons (hG : G st) (h : bind d ep0 fun ep => wt ep st (fun b st2 => cnd b (fun _ => we ep st2 (fun y st3 => acc.length < sizeLine ∧ lcL bind ep0 wt we G k r (acc ++ [y]) st3) (fun _ _ => False)) (fun _ => lcL bind ep0 wt we G k r acc st2)) (fun _ _ => False)) :
    lcL bind ep0 wt we G k (d :: r) acc st := ⟨hG, h⟩
theorem s_bN (h : q (ep.set i (some d))) : bN i d ep q := h
theorem s_bT {is : List Nat} {ds : List D} (h : bTn is ds ep q) : bT is (.tup ds) ep q := h
theorem s_bTC {is : List Nat} {ds : List D} (h : bTn is ds (ep.set i (some d)) q) : bTn (i :: is) (d :: ds) ep q := h
theorem s_bTN (h : q ep) : bTn [] [] ep q := h
/-- a comprehension whose turns leave the store as it is -/
theorem lc_calm (f : D → D) (p : D → Bool) (hG : G st) (hl : acc.length + items.length ≤ sizeLine)
    (hs : ∀ d ∈ items, ∀ (kk : D → DS → Prop) (kn : DS → Prop), (p d = true → kk (f d) st) → (p d = false → kn st) → bind d ep0 fun ep => wt ep st (fun b st2 => cnd b (fun _ => we ep st2 kk (fun _ _ => False)) (fun _ => kn st2)) (fun _ _ => False))
    (h : k (acc ++ (items.filter p).map f) st) : lcL bind ep0 wt we G k items acc st := by
  induction items generalizing acc with
  | nil => exact ⟨hG, by simpa using h⟩
  | cons d r ih =>
    refine ⟨hG, hs d List.mem_cons_self _ _ (fun e => ?_) (fun e => ?_)⟩
    · refine ⟨by simp only [List.length_cons] at hl; omega, ih (by simp only [List.length_cons, List.length_append, List.length_nil] at hl ⊢; omega) (fun d hd => hs d (List.mem_cons_of_mem _ hd)) ?_⟩
      rw [List.filter_cons_of_pos e] at h
      simpa using h
    · refine ih (by simp only [List.length_cons] at hl; omega) (fun d hd => hs d (List.mem_cons_of_mem _ hd)) ?_
      rw [List.filter_cons_of_neg (by rw [e]; decide)] at h
      exact h
/-- a comprehension by an invariant -/
theorem lc_ind (I : List D → List D → DS → Prop) (h0 : ∀ acc st, I [] acc st → G st ∧ k acc st)
    (hs : ∀ d r acc st, I (d :: r) acc st → (∀ acc' st', I r acc' st' → lcL bind ep0 wt we G k r acc' st') → G st ∧ bind d ep0 fun ep => wt ep st (fun b st2 => cnd b (fun _ => we ep st2 (fun y st3 => acc.length < sizeLine ∧ lcL bind ep0 wt we G k r (acc ++ [y]) st3) (fun _ _ => False)) (fun _ => lcL bind ep0 wt we G k r acc st2)) (fun _ _ => False)) :
    ∀ items acc st, I items acc st → lcL bind ep0 wt we G k items acc st := by
  intro items
  induction items with
  | nil => exact fun acc st i => h0 acc st i
  | cons d r ih => exact fun acc st i => hs d r acc st i ih
end
theorem s_isLst {p : Addr} {st : DS} {Q : Prop} {ds : List D} (e : st p = some (.lst ds)) (h : Q) : isLst (.ref p) st ∧ Q := ⟨by unfold isLst; exact s_getL e trivial, h⟩
theorem s_lstOkL {p : Addr} {st : DS} {Q : Prop} {ds : List D} (e : st p = some (.lst ds)) (h : Q) : lstOk (.ref p) st ∧ Q := ⟨by unfold lstOk; exact s_getL e trivial, h⟩
end DL

/-! enumerate and zip over lists and tuples, mixed. -/
namespace DL
open PySem PySem.Spec PyProof.Rows L2
/-- t: a tuple; otherwise a list -/
def IterAt (t : Bool) (h : Heap) (it a : Addr) (i : Nat) : Prop := if t = true then h.IsTupleIter it a i else h.IsListIter it a i
def SeqAt (t : Bool) (h : Heap) (a : Addr) (its : Array Value) : Prop := if t = true then h.IsTuple a its else h.IsList a its
def SqB (t : Bool) (K : PySem.W.Frag) (H : Hp) (a : Addr) (xs : List V) : Prop := if t = true then SqT K H a xs else SqL K H a xs
def iterObj (t : Bool) (a : Addr) : Obj := { cls := .type (if t = true then "tuple_iterator" else "list_iterator"), data := .fields #[.ref a, .int 0 0] }
theorem drawsB {prog : Program} {w : World} {A : Around} (t : Bool) (hh : A.handled = none) {it a : Addr} (hne : a ≠ it) (its : Array Value) :
    Draws prog w A it [it, a] its.size (fun i v => its[i]? = some v) (fun i h => IterAt t h it a i ∧ SeqAt t h a its) := by
  cases t
  · exact Draws.list hh it a hne its
  · exact Draws.tuple hh it a hne its
theorem beginsB (t : Bool) (a : Addr) (its : Array Value) : Begins (.ref a) (iterObj t a) fun h => SeqAt t h a its := by
  cases t
  · exact begins_list a its
  · exact begins_tuple a its
theorem IterAt.new {t : Bool} {h : Heap} {it a : Addr} (e : h.get? it = some (iterObj t a)) : IterAt t h it a 0 := by
  cases t
  · exact ⟨_, e, rfl, rfl⟩
  · exact ⟨_, e, rfl, rfl⟩
theorem IterAt.obj {t : Bool} {h : Heap} {it a : Addr} {i : Nat} (st : IterAt t h it a i) : ∃ o, h.get? it = some o ∧ ∀ v, o.data ≠ .cell v := by
  cases t
  · obtain ⟨o, e, -, d⟩ := st
    exact ⟨o, e, fun v z => by rw [d] at z; cases z⟩
  · obtain ⟨o, e, -, d⟩ := st
    exact ⟨o, e, fun v z => by rw [d] at z; cases z⟩
theorem IterAt.keeps {t : Bool} {h h' : Heap} {it a : Addr} {i : Nat} (st : IterAt t h it a i) (k : ∀ o, h.get? it = some o → h'.get? it = some o) : IterAt t h' it a i := by
  cases t
  · obtain ⟨o, e, r⟩ := st
    exact ⟨o, k o e, r⟩
  · obtain ⟨o, e, r⟩ := st
    exact ⟨o, k o e, r⟩
theorem sqB_items {X : Cx} {pins : List (Addr × Obj)} {sg : L2.St} {H : Hp} {s : Shared} {t : Bool} {a : Addr} {xs : List V} (I : Inv X pins sg H s) (h : SqB t X.K H a xs) : ∃ its : List Value, Vals xs its ∧ SeqAt t s.heap a its.toArray ∧ a < s.heap.objs.size := by
  cases t
  · obtain ⟨its, rv, p, _⟩ := I.list h
    exact ⟨its, rv, p.isList, p.lt⟩
  · obtain ⟨its, rv, p, _⟩ := I.tuple h
    have p' : s.heap.IsTuple a its.toArray := p
    obtain ⟨o, e, _⟩ := id p'
    exact ⟨its, rv, p', Heap.lt_size e⟩
theorem sqB_inj {X : Cx} {pins : List (Addr × Obj)} {sg : L2.St} {H : Hp} {s : Shared} {t : Bool} {a : Addr} {xs ys : List V} (I : Inv X pins sg H s) (h : SqB t X.K H a xs) (k : SqB t X.K H a ys) : xs = ys := by
  cases t
  · exact I.list_inj h k
  · exact I.tuple_inj h k
theorem IterAt.ne {t : Bool} {h : Heap} {it a : Addr} {i : Nat} {its : Array Value} (st : IterAt t h it a i) (sa : SeqAt t h a its) : a ≠ it := fun e => by
  subst e
  cases t
  · obtain ⟨o1, h1, c1, -⟩ := st
    obtain ⟨o2, h2, c2, -⟩ := sa
    rw [h1] at h2
    cases h2
    rw [c1] at c2
    exact absurd c2 (by decide)
  · obtain ⟨o1, h1, c1, -⟩ := st
    obtain ⟨o2, h2, c2, -⟩ := sa
    rw [h1] at h2
    cases h2
    rw [c1] at c2
    exact absurd c2 (by decide)
theorem two_out {c x y : Nat} (h1 : c ≠ x) (h2 : c ≠ y) : (c : Addr) ∉ [(x : Addr), y] := fun h => by
  rcases List.mem_cons.mp h with e | e
  · exact h1 e
  · exact h2 (List.mem_singleton.mp e)
theorem zip_sep {n a b : Nat} (la : a < n) (lb : b < n) : ZipSep2 (n + 4) (n + 2) (n + 3) n (n + 1) [n, a] [n + 1, b] where
  TIz := by show (n + 2 : Nat) ≠ n + 4; omega
  TOz := by show (n + 3 : Nat) ≠ n + 4; omega
  TITO := by show (n + 2 : Nat) ≠ n + 3; omega
  TIi1 := by show (n + 2 : Nat) ≠ n; omega
  mem1 := List.mem_cons_self
  zf1 := two_out (by omega) (by omega)
  Tf1 := two_out (by omega) (by omega)
  TIi2 := by show (n + 2 : Nat) ≠ n + 1; omega
  mem2 := List.mem_cons_self
  zf2 := two_out (by omega) (by omega)
  Tf2 := two_out (by omega) (by omega)
  sep1_2 := two_out (by omega) (by omega)
  sep2_1 := two_out (by omega) (by omega)
theorem five_le {n c : Nat} (h : (c : Addr) = n + 4 ∨ (c : Addr) = n + 2 ∨ (c : Addr) = n + 3 ∨ (c : Addr) = n ∨ (c : Addr) = n + 1) : n ≤ c := by
  have h' : c = n + 4 ∨ c = n + 2 ∨ c = n + 3 ∨ c = n ∨ c = n + 1 := h
  omega
def EnI (t : Bool) (K : PySem.W.Frag) (a : Addr) : It :=
  ⟨fun i H => ∃ xs x, SqB t K H a xs ∧ xs[i]? = some x, fun i H v H' => ∃ T x, v = .ref T ∧ H T = none ∧ H' = upd H T (.tup [.int (i : Nat), x]) ∧ ∀ xs, SqB t K H a xs → xs[i]? = some x, fun i H => ∃ xs, SqB t K H a xs ∧ xs.length = i⟩
theorem turn_en {P : Program} {w : World} {K : PySem.W.Frag} {elts : List Expr} {kk : Nat} {tpos : Pos} (t : Bool) (a e it : Addr) (n1 : e ≠ it) (n2 : a ≠ it) (n3 : e ≠ a) :
    Turn P w K (.Tuple elts kk tpos) (EnI t K a) [e, it] e (fun i h => (∃ old, IsEnum h e it ((i : Nat) : Int) old) ∧ IterAt t h it a i) where
  mem := List.mem_cons_self
  obj := fun i h st c hc => by
    obtain ⟨⟨old, he⟩, hi⟩ := st
    rcases List.mem_cons.mp hc with q | q
    · rw [q]; exact ⟨_, he, fun v z => by cases z⟩
    · rw [List.mem_singleton.mp q]; exact hi.obj
  keep := fun i h h' st k => ⟨st.1.imp fun _ he => k e List.mem_cons_self _ he, st.2.keeps fun o q => k it (List.mem_cons_of_mem _ List.mem_cons_self) o q⟩
  item := by
    intro X hP hw hK hc i pins s sg H E I fr st go
    subst hP hw hK
    obtain ⟨⟨old, he⟩, hi⟩ := st
    obtain ⟨xs, x, sq, hx⟩ := go
    obtain ⟨its, rv, sa, la⟩ := sqB_items I sq
    obtain ⟨u, hu, ru⟩ := rv.get hx
    have lt_e : e < s.heap.objs.size := Heap.lt_size he
    have lt_i : it < s.heap.objs.size := by obtain ⟨_, q, _⟩ := hi.obj; exact Heap.lt_size q
    have hui : its.toArray[i]? = some u := by simpa using hu
    have hlt : i < its.toArray.size := (Array.getElem?_eq_some_iff.mp hui).1
    refine wpAny_pyNext_enum_itemD (drawsB t (A := X.A.in1) (show X.A.in1.handled = none from I.ok.hd hc) n2 its.toArray) he ⟨hi, sa⟩ hlt n1 (by simp [n1, n3]) fun y h' tk hy ho st' hT hsz keep => ?_
    have ey : y = u := Option.some.inj (hy.symm.trans hui)
    subst ey
    refine ⟨_, rfl, wpAny_letOwnedTupleGo_enum (s := { s with heap := h', toks := tk + 1 }) ho fun h2 he2 sb => ?_⟩
    have hT' : h2.get? s.heap.objs.size = some { cls := .type "tuple", data := .seq #[.int i tk, y] } := (sb.2 _ (Nat.ne_of_gt lt_e)).trans hT
    have born : ObjOk X.prog X.w (upd H s.heap.objs.size (.tup [.int (i : Nat), x])) h2 s.heap.objs.size (.tup [.int (i : Nat), x]) := ⟨(by decide : 2 ≤ sizeLine), [.int i tk, y], .cons ⟨_, rfl⟩ (.cons ru .nil), ⟨_, hT', rfl, _, rfl⟩⟩
    have J : Inv X pins sg (upd H s.heap.objs.size (.tup [.int (i : Nat), x])) { s with heap := h2, toks := tk + 1 } :=
      Inv.turnedNew (ch := [e, it]) I (fun c o nc q => (sb.2 c (fun z => nc (z ▸ List.mem_cons_self))).trans (keep c o (fun z => nc (z ▸ List.mem_cons_self)) (fun z => nc (z ▸ List.mem_cons_of_mem _ List.mem_cons_self)) q)) fr (Nat.le_refl _) born
    refine ⟨.ref s.heap.objs.size, _, J, rfl, ⟨_, x, rfl, I.hok.fresh (Nat.le_refl _), rfl, fun ys sy => sqB_inj I sq sy ▸ hx⟩, ⟨⟨y, ?_⟩, st'.1.keeps fun o q => (sb.2 it n1.symm).trans q⟩, fun c hc => ?_⟩
    · have z : ((i + 1 : Nat) : Int) = (i : Int) + 1 := by omega
      rw [z]; exact he2
    · have hl : c < s.heap.objs.size := by
        rcases List.mem_cons.mp hc with q | q
        · exact q ▸ lt_e
        · rw [List.mem_singleton.mp q]; exact lt_i
      rw [upd_ne (Nat.ne_of_lt hl)]
      exact (fr c hc).1
  done := by
    intro X hP hw hK hc i pins s sg H E I fr st go
    subst hP hw hK
    obtain ⟨⟨old, he⟩, hi⟩ := st
    obtain ⟨xs, sq, rfl⟩ := go
    obtain ⟨its, rv, sa, la⟩ := sqB_items I sq
    have hl : xs.length = its.toArray.size := by rw [List.size_toArray]; exact rv.length
    refine wpAny_pyNext_enum_endD (drawsB t (A := X.A.in1) (show X.A.in1.handled = none from I.ok.hd hc) n2 its.toArray) he ⟨hl ▸ hi, sa⟩ fun h' eb => ⟨rfl, ?_⟩
    exact Inv.turnedL (t' := s.toks) (ch := [e, it]) I (fun c o nc q => eb c o (fun z => nc (z ▸ List.mem_cons_of_mem _ List.mem_cons_self)) q) fr
  self := fun A i s Q E st h => by
    obtain ⟨⟨_, he⟩, _⟩ := st
    exact wpAny_pyIter_enum he h
theorem meets_en1 {v : Value} {o : Obj} {H : Heap → Prop} (B : Begins v o H) :
    Meets (Builtin.«enumerate.__new__» ⟨[.type "enumerate", v], []⟩) (fun _ R s => H s.heap ∧
      R (.ok (.ret (.ref (s.heap.push o).objs.size))) { s with heap := (s.heap.push o).push { cls := .type "enumerate", data := .fields #[.none, .bool false, .ref s.heap.objs.size, rawInt 0, .none, .none] } }) :=
  .of_wp fun prog w A R s h => by
    obtain ⟨hp, g, d, tk, os⟩ := s
    obtain ⟨h1, h⟩ := h
    have hsub := sub_enumerate
    have it : ∀ {A' : Around} {E Q : Value → Shared → Prop}, Q (.ref hp.objs.size) ⟨hp.push o, g, d, tk, os⟩ → wpAny (model prog w) A' (pyIter v) Q E ⟨hp, g, d, tk, os⟩ := fun q => B.iter prog w _ _ ⟨hp, g, d, tk, os⟩ _ h1 q
    wp_walk using it
    refine wpAny_stack_any fun st => wpAny_pure ?_
    split
    · rename_i c _ _ _ _ _
      cases (c == Value.type "enumerate")
      all_goals
        wp_walk using it
        exact ⟨_, rfl, h⟩
    · wp_walk using it
      exact ⟨_, rfl, h⟩
theorem call_en1 {prog : Program} {w : World} {A : Around} {E : Value → Shared → Prop} {s : Shared} {v : Value} {o : Obj} {H : Heap → Prop} {Q : Value → Shared → Prop} (B : Begins v o H) (h1 : H s.heap)
    (h : ∀ h', IsEnum h' (s.heap.objs.size + 1) s.heap.objs.size 0 .none → h'.get? s.heap.objs.size = some o → (∀ b o, s.heap.get? b = some o → h'.get? b = some o) → Q (.ref (s.heap.objs.size + 1)) { s with heap := h' }) :
    wpAny (model prog w) A (call (.type "enumerate") [v]) Q E s := by
  refine callType_new F.called_enumerate (by decide) (F.typeCall_enumerate_1 _) (F.newCall_enumerate_1 _) (fun obj => F.args_object_init_2 obj _) F.entry_enumerate_new (meets_en1 B) ⟨h1, ?_⟩
  have sz : (s.heap.push o).objs.size = s.heap.objs.size + 1 := Heap.size_push ..
  show _ ∧ _
  rw [sz]
  have he : IsEnum ((s.heap.push o).push { cls := .type "enumerate", data := .fields #[.none, .bool false, .ref s.heap.objs.size, rawInt 0, .none, .none] }) (s.heap.objs.size + 1) s.heap.objs.size 0 .none := by
    have z := Heap.get?_push_size (s.heap.push o) (o := { cls := .type "enumerate", data := .fields #[.none, .bool false, .ref s.heap.objs.size, rawInt 0, .none, .none] }) rfl
    rwa [sz] at z
  exact ⟨⟨_, he, rfl⟩, h _ he (Heap.get?_push_of_some _ (Heap.get?_push_size _ B.free)) fun c o x => Heap.get?_push_of_some _ (Heap.get?_push_of_some _ x)⟩
def iEn (K : PySem.W.Frag) (ta : TA) : TI := fun sg H R => ta sg H fun vs H1 => ∃ t a xs, vs = [.ref a] ∧ SqB t K H1 a xs ∧ R (EnI t K a) H1
theorem pi_en {X : Cx} {e : Expr} {ta : TA} {p pos tpos : Pos} {elts : List Expr} {kk : Nat} (hg : Gl X "enumerate") (hm : X.mg "enumerate" = none) (ha : PA X [e] ta) (hs : starEach [e] X.env = [(false, eval e X.env)] := by rfl) :
    PI X (.Tuple elts kk tpos) (.Call (.Name "enumerate" p) [e] [] pos) (iEn X.K ta) := by
  refine ⟨fun pins s sg H R I h => Call_ (ld_blt I hg hm boot_enumerate (PyProof.Rows.callWith_type1 (thn (ha.run pos pins s sg H _ I h) fun us s1 ⟨vs, H1, I1, r1, q1⟩ => ?_) hs rfl))⟩
  obtain ⟨t, a, xs, rfl, sq, q⟩ := q1
  cases r1 with
  | cons r rr =>
    cases rr
    cases r
    obtain ⟨its, rv, sa, la⟩ := sqB_items I1 sq
    refine call_en1 (beginsB t a its.toArray) sa fun h' he hi keep => wpAny_pyIter_enum he ?_
    have J : Inv X pins sg H1 { s1 with heap := h' } := I1.kept (t' := s1.toks) keep
    refine ⟨s1.heap.objs.size + 1, [s1.heap.objs.size + 1, s1.heap.objs.size], _, _, H1, rfl, J, turn_en t a _ _ (Nat.succ_ne_self _) (Nat.ne_of_lt la) (Nat.ne_of_gt (Nat.lt_succ_of_lt la)), ⟨⟨.none, he⟩, .new hi⟩, fun c hc => ?_, q⟩
    have hle : s1.heap.objs.size ≤ c := by
      rcases List.mem_cons.mp hc with z | z
      · rw [z]; exact Nat.le_succ _
      · rw [List.mem_singleton.mp z]; exact Nat.le_refl _
    exact I1.fpOk hle (I1.hok.fresh hle)
/-! zip -/
def ZpI (t u : Bool) (K : PySem.W.Frag) (a b : Addr) : It :=
  ⟨fun i H => ∃ xs ys x y, SqB t K H a xs ∧ SqB u K H b ys ∧ xs[i]? = some x ∧ ys[i]? = some y,
    fun i H v H' => ∃ T x y, v = .ref T ∧ H T = none ∧ H' = upd H T (.tup [x, y]) ∧ (∀ xs, SqB t K H a xs → xs[i]? = some x) ∧ ∀ ys, SqB u K H b ys → ys[i]? = some y,
    fun i H => ∃ xs ys, SqB t K H a xs ∧ SqB u K H b ys ∧ i ≤ xs.length ∧ i ≤ ys.length ∧ (i = xs.length ∨ i = ys.length)⟩
theorem turn_zp {P : Program} {w : World} {K : PySem.W.Frag} {elts : List Expr} {kk : Nat} {tpos : Pos} (t u : Bool) {a b z TI TO i1 i2 : Addr} (S : ZipSep2 z TI TO i1 i2 [i1, a] [i2, b]) :
    Turn P w K (.Tuple elts kk tpos) (ZpI t u K a b) [z, TI, TO, i1, i2] z (fun i h => IsZip h z TI TO .none ∧ IsTupOf2 h TI (.ref i1) (.ref i2) ∧ (∃ x y, IsTupOf2 h TO x y) ∧ IterAt t h i1 a i ∧ IterAt u h i2 b i) where
  mem := List.mem_cons_self
  obj := fun i h st c hc => by
    obtain ⟨hz, hI, ⟨x, y, hO⟩, s1, s2⟩ := st
    have e' : c = z ∨ c = TI ∨ c = TO ∨ c = i1 ∨ c = i2 := by simpa using hc
    rcases e' with rfl | rfl | rfl | rfl | rfl
    · exact ⟨_, hz, fun v q => by cases q⟩
    · exact ⟨_, hI, fun v q => by cases q⟩
    · exact ⟨_, hO, fun v q => by cases q⟩
    · exact s1.obj
    · exact s2.obj
  keep := fun i h h' st k => by
    obtain ⟨hz, hI, ⟨x, y, hO⟩, s1, s2⟩ := st
    exact ⟨k z (by simp) _ hz, k TI (by simp) _ hI, ⟨x, y, k TO (by simp) _ hO⟩, s1.keeps fun o q => k i1 (by simp) o q, s2.keeps fun o q => k i2 (by simp) o q⟩
  item := by
    intro X hP hw hK hc i pins s sg H E I fr st go
    subst hP hw hK
    obtain ⟨hz, hI, ⟨x0, y0, hO⟩, s1, s2⟩ := st
    obtain ⟨xs, ys, x, y, sq1, sq2, hx, hy⟩ := go
    obtain ⟨it1, rv1, sa1, la1⟩ := sqB_items I sq1
    obtain ⟨it2, rv2, sa2, la2⟩ := sqB_items I sq2
    obtain ⟨u1, hu1, ru1⟩ := rv1.get hx
    obtain ⟨u2, hu2, ru2⟩ := rv2.get hy
    have g1 : it1.toArray[i]? = some u1 := by simpa using hu1
    have g2 : it2.toArray[i]? = some u2 := by simpa using hu2
    have lz : z < s.heap.objs.size := Heap.lt_size hz
    have ai : a ≠ i1 := s1.ne sa1
    have bi : b ≠ i2 := s2.ne sa2
    refine wpAny_pyNext_zipD2_item S (drawsB t (A := X.A.in1) (show X.A.in1.handled = none from I.ok.hd hc) ai it1.toArray) (drawsB u (A := X.A.in1) (show X.A.in1.handled = none from I.ok.hd hc) bi it2.toArray) hz hI hO ⟨s1, sa1⟩ ⟨s2, sa2⟩
      (Array.getElem?_eq_some_iff.mp g1).1 (Array.getElem?_eq_some_iff.mp g2).1 fun x1 x2 h' tk e1 e2 hz' hO' st1 st2 hT hsz keep => ?_
    have q1 : x1 = u1 := Option.some.inj (e1.symm.trans g1)
    have q2 : x2 = u2 := Option.some.inj (e2.symm.trans g2)
    subst q1 q2
    refine ⟨_, rfl, wpAny_letOwnedTupleGo_zip (s := { s with heap := h', toks := tk }) hz' fun h2 hz2 sb => ?_⟩
    have hT' : h2.get? s.heap.objs.size = some { cls := .type "tuple", data := .seq #[x1, x2] } := (sb.2 _ (Nat.ne_of_gt lz)).trans hT
    have born : ObjOk X.prog X.w (upd H s.heap.objs.size (.tup [x, y])) h2 s.heap.objs.size (.tup [x, y]) := ⟨(by decide : 2 ≤ sizeLine), [x1, x2], .cons ru1 (.cons ru2 .nil), ⟨_, hT', rfl, _, rfl⟩⟩
    have J : Inv X pins sg (upd H s.heap.objs.size (.tup [x, y])) { s with heap := h2, toks := tk } :=
      Inv.turnedNew (ch := [z, TI, TO, i1, i2]) I (fun c o nc q => (sb.2 c (fun e => nc (by simp [e]))).trans (keep c o (fun e => nc (by simp [e])) (fun e => nc (by simp [e])) (fun e => nc (by simp [e])) (fun e => nc (by simp [e])) q)) fr (Nat.le_refl _) born
    refine ⟨.ref s.heap.objs.size, _, J, rfl, ⟨_, x, y, rfl, I.hok.fresh (Nat.le_refl _), rfl, fun l sl => sqB_inj I sq1 sl ▸ hx, fun l sl => sqB_inj I sq2 sl ▸ hy⟩, ⟨hz2, ?_, ⟨x1, x2, ?_⟩, st1.1.keeps fun o q => (sb.2 _ S.zi1.symm).trans q, st2.1.keeps fun o q => (sb.2 _ S.zi2.symm).trans q⟩, fun c hcm => ?_⟩
    · exact (sb.2 _ S.TIz).trans (keep _ _ S.TIz S.TITO S.TIi1 S.TIi2 hI)
    · exact (sb.2 _ S.TOz).trans hO'
    · have hl : c < s.heap.objs.size := by
        have e' : c = z ∨ c = TI ∨ c = TO ∨ c = i1 ∨ c = i2 := by simpa using hcm
        rcases e' with q | q | q | q | q
        · rw [q]; exact lz
        · rw [q]; exact Heap.lt_size hI
        · rw [q]; exact Heap.lt_size hO
        · rw [q]; obtain ⟨_, k, _⟩ := s1.obj; exact Heap.lt_size k
        · rw [q]; obtain ⟨_, k, _⟩ := s2.obj; exact Heap.lt_size k
      rw [upd_ne (Nat.ne_of_lt hl)]
      exact (fr c hcm).1
  done := by
    intro X hP hw hK hc i pins s sg H E I fr st go
    subst hP hw hK
    obtain ⟨hz, hI, ⟨x0, y0, hO⟩, s1, s2⟩ := st
    obtain ⟨xs, ys, sq1, sq2, k1, k2, k3⟩ := go
    obtain ⟨it1, rv1, sa1, la1⟩ := sqB_items I sq1
    obtain ⟨it2, rv2, sa2, la2⟩ := sqB_items I sq2
    have z1 : xs.length = it1.toArray.size := by rw [List.size_toArray]; exact rv1.length
    have z2 : ys.length = it2.toArray.size := by rw [List.size_toArray]; exact rv2.length
    have ai : a ≠ i1 := s1.ne sa1
    have bi : b ≠ i2 := s2.ne sa2
    refine wpAny_pyNext_zipD2_end S (drawsB t (A := X.A.in1) (show X.A.in1.handled = none from I.ok.hd hc) ai it1.toArray) (drawsB u (A := X.A.in1) (show X.A.in1.handled = none from I.ok.hd hc) bi it2.toArray) hz hI hO ⟨s1, sa1⟩ ⟨s2, sa2⟩ (z1 ▸ k1) (z2 ▸ k2) (by rw [← z1, ← z2]; exact k3) fun h' tk keep => ⟨rfl, ?_⟩
    exact Inv.turnedL (ch := [z, TI, TO, i1, i2]) I (fun c o nc q => keep c o (fun e => nc (by simp [e])) (fun e => nc (by simp [e])) (fun e => nc (by simp [e])) (fun e => nc (by simp [e])) q) fr
  self := fun A i s Q E st h => wpAny_pyIter_zip st.1 h
def iZp (K : PySem.W.Frag) (ta : TA) : TI := fun sg H R => ta sg H fun vs H1 => ∃ t u a b xs ys, vs = [.ref a, .ref b] ∧ SqB t K H1 a xs ∧ SqB u K H1 b ys ∧ R (ZpI t u K a b) H1
theorem pi_zp {X : Cx} {e e2 : Expr} {ta : TA} {p pos tpos : Pos} {elts : List Expr} {kk : Nat} (hg : Gl X "zip") (hm : X.mg "zip" = none) (ha : PA X [e, e2] ta)
    (hs : starEach [e, e2] X.env = (false, eval e X.env) :: starEach [e2] X.env := by rfl) (hpl : (backTo pos (starEach [e2] X.env)).any (·.1) = false := by rfl) :
    PI X (.Tuple elts kk tpos) (.Call (.Name "zip" p) [e, e2] [] pos) (iZp X.K ta) := by
  refine ⟨fun pins s sg H R I h => Call_ (ld_blt I hg hm PyProof.Rows.boot_zip (PyProof.Rows.callWith_type1 (thn (ha.run pos pins s sg H _ I h) fun us s1 ⟨vs, H1, I1, r1, q1⟩ => ?_) hs hpl))⟩
  obtain ⟨t, u, a, b, xs, ys, rfl, sq1, sq2, q⟩ := q1
  cases r1 with
  | cons r rr =>
    cases rr with
    | cons r' rr =>
      cases rr
      cases r
      cases r'
      obtain ⟨it1, rv1, sa1, la1⟩ := sqB_items I1 sq1
      obtain ⟨it2, rv2, sa2, la2⟩ := sqB_items I1 sq2
      refine zip_begins2 (beginsB t a it1.toArray) (beginsB u b it2.toArray) sa1 sa2 fun h' hz hI hO h1 h2 hsz keep => wpAny_pyIter_zip hz ?_
      have J : Inv X pins sg H1 { s1 with heap := h' } := I1.kept (t' := s1.toks) keep
      have S : ZipSep2 (s1.heap.objs.size + 4) (s1.heap.objs.size + 2) (s1.heap.objs.size + 3) s1.heap.objs.size (s1.heap.objs.size + 1) [s1.heap.objs.size, a] [s1.heap.objs.size + 1, b] :=
        zip_sep la1 la2
      refine ⟨s1.heap.objs.size + 4, [s1.heap.objs.size + 4, s1.heap.objs.size + 2, s1.heap.objs.size + 3, s1.heap.objs.size, s1.heap.objs.size + 1], _, _, H1, rfl, J, turn_zp t u S, ⟨hz, hI, ⟨_, _, hO⟩, .new h1, .new h2⟩, fun c hcm => ?_, q⟩
      have hle : s1.heap.objs.size ≤ c := by
        have e' : c = s1.heap.objs.size + 4 ∨ c = s1.heap.objs.size + 2 ∨ c = s1.heap.objs.size + 3 ∨ c = s1.heap.objs.size ∨ c = s1.heap.objs.size + 1 := by simpa using hcm
        exact five_le e'
      exact I1.fpOk hle (I1.hok.fresh hle)
/-! over data -/
section
variable {K : PySem.W.Frag} {H : Hp} {st : DS}
theorem new_tup {p : Addr} {vs : List V} {ds : List D} (hs : RepS K H st) (hp : H p = none) (q : Reps K H ds vs) : Keep K H st (upd H p (.tup vs)) st ∧ RepS K (upd H p (.tup vs)) st ∧ Rep K (upd H p (.tup vs)) (.tup ds) (.ref p) :=
  ⟨Keep.untold hp _, hs.untold hp _, Rep_tup.mpr ⟨p, vs, rfl, .inl (.inl upd_same), q.keep (Keep.untold (st := st) hp _)⟩⟩
end
/-- what is walked: a list, a tuple, the script; the list by its place -/
inductive Src (K : PySem.W.Frag) (H : Hp) (st : DS) : Bool → Addr → List D → (DS → Prop) → Prop where
  | lst {a : Addr} {ds : List D} (e : st a = some (.lst ds)) : Src K H st false a ds (fun s => s a = some (.lst ds))
  | tup {a : Addr} {ds : List D} {vs : List V} (t : SqT K H a vs) (q : Reps K H ds vs) : Src K H st true a ds (fun _ => True)
  | scr {a : Addr} {ds : List D} {vs : List V} (t : SqF K H a vs) (q : Reps K H ds vs) : Src K H st false a ds (fun _ => True)
theorem Src.seq {K : PySem.W.Frag} {H H' : Hp} {st st' : DS} {t : Bool} {a : Addr} {ds : List D} {G : DS → Prop} (h : Src K H st t a ds G) (k : Keep K H st H' st') (s : RepS K H' st') (g : G st') : ∃ vs, SqB t K H' a vs ∧ Reps K H' ds vs := by
  cases h with
  | lst e =>
    obtain ⟨vs, e1, q⟩ := s a _ g
    exact ⟨vs, SqL.of e1, q⟩
  | tup t q => exact ⟨_, k.tup _ _ t, q.keep k⟩
  | scr t q => exact ⟨_, (k.scr _ _ t).sq, q.keep k⟩
theorem src_of {K : PySem.W.Frag} {H : Hp} {st : DS} {d : D} {v : V} {RR : List D → (DS → Prop) → DS → Prop} (hs : RepS K H st) (r : Rep K H d v) (h : itemsD d st RR) : ∃ t a ds G, v = .ref a ∧ Src K H st t a ds G ∧ (∃ vs, SqB t K H a vs) ∧ RR ds G st := by
  cases d with
  | ref a =>
    obtain ⟨ds, e, h⟩ := getL_inv h
    obtain ⟨vs, ev, -⟩ := hs a _ e
    exact ⟨false, a, ds, _, Rep_ref.mp r, .lst e, ⟨vs, SqL.of ev⟩, h⟩
  | tup ds =>
    obtain ⟨a, vs, rfl, t, q⟩ := Rep_tup.mp r
    exact ⟨true, a, ds, _, rfl, .tup t q, ⟨vs, t⟩, h⟩
  | scr ds =>
    obtain ⟨a, vs, rfl, t, q⟩ := Rep_scr.mp r
    exact ⟨false, a, ds, _, rfl, .scr t q, ⟨vs, t.sq⟩, h⟩
  | _ => exact h.elim
theorem Src.keep {K : PySem.W.Frag} {H H' : Hp} {st st' : DS} {t : Bool} {a : Addr} {ds : List D} {G : DS → Prop} (h : Src K H st t a ds G) (k : Keep K H st H' st') (g : G st') : Src K H' st' t a ds G := by
  cases h with
  | lst e => exact .lst g
  | tup t q => exact .tup (k.tup _ _ t) (q.keep k)
  | scr t q => exact .scr (k.scr _ _ t) (q.keep k)
def enumD (ds : List D) : List D := ds.zipIdx.map fun p => D.tup [.int (p.2 : Int), p.1]
theorem enumD_get {ds : List D} {i : Nat} : (enumD ds)[i]? = (ds[i]?).map fun d => D.tup [.int (i : Int), d] := by
  rw [enumD, List.getElem?_map, List.getElem?_zipIdx]
  cases ds[i]? with
  | none => rfl
  | some d =>
    show some (D.tup [.int ((0 + i : Nat) : Int), d]) = some (D.tup [.int (i : Int), d])
    rw [Nat.zero_add]
theorem enumD_len {ds : List D} : (enumD ds).length = ds.length := by rw [enumD, List.length_map, List.length_zipIdx]
theorem itd_en {K : PySem.W.Frag} {H0 : Hp} {st0 : DS} {t : Bool} {a : Addr} {ds : List D} {G : DS → Prop} (S : Src K H0 st0 t a ds G) : ItD K H0 st0 (EnI t K a) (enumD ds) G where
  goes := fun i H st hi k s g => by
    obtain ⟨vs, sq, q⟩ := S.seq k s g
    rw [enumD_len] at hi
    exact ⟨vs, vs[i]'(by rw [← q.length]; exact hi), sq, List.getElem?_eq_getElem _⟩
  stops := fun H st k s g => by
    obtain ⟨vs, sq, q⟩ := S.seq k s g
    exact ⟨vs, sq, by rw [enumD_len, q.length]⟩
  yields := fun i H st x H' d hd k s g y => by
    obtain ⟨T, v, rfl, hT, rfl, hv⟩ := y
    obtain ⟨vs, sq, q⟩ := S.seq k s g
    rw [enumD_get] at hd
    cases e : ds[i]? with
    | none => rw [e] at hd; cases hd
    | some d0 =>
      rw [e] at hd
      cases hd
      obtain ⟨u, eu, r⟩ := q.get e
      have := hv vs sq
      rw [eu] at this
      cases this
      exact new_tup s hT (.cons (Rep_int.mpr rfl) (.cons r Reps.nil))
def zipD (xs ys : List D) : List D := List.zipWith (fun x y => D.tup [x, y]) xs ys
theorem zipD_get {xs ys : List D} {i : Nat} {d : D} (h : (zipD xs ys)[i]? = some d) : ∃ x y, xs[i]? = some x ∧ ys[i]? = some y ∧ d = .tup [x, y] := by
  rw [zipD, List.getElem?_zipWith] at h
  cases e1 : xs[i]? with
  | none => rw [e1] at h; cases h
  | some x =>
    cases e2 : ys[i]? with
    | none => rw [e1, e2] at h; cases h
    | some y => rw [e1, e2] at h; cases h; exact ⟨x, y, rfl, rfl, rfl⟩
theorem zipD_len {xs ys : List D} : (zipD xs ys).length = min xs.length ys.length := by rw [zipD, List.length_zipWith]
theorem itd_zp {K : PySem.W.Frag} {H0 : Hp} {st0 : DS} {t u : Bool} {a b : Addr} {xs ys : List D} {G1 G2 : DS → Prop} (S : Src K H0 st0 t a xs G1) (S2 : Src K H0 st0 u b ys G2) : ItD K H0 st0 (ZpI t u K a b) (zipD xs ys) (fun s => G1 s ∧ G2 s) where
  goes := fun i H st hi k s g => by
    obtain ⟨vs, sq, q⟩ := S.seq k s g.1
    obtain ⟨us, sq2, q2⟩ := S2.seq k s g.2
    rw [zipD_len] at hi
    exact ⟨vs, us, vs[i]'(by rw [← q.length]; omega), us[i]'(by rw [← q2.length]; omega), sq, sq2, List.getElem?_eq_getElem _, List.getElem?_eq_getElem _⟩
  stops := fun H st k s g => by
    obtain ⟨vs, sq, q⟩ := S.seq k s g.1
    obtain ⟨us, sq2, q2⟩ := S2.seq k s g.2
    have l1 := q.length
    have l2 := q2.length
    rw [zipD_len]
    exact ⟨vs, us, sq, sq2, by omega, by omega, by omega⟩
  yields := fun i H st x H' d hd k s g y => by
    obtain ⟨T, v, w, rfl, hT, rfl, hv, hw⟩ := y
    obtain ⟨vs, sq, q⟩ := S.seq k s g.1
    obtain ⟨us, sq2, q2⟩ := S2.seq k s g.2
    obtain ⟨d1, d2, e1, e2, rfl⟩ := zipD_get hd
    obtain ⟨u1, f1, r1⟩ := q.get e1
    obtain ⟨u2, f2, r2⟩ := q2.get e2
    have z1 := hv vs sq
    have z2 := hw us sq2
    rw [f1] at z1
    rw [f2] at z2
    cases z1
    cases z2
    exact new_tup s hT (.cons r1 (.cons r2 Reps.nil))
def wi_enumerate (wa : WA) : WI := fun ep st RR Rx => wa ep st (fun ds st' => match ds with
  | [d] => itemsD d st' fun items G s => RR (enumD items) G s
  | _ => False) Rx
def wi_zip (wa : WA) : WI := fun ep st RR Rx => wa ep st (fun ds st' => match ds with
  | [d, e] => itemsD d st' fun xs G1 s => G1 s ∧ itemsD e s fun ys G2 s => RR (zipD xs ys) (fun s => G1 s ∧ G2 s) s
  | _ => False) Rx
section
variable {X : Cx} {W : WX} {e e2 : Expr} {wa : WA} {p pos tpos : Pos} {elts : List Expr} {kk : Nat}
theorem ji_enumerate (hm : X.mg "enumerate" = none) (h : JA X W 1 [e] wa) (hg : Gl X "enumerate" := by rfl) (hs : starEach [e] X.env = [(false, eval e X.env)] := by rfl) : JI X W (.Tuple elts kk tpos) (.Call (.Name "enumerate" p) [e] [] pos) (wi_enumerate wa) := by
  refine (pi_en hg hm h hs).weak ?_
  rintro sg H R ⟨ep, st, RR, Rx, he, hs, hw, hq, hx⟩
  refine ⟨ep, st, _, _, he, hs, hw, fun vs H' ds st' hl k s r h => ?_, hx⟩
  match ds, h, hl with
  | [d], h, _ =>
    obtain ⟨v, t, rfl, r1, r2⟩ := Reps_cons.mp r
    rw [Reps_nil.mp r2]
    obtain ⟨t, a, items, G, rfl, S, ⟨us, sq⟩, h⟩ := src_of s r1 h
    exact ⟨t, a, us, rfl, sq, hq H' st' _ _ _ k s (itd_en S) h⟩
theorem ji_zip (hm : X.mg "zip" = none) (h : JA X W 2 [e, e2] wa) (hg : Gl X "zip" := by rfl) (hs : starEach [e, e2] X.env = (false, eval e X.env) :: starEach [e2] X.env := by rfl) (hpl : (backTo pos (starEach [e2] X.env)).any (·.1) = false := by rfl) :
    JI X W (.Tuple elts kk tpos) (.Call (.Name "zip" p) [e, e2] [] pos) (wi_zip wa) := by
  refine (pi_zp hg hm h hs hpl).weak ?_
  rintro sg H R ⟨ep, st, RR, Rx, he, hs, hw, hq, hx⟩
  refine ⟨ep, st, _, _, he, hs, hw, fun vs H' ds st' hl k s r h => ?_, hx⟩
  match ds, h, hl with
  | [d, d2], h, _ =>
    obtain ⟨v, t, rfl, r1, r2⟩ := Reps_cons.mp r
    obtain ⟨v', t', rfl, r3, r4⟩ := Reps_cons.mp r2
    rw [Reps_nil.mp r4]
    obtain ⟨t, a, items, G, rfl, S, ⟨us, sq⟩, g, h⟩ := src_of s r1 h
    obtain ⟨t2, a2, items2, G2, rfl, S2, ⟨us2, sq2⟩, h⟩ := src_of s r3 h
    exact ⟨t, t2, a, a2, us, us2, rfl, sq, sq2, hq H' st' _ _ _ k s (itd_zp S S2) h⟩
end
end DL

/-! sorted, max, min, three names at once, module constants, chained compares. -/
namespace DL
open PySem PySem.Spec PyProof.Rows L2
section
variable {K : PySem.W.Frag} {H : Hp}
theorem reps_perm {xs ys : List V} (p : ys.Perm xs) : ∀ {ds : List D}, Reps K H ds xs → ∃ es, Reps K H es ys ∧ es.Perm ds := by
  induction p with
  | nil =>
    intro ds r
    cases ds with
    | nil => exact ⟨[], Reps.nil, .nil⟩
    | cons d ds =>
      obtain ⟨_, _, e, -⟩ := Reps_cons.mp r
      cases e
  | cons v _ ih =>
    intro ds r
    cases ds with
    | nil => exact absurd (Reps_nil.mp r) (List.cons_ne_nil _ _)
    | cons d ds =>
      obtain ⟨v', t, e, r1, r2⟩ := Reps_cons.mp r
      cases e
      obtain ⟨es, q1, q2⟩ := ih r2
      exact ⟨d :: es, .cons r1 q1, q2.cons d⟩
  | swap u v l =>
    intro ds r
    match ds, r with
    | [], r => exact absurd (Reps_nil.mp r) (List.cons_ne_nil _ _)
    | [_], r =>
      obtain ⟨v', t, e, r1, r2⟩ := Reps_cons.mp r
      cases e
      exact absurd (Reps_nil.mp r2) (List.cons_ne_nil _ _)
    | d :: d2 :: ds, r =>
      obtain ⟨v', t, e, r1, r2⟩ := Reps_cons.mp r
      cases e
      obtain ⟨v'', t', e, r3, r4⟩ := Reps_cons.mp r2
      cases e
      exact ⟨d2 :: d :: ds, .cons r3 (.cons r1 r4), .swap ..⟩
  | trans _ _ ih1 ih2 =>
    intro ds r
    obtain ⟨es, q1, q2⟩ := ih2 r
    obtain ⟨fs, q3, q4⟩ := ih1 q1
    exact ⟨fs, q3, q4.trans q2⟩
end
def lexle (x y : D) : Prop := ∀ i j i' j' : Int, x = .tup [.int i, .int j] → y = .tup [.int i', .int j'] → i < i' ∨ (i = i' ∧ j ≤ j')
def rSortPT (K : PySem.W.Frag) : List V → Hp → VK → Prop := fun vs H Q => ∃ a xs, vs = [.ref a] ∧ SqL K H a xs ∧ (∀ x ∈ xs, ∃ t i j, x = .ref t ∧ SqT K H t [.int i, .int j]) ∧
  ∀ ys p, ys.Perm xs → (ys.Pairwise fun x y => ∀ t i j t' i' j', x = .ref t → SqT K H t [.int i, .int j] → y = .ref t' → SqT K H t' [.int i', .int j'] → i < i' ∨ (i = i' ∧ j ≤ j')) → H p = none → Q (.ref p) (upd H p (.lst ys))
open Classical in
noncomputable def pairAt (h : Heap) (v : Value) : Int × Int := if q : ∃ p : Int × Int, Srt.IsPair h v p.1 p.2 then q.choose else (0, 0)
theorem pairAt_of {h : Heap} {v : Value} {i j : Int} (q : Srt.IsPair h v i j) : Srt.IsPair h v (pairAt h v).1 (pairAt h v).2 ∧ pairAt h v = (i, j) := by
  have ex : ∃ p : Int × Int, Srt.IsPair h v p.1 p.2 := ⟨(i, j), q⟩
  have e : pairAt h v = ex.choose := by unfold pairAt; rw [dif_pos ex]
  have sp := ex.choose_spec
  rw [← e] at sp
  refine ⟨sp, ?_⟩
  obtain ⟨a, o, t, u, n, e1, e2, e3, e4⟩ := q
  obtain ⟨a', o', t', u', n', f1, f2, f3, f4⟩ := sp
  rw [e1] at f1
  cases f1
  rw [e2] at f2
  cases f2
  rw [e4] at f4
  have z := (Data.seq.inj f4).1
  have z' : [Value.int i t, .int j u] = [Value.int (pairAt h v).1 t', .int (pairAt h v).2 u'] := by simpa using z
  injection z' with z1 z2
  injection z2 with z2 _
  injection z1 with z1 _
  injection z2 with z2 _
  exact Prod.ext z1.symm z2.symm
section
variable {X : Cx}
theorem pair_of {pins : List (Addr × Obj)} {sg : L2.St} {H : Hp} {s : Shared} {t : Addr} {i j : Int} (I : Inv X pins sg H s) (h : SqT X.K H t [.int i, .int j]) : Srt.IsPair s.heap (.ref t) i j := by
  obtain ⟨its, rv, p, -⟩ := I.tuple h
  obtain ⟨u1, u2, rfl, ⟨t1, rfl⟩, ⟨t2, rfl⟩⟩ := vals2 rv
  obtain ⟨o, ho, hc, n, hd⟩ := p
  exact ⟨t, o, t1, t2, n, rfl, ho, hc, hd⟩
theorem cr_sortPT : CallR X (.builtin "sorted") (rSortPT X.K) := by
  intro pins s sg H vs us Q I r h
  obtain ⟨a, xs, rfl, sq, hx, q⟩ := h
  obtain ⟨its, rv, hl, hz⟩ := I.list sq
  obtain ⟨u, rfl, ru⟩ := vals1 r
  obtain rfl : u = Value.ref a := ru
  obtain ⟨e1, e2⟩ := refs_back rv fun x m => let ⟨t, _, _, e, _⟩ := hx x m; ⟨t, e⟩
  have hp : ∀ v ∈ its, ∃ i j, Srt.IsPair s.heap v i j := fun v hv => by
    obtain ⟨t, rfl⟩ := e2 v hv
    obtain ⟨t', i, j, e, ht⟩ := hx (V.ref t) (by rw [e1]; exact List.mem_map.mpr ⟨_, hv, rfl⟩)
    cases e
    exact ⟨i, j, pair_of I ht⟩
  refine SrtO.sorted_pairsO (k := pairAt s.heap) hl.isList (by rw [← rv.length]; exact hz) (fun v hv => let ⟨i, j, z⟩ := hp v hv; (pairAt_of z).1) fun h' d out h1 h2 kp hd hn => ?_
  have h3 : ∀ u ∈ out, ∃ a, u = Value.ref a := fun u hu => e2 u (h2.perm.mem_iff.mp hu)
  obtain ⟨n, hn⟩ := hn
  have pm : (out.map backV).Perm xs := by rw [e1]; exact h2.perm.map _
  refine ⟨.ref d, upd H d (.lst (out.map backV)), I.laid (t' := s.toks) kp hd ⟨by rw [pm.length_eq]; exact hz, out, n, vals_back h3, hn⟩, rfl, q _ d pm ?_ (I.hok.fresh hd)⟩
  refine List.pairwise_map.mpr (h1.imp_of_mem fun {x y} mx my hxy => ?_)
  intro t i j t' i' j' ex sx ey sy
  obtain ⟨b, rfl⟩ := h3 x mx
  obtain ⟨b', rfl⟩ := h3 y my
  cases ex
  cases ey
  have k1 := (pairAt_of (pair_of I sx)).2
  have k2 := (pairAt_of (pair_of I sy)).2
  dsimp only at hxy
  rw [k1, k2] at hxy
  have z := SrtO.lexB_no.mp hxy
  dsimp only at z
  omega
end
/-- sorted(list of ints) or sorted(list of pairs of ints) -/
def sortedD : FC := fun ds st R => match ds with
  | [.ref a] => getL st a fun es => (∃ ns : List Int, es = ns.map D.int ∧ ∀ (ns' : List Int) (p : Addr), ns'.Perm ns → ns'.Pairwise (· ≤ ·) → st p = none → R (.ref p) (put st p (.lst (ns'.map D.int)))) ∨
      ((∀ d ∈ es, ∃ i j, d = .tup [.int i, .int j]) ∧ ∀ (es' : List D) (p : Addr), es'.Perm es → es'.Pairwise lexle → st p = none → R (.ref p) (put st p (.lst es')))
  | _ => False
theorem vints_of {K : PySem.W.Frag} {H : Hp} : ∀ {ns : List Int} {vs : List V}, Reps K H (ns.map D.int) vs → vs = ns.map V.int
  | [], vs, h => Reps_nil.mp h
  | n :: ns, vs, h => by
    obtain ⟨v, t, rfl, r1, r2⟩ := Reps_cons.mp h
    rw [Rep_int.mp r1, vints_of r2]; rfl
theorem dints_of {K : PySem.W.Frag} {H : Hp} : ∀ ns : List Int, Reps K H (ns.map D.int) (ns.map V.int)
  | [] => Reps.nil
  | _ :: ns => .cons (Rep_int.mpr rfl) (dints_of ns)
theorem Reps.mem {K : PySem.W.Frag} {H : Hp} : ∀ {ds : List D} {vs : List V}, Reps K H ds vs → ∀ v ∈ vs, ∃ d ∈ ds, Rep K H d v
  | [], vs, h, v, hv => by rw [Reps_nil.mp h] at hv; cases hv
  | d :: ds, vs, h, v, hv => by
    obtain ⟨v', t, rfl, r1, r2⟩ := Reps_cons.mp h
    rcases List.mem_cons.mp hv with rfl | hv
    · exact ⟨d, List.mem_cons_self, r1⟩
    · obtain ⟨d', m, r⟩ := Reps.mem r2 v hv
      exact ⟨d', List.mem_cons_of_mem _ m, r⟩
theorem reps_pw {K : PySem.W.Frag} {H : Hp} {P : V → V → Prop} {Q : D → D → Prop} (hpq : ∀ d e v u, Rep K H d v → Rep K H e u → P v u → Q d e) : ∀ {ds : List D} {vs : List V}, Reps K H ds vs → vs.Pairwise P → ds.Pairwise Q
  | [], _, _, _ => .nil
  | d :: ds, vs, h, w => by
    obtain ⟨v, t, rfl, r1, r2⟩ := Reps_cons.mp h
    obtain ⟨w1, w2⟩ := List.pairwise_cons.mp w
    refine List.pairwise_cons.mpr ⟨fun e he => ?_, reps_pw hpq r2 w2⟩
    obtain ⟨i, hi⟩ := List.mem_iff_getElem?.mp he
    obtain ⟨u, hu, r⟩ := r2.get hi
    exact hpq _ _ _ _ r1 r (w1 u (List.mem_of_getElem? hu))
theorem sim_sorted {K : PySem.W.Frag} : SimC K (fun xs H Q => rSortedI K xs H Q ∨ rSortPT K xs H Q) sortedD := by
  intro H st vs ds R Q hs rs hf hq
  match ds, hf with
  | [.ref a], hf =>
    obtain ⟨v, t, rfl, r, r2⟩ := Reps_cons.mp rs
    rw [Reps_nil.mp r2, Rep_ref.mp r]
    obtain ⟨es, e, hf⟩ := getL_inv hf
    obtain ⟨us, e1, q⟩ := hs a _ e
    have fin : ∀ {es' : List D} {us' : List V} {p : Addr}, Reps K H es' us' → (st p = none → R (.ref p) (put st p (.lst es'))) → H p = none → Q (.ref p) (upd H p (.lst us')) := fun {es' us' p} q' h hl => by
      have k2 : Keep K H st (upd H p (.lst us')) (put st p (.lst es')) := Keep.told hl _ _
      exact hq _ _ _ _ k2 (hs.told hl ⟨us', upd_same, q'.keep k2⟩) (Rep_ref.mpr rfl) (h (hs.free hl))
    rcases hf with ⟨ns, rfl, hf⟩ | ⟨hp, hf⟩
    · refine .inl ⟨a, ns, rfl, by rw [← vints_of q]; exact SqL.of e1, fun ns' p h1 h2 h3 => fin (dints_of ns') (hf ns' p h1 h2) h3⟩
    · refine .inr ⟨a, us, rfl, SqL.of e1, fun x hx => ?_, fun ys p h1 h2 h3 => ?_⟩
      · obtain ⟨d, hd, rd⟩ := Reps.mem q x hx
        obtain ⟨i, j, rfl⟩ := hp d hd
        obtain ⟨t, vs, rfl, ht, q2⟩ := Rep_tup.mp rd
        obtain ⟨v1, t1, rfl, r1, r2⟩ := Reps_cons.mp q2
        obtain ⟨v2, t2, rfl, r3, r4⟩ := Reps_cons.mp r2
        rw [Reps_nil.mp r4, Rep_int.mp r1, Rep_int.mp r3] at ht
        exact ⟨t, i, j, rfl, ht⟩
      · obtain ⟨es', q2, pm⟩ := reps_perm h1 q
        refine fin q2 (hf es' p pm (reps_pw (fun d e v u rd re w => ?_) q2 h2)) h3
        intro i j i' j' ed ee
        subst ed ee
        obtain ⟨t, vs, rfl, ht, q3⟩ := Rep_tup.mp rd
        obtain ⟨v1, t1, rfl, r1, r2⟩ := Reps_cons.mp q3
        obtain ⟨v2, t2, rfl, r3, r4⟩ := Reps_cons.mp r2
        rw [Reps_nil.mp r4, Rep_int.mp r1, Rep_int.mp r3] at ht
        obtain ⟨t', vs', rfl, ht', q4⟩ := Rep_tup.mp re
        obtain ⟨w1, s1, rfl, r5, r6⟩ := Reps_cons.mp q4
        obtain ⟨w2, s2, rfl, r7, r8⟩ := Reps_cons.mp r6
        rw [Reps_nil.mp r8, Rep_int.mp r5, Rep_int.mp r7] at ht'
        exact w _ _ _ _ _ _ rfl ht rfl ht'
/-- max(a, b), min(a, b) of ints -/
def max2D : FC := fun ds st R => match ds with
  | [.int i, .int j] => R (.int (if j > i then j else i)) st
  | _ => False
def min2D : FC := fun ds st R => match ds with
  | [.int i, .int j] => R (.int (if j < i then j else i)) st
  | _ => False
theorem sim_two {K : PySem.W.Frag} {g : Int → Int → Int} {f : FC} (hf0 : ∀ ds st R, f ds st R → ∃ i j, ds = [.int i, .int j] ∧ R (.int (g i j)) st) : SimC K (fun xs H Q => ∃ i j, xs = [.int i, .int j] ∧ Q (.int (g i j)) H) f := by
  intro H st vs ds R Q hs rs hf hq
  obtain ⟨i, j, rfl, h⟩ := hf0 ds st R hf
  obtain ⟨v, t, rfl, r1, r2⟩ := Reps_cons.mp rs
  obtain ⟨v', t', rfl, r3, r4⟩ := Reps_cons.mp r2
  rw [Reps_nil.mp r4, Rep_int.mp r1, Rep_int.mp r3]
  exact ⟨i, j, rfl, hq _ _ _ _ .refl hs (Rep_int.mpr rfl) h⟩
section
variable {X : Cx} {W : WX} {e e2 : Expr} {wa : WA} {p pos : Pos} {n : Nat}
theorem j_sorted (hm : X.mg "sorted" = none) (ha : JA X W n [e] wa) (hg : Gl X "sorted" := by rfl) (he : starEach [e] X.env = (false, eval e X.env) :: starEach [] X.env := by rfl) : JE X W (.Call (.Name "sorted" p) [e] [] pos) (wCB sortedD wa) :=
  j_callB (CallR.or cr_sortedI cr_sortPT) sim_sorted hm (by decide +kernel) ha hg (by decide) (by decide) he rfl
theorem j_max2 (hm : X.mg "max" = none) (ha : JA X W n [e, e2] wa) (hc : X.calm = true := by rfl) (hg : Gl X "max" := by rfl) (he : starEach [e, e2] X.env = (false, eval e X.env) :: starEach [e2] X.env := by rfl) (hpl : (backTo pos (starEach [e2] X.env)).any (·.1) = false := by rfl) : JE X W (.Call (.Name "max" p) [e, e2] [] pos) (wCB max2D wa) :=
  j_callB (call_max2 hc) (sim_two (g := fun i j => if j > i then j else i) fun ds st R h => by
    match ds, h with
    | [.int i, .int j], h => exact ⟨i, j, rfl, h⟩) hm (by decide +kernel) ha hg (by decide) (by decide) he hpl
theorem j_min2 (hm : X.mg "min" = none) (ha : JA X W n [e, e2] wa) (hc : X.calm = true := by rfl) (hg : Gl X "min" := by rfl) (he : starEach [e, e2] X.env = (false, eval e X.env) :: starEach [e2] X.env := by rfl) (hpl : (backTo pos (starEach [e2] X.env)).any (·.1) = false := by rfl) : JE X W (.Call (.Name "min" p) [e, e2] [] pos) (wCB min2D wa) :=
  j_callB (call_min2 hc) (sim_two (g := fun i j => if j < i then j else i) fun ds st R h => by
    match ds, h with
    | [.int i, .int j], h => exact ⟨i, j, rfl, h⟩) hm (by decide +kernel) ha hg (by decide) (by decide) he hpl
/-- a constant of the module -/
theorem jk {x : Str} {a : Addr} {d : D} {pos : Pos} (hm : X.mg x = some (.ref a)) (r : ∀ H, Rep X.K H d (.ref a)) (hg : Gl X x := by rfl) (hd : (x == ("__debug__" : Str)) = false := by decide) : JE X W (.Name x pos) (wC d) := by
  refine (pe_glob (v := .ref a) hg hm rfl hd).weak ?_
  rintro sg H Q ⟨ep, st, R, Rx, he, hs, hw, hq, hx⟩
  exact hq _ H d st .refl hs (r H) hw
end
/-- a, b, c = x, y, z of plain local names -/
def wPar3 (i j k : Nat) (wa wb wc : WE) : WS := fun E ep st => wa ep st (fun x st1 => wb ep st1 (fun y st2 => wc ep st2 (fun z st3 => E.nx (((ep.set i (some x)).set j (some y)).set k (some z)) st3) (fun x st' => E.ex x ep st')) (fun x st' => E.ex x ep st')) (fun x st' => E.ex x ep st')
section
variable {X : Cx} {W : WX} {pos : Pos}
theorem js_par3 {i j k : Nat} {x y z : Str} {a b c : Expr} {wa wb wc : WE} {px py pz pt : Pos} {kt k2 pt2} (hN : X.N.Nodup) (ha : JE X W a wa) (hb : JE X W b wb) (hcc : JE X W c wc) (hc : X.calm = true := by rfl) (hi : X.N[i]? = some x := by rfl) (hj : X.N[j]? = some y := by rfl) (hk : X.N[k]? = some z := by rfl)
    (hij : i ≠ j := by decide) (hik : i ≠ k := by decide) (hjk : j ≠ k := by decide)
    (hx : X.env.scope.names.lookup x = some .local := by rfl) (hy : X.env.scope.names.lookup y = some .local := by rfl) (hz : X.env.scope.names.lookup z = some .local := by rfl)
    (hs1 : starEach [a, b, c] X.env = (false, eval a X.env) :: starEach [b, c] X.env := by rfl) (hs2 : starEach [b, c] X.env = (false, eval b X.env) :: starEach [c] X.env := by rfl) (hs3 : starEach [c] X.env = (false, eval c X.env) :: starEach [] X.env := by rfl)
    (hw : swappedStores [.Tuple [.Name x px, .Name y py, .Name z pz] kt pt] (.Tuple [a, b, c] k2 pt2) X.env = pure (some [x, y, z]) := by rfl)
    (hs : swapsWithSole [.Tuple [.Name x px, .Name y py, .Name z pz] kt pt] (.Tuple [a, b, c] k2 pt2) pos.line X.env = pure false := by rfl) :
    JS X W (.Assign [.Tuple [.Name x px, .Name y py, .Name z pz] kt pt] (.Tuple [a, b, c] k2 pt2) pos) (wPar3 i j k wa wb wc) := by
  refine (ps_par3 hc hN hi hj hk hij hik hjk hx hy hz (pa_cons ha (pa_cons hb (pa_cons hcc pa_nil hs3) hs2) hs1) hw hs).weak ?_
  rintro Dn sg H ⟨ep, st, E, he, hs, hw, ok⟩
  refine ⟨ep, st, _, _, he, hs, hw, fun v H1 d st1 k1 s r h => ?_, ok.okX he⟩
  refine ⟨ep, st1, _, _, he.keep k1, s, h, fun v2 H2 d2 st2 k2 s2 r2 h2 => ?_, (ok.okX he).keep k1⟩
  refine ⟨ep, st2, _, _, (he.keep k1).keep k2, s2, h2, fun v3 H3 d3 st3 k3 s3 r3 h3 => ?_, ((ok.okX he).keep k1).keep k2⟩
  exact ⟨v, v2, v3, rfl, ok.nx _ H3 _ st3 ((k1.trans k2).trans k3) s3 ((((((he.keep k1).keep k2).keep k3).set ((r.keep k2).keep k3) i).set (r2.keep k3) j).set r3 k) h3⟩
end
/-! a chain of two compares -/
def wChain (f f' : F2) (wa wb wc : WE) : WE := fun ep st R Rx => wa ep st (fun x st1 => wb ep st1 (fun y st2 => f x y st2 fun z st3 => asB z fun b => cnd b (fun _ => wc ep st3 (fun w st4 => f' y w st4 R) Rx) (fun _ => R (.bl false) st3)) Rx) Rx
def wChainT (f f' : F2) (wa wb wc : WE) : WT := fun ep st R Rx => wChain f f' wa wb wc ep st (fun d st' => asB d fun b => R b st') Rx
section
variable {X : Cx} {W : WX} {K : PySem.W.Frag} {pos : Pos} {a b c : Expr} {wa wb wc : WE} {op op' : CmpOp} {r r' : R2} {f f' : F2}
theorem tw_chain (hf : Sim2 K r f) (hf' : Sim2 K r' f') : ∀ sg H Q, twE K W (wChain f f' wa wb wc) sg H Q → tChain r r' (twE K W wa) (twE K W wb) (twE K W wc) sg H Q := by
  rintro sg H Q ⟨ep, st, R, Rx, he, hs, hw, hq, hx⟩
  refine ⟨ep, st, _, Rx, he, hs, hw, fun x H1 d1 st1 k1 s1 r1 hw1 => ?_, hx⟩
  refine ⟨ep, st1, _, Rx, he.keep k1, s1, hw1, fun y H2 d2 st2 k2 s2 r2 hw2 => ?_, hx.keep k1⟩
  refine hf H2 st2 x y d1 d2 _ _ s2 (r1.keep k2) r2 hw2 fun z H3 d3 st3 k3 s3 r3 hw3 => ?_
  cases d3 with
  | bl t =>
    refine ⟨t, Rep_bl.mp r3, ?_⟩
    cases t with
    | true =>
      refine ite_tt ?_
      refine ⟨ep, st3, _, Rx, ((he.keep k1).keep k2).keep k3, s3, hw3.1 rfl, fun w H4 d4 st4 k4 s4 r4 hw4 => ?_, ((hx.keep k1).keep k2).keep k3⟩
      exact hf' H4 st4 y w d2 d4 R Q s4 ((r2.keep k3).keep k4) r4 hw4 (((hq.keep k1).keep k2).keep (k3.trans k4))
    | false => exact ite_ff (hq _ _ _ _ ((k1.trans k2).trans k3) s3 (Rep_bl.mpr rfl) (hw3.2 rfl))
  | _ => exact hw3.elim
theorem j_chain (ho : OpR X (compareOp op) r) (ho' : OpR X (compareOp op') r') (hf : Sim2 X.K r f) (hf' : Sim2 X.K r' f') (ha : JE X W a wa) (hb : JE X W b wb) (hc : JE X W c wc) (hm : lastMarks [op, op'] [b, c] = false := by with_unfolding_all rfl) :
    JE X W (.Compare a [op, op'] [b, c] pos) (wChain f f' wa wb wc) := (pe_chain ho ho' ha hb hc hm).weak (tw_chain hf hf')
theorem j_chainT (ho : OpR X (compareOp op) r) (ho' : OpR X (compareOp op') r') (hf : Sim2 X.K r f) (hf' : Sim2 X.K r' f') (ha : JE X W a wa) (hb : JE X W b wb) (hc : JE X W c wc) (hm : lastMarks [op, op'] [b, c] = false := by with_unfolding_all rfl) :
    JT X W (.Compare a [op, op'] [b, c] pos) (wChainT f f' wa wb wc) := by
  refine (pt_chain ho ho' ha hb hc hm).weak ?_
  rintro sg H Q ⟨ep, st, R, Rx, he, hs, hw, hq, hx⟩
  refine tw_chain hf hf' sg H _ ⟨ep, st, _, Rx, he, hs, hw, fun v H' d st' k s r h => ?_, hx⟩
  cases d with
  | bl b => exact ⟨b, Rep_bl.mp r, hq b H' st' k s h⟩
  | _ => exact h.elim
end
end DL

/-! [e for x in a for y in b]: the list that grows stands in the store, at p. -/
namespace DL
open PySem PySem.Spec PyProof.Rows L2
def lc2I (bind : D → DE → (DE → Prop) → Prop) (ep0 : DE) (wt : WT) (we : WE) (G : DS → Prop) (p : Addr) (k : DS → Prop) : List D → DS → Prop
  | [], st => G st ∧ k st
  | d :: r, st => G st ∧ bind d ep0 fun ep => wt ep st (fun b st2 => cnd b (fun _ => we ep st2 (fun y st3 => getL st3 p fun acc => acc.length < sizeLine ∧ lc2I bind ep0 wt we G p k r (put st3 p (.lst (acc ++ [y])))) (fun _ _ => False)) (fun _ => lc2I bind ep0 wt we G p k r st2)) (fun _ _ => False)
def lc2O (bind : D → DE → (DE → Prop) → Prop) (ep0 : DE) (wt : WT) (wi1 : WI) (bind1 : D → DE → (DE → Prop) → Prop) (vs1 : List Nat) (wt1 : WT) (we : WE) (G : DS → Prop) (p : Addr) (k : DS → Prop) : List D → DS → Prop
  | [], st => G st ∧ k st
  | d :: r, st => G st ∧ bind d ep0 fun ep => wt ep st (fun b st2 => cnd b (fun _ => wi1 ep st2 (fun items1 G1 st3 => lc2I bind1 (wipeD ep vs1) wt1 we G1 p (lc2O bind ep0 wt wi1 bind1 vs1 wt1 we G p k r) items1 st3) (fun _ _ => False)) (fun _ => lc2O bind ep0 wt wi1 bind1 vs1 wt1 we G p k r st2)) (fun _ _ => False)
def wLc2 (wi : WI) (bind : D → DE → (DE → Prop) → Prop) (vs : List Nat) (wt : WT) (wi1 : WI) (bind1 : D → DE → (DE → Prop) → Prop) (vs1 : List Nat) (wt1 : WT) (we : WE) : WE := fun ep st R Rx =>
  wi ep st (fun items G st' => ∀ p, st' p = none → lc2O bind (wipeD ep vs) wt wi1 bind1 vs1 wt1 we G p (fun st2 => R (.ref p) st2) items (put st' p (.lst []))) Rx
theorem lc2_ok {K : PySem.W.Frag} {W : WX} {g g1 : TG} {bind bind1 : D → DE → (DE → Prop) → Prop} {vs vs1 : List Nat} {wi wi1 : WI} {wt wt1 : WT} {we : WE} (bo : BindOk K g bind vs) (bo1 : BindOk K g1 bind1 vs1) : ∀ sg H Q, twE K W (wLc2 wi bind vs wt wi1 bind1 vs1 wt1 we) sg H Q →
    tLc2 (twI K W wi) g (twT K (fun _ _ _ _ => False) wt) (twI K (fun _ _ _ _ => False) wi1) g1 (twT K (fun _ _ _ _ => False) wt1) (twE K (fun _ _ _ _ => False) we) vs vs1 sg H Q := by
  rintro sg H Q ⟨ep, st, R, Rx, he, hs, hw, hq, hx⟩
  refine ⟨ep, st, _, _, he, hs, hw, fun H1 st1 items G J k1 s1 it hf Dl hD => ?_, hx⟩
  have nD := s1.free hD
  have kD : Keep K H1 st1 (upd H1 Dl (.lst [])) (put st1 Dl (.lst [])) := Keep.told hD _ _
  have sD : RepS K (upd H1 Dl (.lst [])) (put st1 Dl (.lst [])) := s1.told hD ⟨[], upd_same, Reps.nil⟩
  refine ⟨fun i m H' => m = items.length - i ∧ i ≤ items.length ∧ ∃ st', RepS K H' st' ∧ Keep K H1 st1 H' st' ∧ lc2O bind (wipeD ep vs) wt wi1 bind1 vs1 wt1 we G Dl (fun st2 => R (.ref Dl) st2) (items.drop i) st', ⟨_, rfl, Nat.zero_le _, _, sD, kD, hf Dl nD⟩, ?_⟩
  rintro i m H2 ⟨rfl, hi, st2, s2, k2, hf2⟩
  by_cases hlt : i < items.length
  · rw [List.drop_eq_getElem_cons hlt] at hf2
    obtain ⟨gg, hf3⟩ := hf2
    refine .inr ⟨it.goes i H2 st2 hlt k2 s2 gg, fun H' => i + 1 ≤ items.length ∧ ∃ st', RepS K H' st' ∧ Keep K H1 st1 H' st' ∧ lc2O bind (wipeD ep vs) wt wi1 bind1 vs1 wt1 we G Dl (fun st2 => R (.ref Dl) st2) (items.drop (i + 1)) st', fun H' ⟨hl, z⟩ => ⟨items.length - (i + 1), by omega, rfl, hl, z⟩, fun x H' y => ?_⟩
    obtain ⟨k3, s3, r3⟩ := it.yields i H2 st2 x H' items[i] (List.getElem?_eq_getElem hlt) k2 s2 gg y
    have he3 : RepE K H' (wipeD ep vs) (L2.wipe sg vs) := wipe_rep (((he.keep k1).keep k2).keep k3) vs
    refine bo.run r3 he3 hf3 fun ep4 sg4 e4 w4 h4 => ⟨by rw [w4, wipe_wipe], ?_⟩
    refine ⟨ep4, st2, _, _, e4, s3, h4, fun b H5 st5 k5 s5 h5 => ?_, fun _ _ _ _ _ _ _ _ z => z.elim⟩
    cases b with
    | true =>
      replace h5 := h5.1 rfl
      dsimp only
      rw [if_pos rfl]
      refine ⟨ep4, st5, _, _, e4.keep k5, s5, h5, fun H6 st6 items1 G1 J1 k6 s6 it1 hf6 => ?_, fun _ _ _ _ _ _ _ _ z => z.elim⟩
      have kk : Keep K H1 st1 H6 st6 := ((k2.trans k3).trans k5).trans k6
      have e6 : RepE K H6 ep4 sg4 := (e4.keep k5).keep k6
      refine ⟨fun j k H' => k = items1.length - j ∧ j ≤ items1.length ∧ ∃ st', RepS K H' st' ∧ Keep K H6 st6 H' st' ∧ lc2I bind1 (wipeD ep4 vs1) wt1 we G1 Dl (lc2O bind (wipeD ep vs) wt wi1 bind1 vs1 wt1 we G Dl (fun st2 => R (.ref Dl) st2) (items.drop (i + 1))) (items1.drop j) st', ⟨_, rfl, Nat.zero_le _, st6, s6, .refl, hf6⟩, ?_⟩
      rintro j k H7 ⟨rfl, hj, st7, s7, k7, hf7⟩
      by_cases hlt1 : j < items1.length
      · rw [List.drop_eq_getElem_cons hlt1] at hf7
        obtain ⟨gg1, hf8⟩ := hf7
        refine .inr ⟨it1.goes j H7 st7 hlt1 k7 s7 gg1, fun H' => j + 1 ≤ items1.length ∧ ∃ st', RepS K H' st' ∧ Keep K H6 st6 H' st' ∧ lc2I bind1 (wipeD ep4 vs1) wt1 we G1 Dl (lc2O bind (wipeD ep vs) wt wi1 bind1 vs1 wt1 we G Dl (fun st2 => R (.ref Dl) st2) (items.drop (i + 1))) (items1.drop (j + 1)) st', fun H' ⟨hl, z⟩ => ⟨items1.length - (j + 1), by omega, rfl, hl, z⟩, fun x8 H8 y8 => ?_⟩
        obtain ⟨k8, s8, r8⟩ := it1.yields j H7 st7 x8 H8 items1[j] (List.getElem?_eq_getElem hlt1) k7 s7 gg1 y8
        have he8 : RepE K H8 (wipeD ep4 vs1) (L2.wipe sg4 vs1) := wipe_rep ((e6.keep k7).keep k8) vs1
        refine bo1.run r8 he8 hf8 fun ep9 sg9 e9 w9 h9 => ⟨by rw [w9, wipe_wipe], ?_⟩
        refine ⟨ep9, st7, _, _, e9, s8, h9, fun b H10 st10 k10 s10 h10 => ?_, fun _ _ _ _ _ _ _ _ z => z.elim⟩
        cases b with
        | true =>
          replace h10 := h10.1 rfl
          dsimp only
          rw [if_pos rfl]
          refine ⟨ep9, st10, _, _, e9.keep k10, s10, h10, fun v H11 d st11 k11 s11 r11 h11 => ?_, fun _ _ _ _ _ _ _ _ z => z.elim⟩
          obtain ⟨acc, ea, hl, h⟩ := getL_inv h11
          obtain ⟨us, e1, q⟩ := s11 Dl _ ea
          have kw := s11.keepW ea (HO.lst (us ++ [v])) (OB.lst (acc ++ [d]))
          exact ⟨us, e1, by rw [← q.length]; exact hl, hlt1, put st11 Dl (.lst (acc ++ [d])), s11.write ea ⟨_, upd_same, (q.keep kw).append (.cons (r11.keep kw) Reps.nil)⟩, (((k7.trans k8).trans k10).trans k11).trans kw, h⟩
        | false =>
          replace h10 := h10.2 rfl
          dsimp only
          rw [if_neg Bool.false_ne_true]
          exact ⟨hlt1, st10, s10, (k7.trans k8).trans k10, h10⟩
      · have e : j = items1.length := by omega
        subst e
        rw [List.drop_length] at hf7
        exact .inl ⟨it1.stops H7 st7 k7 s7 hf7.1, hlt, st7, s7, kk.trans k7, hf7.2⟩
    | false =>
      replace h5 := h5.2 rfl
      dsimp only
      rw [if_neg Bool.false_ne_true]
      exact ⟨hlt, st5, s5, (k2.trans k3).trans k5, h5⟩
  · have e : i = items.length := by omega
    subst e
    rw [List.drop_length] at hf2
    exact .inl ⟨it.stops H2 st2 k2 s2 hf2.1, hq _ H2 _ st2 (k1.trans k2) s2 (Rep_ref.mpr rfl) hf2.2⟩
section
variable {X : Cx} {W : WX} {elt tg iter tg1 iter1 : Expr} {ifs ifs1 : List Expr} {scope : Scope} {own : List (Str × Nat)} {vs1 : List Nat} {pos : Pos} {wi wi1 : WI} {g g1 : TG} {bind bind1 : D → DE → (DE → Prop) → Prop} {wt wt1 : WT} {we : WE}
theorem je_lc2 (hN : X.N.Nodup) (hi : JI X W tg iter wi) (ok : blkC X.N X.env.scope scope own = true) (bo : BindOk X.K g bind (own.map (·.2))) (bo1 : BindOk X.K g1 bind1 vs1) (hv : ∀ i ∈ vs1, i ∈ own.map (·.2))
    (hg : ∀ (s : Shared) (H : Hp) (C : Addr) (cl : List (Str × Addr)) (fp : List Addr), PG (X.blk s H scope (compEnvC scope cl C X.env) fp) tg g) (ht : ∀ (s : Shared) (H : Hp) (C : Addr) (cl : List (Str × Addr)) (fp : List Addr), JTs (X.blk s H scope (compEnvC scope cl C X.env) fp) noW ifs wt)
    (hi1 : ∀ (s : Shared) (H : Hp) (C : Addr) (cl : List (Str × Addr)) (fp : List Addr), JI (X.blk s H scope (compEnvC scope cl C X.env) fp) noW tg1 iter1 wi1)
    (hg1 : ∀ (s : Shared) (H : Hp) (C : Addr) (cl : List (Str × Addr)) (fp : List Addr), PG (X.blk s H scope (compEnvC scope cl C X.env) fp) tg1 g1) (ht1 : ∀ (s : Shared) (H : Hp) (C : Addr) (cl : List (Str × Addr)) (fp : List Addr), JTs (X.blk s H scope (compEnvC scope cl C X.env) fp) noW ifs1 wt1)
    (he : ∀ (s : Shared) (H : Hp) (C : Addr) (cl : List (Str × Addr)) (fp : List Addr), JE (X.blk s H scope (compEnvC scope cl C X.env) fp) noW elt we) (hc : X.calm = true := by rfl) (hs : ∀ x, foldedSetIterable iter X.env x = pure x := by intro _; rfl) (hs1 : ∀ env x, foldedSetIterable iter1 env x = pure x := by intro _ _; rfl) :
    JE X W (.ListComp elt [⟨tg, iter, ifs, 0⟩, ⟨tg1, iter1, ifs1, 0⟩] scope pos) (wLc2 wi bind (own.map (·.2)) wt wi1 bind1 vs1 wt1 we) :=
  (pe_lc2 hc hN hi (blkOk_by ok) hv hg ht hi1 hg1 ht1 he hs hs1).weak (lc2_ok bo bo1)
end
end DL

/-! sum of a list or a tuple. -/
namespace DL
open PySem PySem.Spec PyProof.Rows L2
def rSumT (K : PySem.W.Frag) : List V → Hp → VK → Prop := fun vs H Q => ∃ (a : Addr) (ns : List Int), vs = [V.ref a] ∧ SqT K H a (ns.map V.int) ∧ Q (.int ns.sum) H
theorem cr_sumT {X : Cx} (hc : X.calm = true) : CallR X (.builtin "sum") (rSumT X.K) := by
  intro pins s sg H vs us Q I r h
  obtain ⟨a, ns, rfl, sq, q⟩ := h
  obtain ⟨its, rv, hl, _⟩ := I.tuple sq
  rw [Vals.ref1 r]
  obtain ⟨xs, e⟩ := rv.ints.allInts.items
  have hn : numsOf (intItems xs).toList = ns := by rw [← e]; exact rv.ints.numsOf
  rw [nums_intItems] at hn
  have hl' : s.heap.IsTuple a its.toArray := hl
  rw [e] at hl'
  refine PySem.W.ktm_sumG (I.ok.hd hc) hl' fun h' tk t' hk => ?_
  rw [preSum_eq, List.take_of_length_le (by simp), hn]
  exact ⟨.int _, H, I.kept hk, ⟨_, rfl⟩, q⟩
def sumA : FC := fun ds st R => match ds with
  | [.tup es] => optP (intsOf es) fun ns => R (.int ns.sum) st
  | [.ref a] => getL st a fun es => optP (intsOf es) fun ns => R (.int ns.sum) st
  | _ => False
theorem sim_sumA {K : PySem.W.Frag} : SimC K (fun xs H Q => rSum K xs H Q ∨ rSumT K xs H Q) sumA := by
  intro H st vs ds R Q hs rs hf hq
  match ds, hf with
  | [.ref a], hf => exact .inl (sim_sum H st vs [.ref a] R Q hs rs hf hq)
  | [.tup es], hf =>
    obtain ⟨v, t, rfl, r, r2⟩ := Reps_cons.mp rs
    obtain ⟨ns, en, h⟩ := optP_inv hf
    obtain ⟨a, us, rfl, ht, q⟩ := Rep_tup.mp r
    rw [intsOf_inv en] at q
    rw [Reps_nil.mp r2]
    exact .inr ⟨a, ns, rfl, by rw [← vints_of q]; exact ht, hq _ _ _ _ .refl hs (Rep_int.mpr rfl) h⟩
theorem j_sumA {X : Cx} {W : WX} {n : Nat} {e : Expr} (hm : X.mg "sum" = none) {p pos : Pos} {wa : WA} (ha : JA X W n [e] wa) (hc : X.calm = true := by rfl) (hg : Gl X "sum" := by rfl) (he : starEach [e] X.env = (false, eval e X.env) :: starEach [] X.env := by rfl) : JE X W (.Call (.Name "sum" p) [e] [] pos) (wCB sumA wa) :=
  j_callB (CallR.or (cr_sum hc) (cr_sumT hc)) sim_sumA hm (by decide +kernel) ha hg (by decide) (by decide) he rfl
section
variable {E : Ed} {ep : DE} {st : DS} {R : RD} {Rx : RX} {d x y : D} {A B : Unit → Prop} {wa wb wc : WE} {f f' : F2} {RT : Bool → DS → Prop} {i j k : Nat}
theorem s_sumAT {es : List D} (h : optP (intsOf es) fun ns => R (.int ns.sum) st) : sumA [.tup es] st R := h
theorem s_sumAL {p : Addr} (h : getL st p fun es => optP (intsOf es) fun ns => R (.int ns.sum) st) : sumA [.ref p] st R := h
theorem s_yesB {t : Bool} (e : t = true) (h : A ()) : cnd t A B := by rw [e]; exact s_cT h
theorem s_noB {t : Bool} (e : t = false) (h : B ()) : cnd t A B := by rw [e]; exact s_cF h
theorem s_cnT (h : B ()) : cnd (!true) A B := s_cF h
theorem s_cnF (h : A ()) : cnd (!false) A B := s_cT h
theorem s_par3 {nx rt bk ct ex} (h : wa ep st (fun x st1 => wb ep st1 (fun y st2 => wc ep st2 (fun z st3 => nx (((ep.set i (some x)).set j (some y)).set k (some z)) st3) (fun x st' => ex x ep st')) (fun x st' => ex x ep st')) (fun x st' => ex x ep st')) : wPar3 i j k wa wb wc { nx := nx, rt := rt, bk := bk, ct := ct, ex := ex } ep st := h
theorem s_max2 {m n : Int} (h : R (.int (if n > m then n else m)) st) : max2D [.int m, .int n] st R := h
theorem s_min2 {m n : Int} (h : R (.int (if n < m then n else m)) st) : min2D [.int m, .int n] st R := h
theorem s_chain (h : wa ep st (fun x st1 => wb ep st1 (fun y st2 => f x y st2 fun z st3 => asB z fun b => cnd b (fun _ => wc ep st3 (fun w st4 => f' y w st4 R) Rx) (fun _ => R (.bl false) st3)) Rx) Rx) : wChain f f' wa wb wc ep st R Rx := h
theorem s_chainT (h : wChain f f' wa wb wc ep st (fun d st' => asB d fun b => RT b st') Rx) : wChainT f f' wa wb wc ep st RT Rx := h
/-- a list or a tuple that holds es -/
def RowAt (st : DS) (row : D) (es : List D) : Prop := row = .tup es ∨ ∃ p, row = .ref p ∧ st p = some (.lst es)
theorem s_itRow {row : D} {es : List D} {RR : List D → (DS → Prop) → DS → Prop} (h : RowAt st row es) (k : ∀ G : DS → Prop, G st → RR es G st) : itemsD row st RR := by
  rcases h with rfl | ⟨p, rfl, e⟩
  · exact k _ trivial
  · exact s_getL e (k (fun s => s p = some (.lst es)) e)
theorem s_ixRow {row : D} {es : List D} {z : Int} (h : RowAt st row es) (k : optP (atI es z) fun d => R d st) : ixD row (.int z) st R := by
  rcases h with rfl | ⟨p, rfl, e⟩
  · exact k
  · exact s_getL e k
theorem s_lenRow {row : D} {es : List D} (h : RowAt st row es) (k : R (.int es.length) st) : lenD [row] st R := by
  rcases h with rfl | ⟨p, rfl, e⟩
  · exact k
  · exact s_getL e k
end
end DL

/-! Loops over lists of known things, over ranges; comprehensions likewise. -/
namespace DL
open PySem L2
section
variable {g : DG} {b : WS} {G : DS → Prop} {ep : DE} {st : DS}
theorem for_pre {nx rt bk ct ex} {α : Type} (f : α → D) (all : List α) (I : List α → DE → DS → Prop) (h0 : ∀ ep st, I all ep st → G st ∧ nx ep st)
    (hs : ∀ (K : DE → DS → Prop) pre a r ep st, all = pre ++ a :: r → I pre ep st → (∀ ep' st', I (pre ++ [a]) ep' st' → K ep' st') → G st ∧ g (f a) ep st (fun ep' st' => b { nx := K, rt := rt, bk := nx, ct := K, ex := ex } ep' st'))
    (h : I [] ep st) : forL g b G { nx := nx, rt := rt, bk := bk, ct := ct, ex := ex } (all.map f) ep st := by
  suffices H : ∀ r pre ep st, all = pre ++ r → I pre ep st → forL g b G { nx := nx, rt := rt, bk := bk, ct := ct, ex := ex } (r.map f) ep st from H all [] ep st rfl h
  intro r
  induction r with
  | nil => intro pre ep st e i; rw [List.append_nil] at e; subst e; exact h0 ep st i
  | cons a r ih => intro pre ep st e i; exact hs _ pre a r ep st e i fun ep' st' i' => ih (pre ++ [a]) ep' st' (by rw [e, List.append_assoc]; rfl) i'
theorem for_rng {nx rt bk ct ex} (n : Nat) (I : Nat → DE → DS → Prop) (h0 : ∀ ep st, I n ep st → G st ∧ nx ep st)
    (hs : ∀ (K : DE → DS → Prop) (j : Nat) ep st, j < n → I j ep st → (∀ ep' st', I (j + 1) ep' st' → K ep' st') → G st ∧ g (.int (j : Int)) ep st (fun ep' st' => b { nx := K, rt := rt, bk := nx, ct := K, ex := ex } ep' st'))
    (h : I 0 ep st) : forL g b G { nx := nx, rt := rt, bk := bk, ct := ct, ex := ex } ((List.range n).map fun i : Nat => D.int (0 + (i : Int))) ep st := by
  suffices H : ∀ m j ep st, j + m = n → I j ep st → forL g b G { nx := nx, rt := rt, bk := bk, ct := ct, ex := ex } ((List.range' j m).map fun i : Nat => D.int (0 + (i : Int))) ep st by
    have := H n 0 ep st (Nat.zero_add n) h
    rwa [← List.range_eq_range'] at this
  intro m
  induction m with
  | zero => intro j ep st e i; rw [Nat.add_zero] at e; subst e; exact h0 ep st i
  | succ m ih =>
    intro j ep st e i
    rw [List.range'_succ, List.map_cons]
    have := hs _ j ep st (by omega) i fun ep' st' i' => ih (j + 1) ep' st' (by omega) i'
    rw [← Int.zero_add (j : Int)] at this
    exact this
end
section
variable {bind : D → DE → (DE → Prop) → Prop} {ep0 ep : DE} {wt : WT} {we : WE} {G : DS → Prop} {k : List D → DS → Prop} {acc : List D} {st : DS}
theorem lc_pre {α : Type} (f : α → D) (all : List α) (I : List α → List D → DS → Prop) (h0 : ∀ acc st, I all acc st → G st ∧ k acc st)
    (hs : ∀ (K : List D → DS → Prop) pre a r acc st, all = pre ++ a :: r → I pre acc st → (∀ acc' st', I (pre ++ [a]) acc' st' → K acc' st') → G st ∧ bind (f a) ep0 fun ep => wt ep st (fun b st2 => cnd b (fun _ => we ep st2 (fun y st3 => acc.length < sizeLine ∧ K (acc ++ [y]) st3) (fun _ _ => False)) (fun _ => K acc st2)) (fun _ _ => False))
    (h : I [] acc st) : lcL bind ep0 wt we G k (all.map f) acc st := by
  suffices H : ∀ r pre acc st, all = pre ++ r → I pre acc st → lcL bind ep0 wt we G k (r.map f) acc st from H all [] acc st rfl h
  intro r
  induction r with
  | nil => intro pre ep st e i; rw [List.append_nil] at e; subst e; exact h0 ep st i
  | cons a r ih => intro pre acc st e i; exact hs _ pre a r acc st e i fun acc' st' i' => ih (pre ++ [a]) acc' st' (by rw [e, List.append_assoc]; rfl) i'
theorem lc_rng (n : Nat) (I : Nat → List D → DS → Prop) (h0 : ∀ acc st, I n acc st → G st ∧ k acc st)
    (hs : ∀ (K : List D → DS → Prop) (j : Nat) acc st, j < n → I j acc st → (∀ acc' st', I (j + 1) acc' st' → K acc' st') → G st ∧ bind (.int (j : Int)) ep0 fun ep => wt ep st (fun b st2 => cnd b (fun _ => we ep st2 (fun y st3 => acc.length < sizeLine ∧ K (acc ++ [y]) st3) (fun _ _ => False)) (fun _ => K acc st2)) (fun _ _ => False))
    (h : I 0 acc st) : lcL bind ep0 wt we G k ((List.range n).map fun i : Nat => D.int (0 + (i : Int))) acc st := by
  suffices H : ∀ m j acc st, j + m = n → I j acc st → lcL bind ep0 wt we G k ((List.range' j m).map fun i : Nat => D.int (0 + (i : Int))) acc st by
    have := H n 0 acc st (Nat.zero_add n) h
    rwa [← List.range_eq_range'] at this
  intro m
  induction m with
  | zero => intro j ep st e i; rw [Nat.add_zero] at e; subst e; exact h0 ep st i
  | succ m ih =>
    intro j acc st e i
    rw [List.range'_succ, List.map_cons]
    have := hs _ j acc st (by omega) i fun acc' st' i' => ih (j + 1) acc' st' (by omega) i'
    rw [← Int.zero_add (j : Int)] at this
    exact this
/-- a comprehension without a test that yields one thing f x a turn; Q: what holds of the store; P j x: of the j-th thing -/
theorem lc_each {α β : Type} (fa : α → D) (all : List α) (f : β → D) (P : Nat → α → β → Prop) (Q : DS → Prop) (hG : ∀ st, Q st → G st) (hl : all.length ≤ sizeLine)
    (hs : ∀ (K : D → DS → Prop) (j : Nat) (a : α) st, all[j]? = some a → Q st → (∀ x st', P j a x → Q st' → K (f x) st') → bind (fa a) ep0 fun ep => we ep st K (fun _ _ => False))
    (hb : ∀ d e (q r : DE → Prop), bind d e q → (∀ e', q e' → r e') → bind d e r)
    (hQ : Q st) (h : ∀ (xs : List β) st', xs.length = all.length → (∀ j a x, all[j]? = some a → xs[j]? = some x → P j a x) → Q st' → k (xs.map f) st') : lcL bind ep0 wYes we G k (all.map fa) [] st := by
  refine lc_pre fa all (fun pre acc T => ∃ xs : List β, acc = xs.map f ∧ xs.length = pre.length ∧ (∀ j a x, pre[j]? = some a → xs[j]? = some x → P j a x) ∧ Q T) ?_ ?_ ⟨[], rfl, rfl, fun j a x e => by simp at e, hQ⟩
  · rintro acc T ⟨xs, rfl, hx, hp, q⟩
    exact ⟨hG T q, h xs T hx hp q⟩
  · rintro K pre a r acc T e ⟨xs, rfl, hx, hp, q⟩ ih
    have ea : all[pre.length]? = some a := by rw [e]; simp
    have hlen : pre.length < all.length := by rw [e]; simp
    refine ⟨hG T q, hb _ _ _ _ (hs (fun y st3 => (xs.map f).length < sizeLine ∧ K (xs.map f ++ [y]) st3) pre.length a T ea q fun x st' px q' => ⟨by rw [List.length_map]; omega, ih _ _ ⟨xs ++ [x], by rw [List.map_append]; rfl, by simp [hx], fun j a' x' e1 e2 => ?_, q'⟩⟩) fun e' he => s_yes (s_cT he)⟩
    rcases Nat.lt_or_ge j pre.length with hj | hj
    · rw [List.getElem?_append_left hj] at e1
      rw [List.getElem?_append_left (by omega)] at e2
      exact hp j a' x' e1 e2
    · rw [List.getElem?_append_right hj] at e1
      rw [List.getElem?_append_right (by omega)] at e2
      have h0 : j - pre.length = 0 := by
        rcases Nat.eq_zero_or_pos (j - pre.length) with h | h
        · exact h
        · rw [List.getElem?_eq_none (by simp; omega)] at e1; cases e1
      have h1 : j - xs.length = 0 := by omega
      rw [h0] at e1; rw [h1] at e2
      simp at e1 e2
      subst e1; subst e2
      have : j = pre.length := by omega
      subst this
      exact px
end
section
variable {ep : DE} {st : DS} {as : WA} {RR : List D → (DS → Prop) → DS → Prop} {Rx : RX} {d e : D}
def zipK (ds : List D) (st' : DS) (RR : List D → (DS → Prop) → DS → Prop) : Prop := match ds with
  | [d, e] => itemsD d st' fun xs G1 s => G1 s ∧ itemsD e s fun ys G2 s => RR (zipD xs ys) (fun s => G1 s ∧ G2 s) s
  | _ => False
def enK (ds : List D) (st' : DS) (RR : List D → (DS → Prop) → DS → Prop) : Prop := match ds with
  | [d] => itemsD d st' fun items G s => RR (enumD items) G s
  | _ => False
theorem s_zip (h : as ep st (fun ds st' => zipK ds st' RR) Rx) : wi_zip as ep st RR Rx := h
theorem s_zip2 (h : itemsD d st fun xs G1 s => G1 s ∧ itemsD e s fun ys G2 s => RR (zipD xs ys) (fun s => G1 s ∧ G2 s) s) : zipK [d, e] st RR := h
theorem s_enum (h : as ep st (fun ds st' => enK ds st' RR) Rx) : wi_enumerate as ep st RR Rx := h
theorem s_enum1 (h : itemsD d st fun items G s => RR (enumD items) G s) : enK [d] st RR := h
end
theorem s_catL {p q : Addr} {st : DS} {R : RD} (h : getL st p fun a => getL st q fun b => a.length + b.length ≤ sizeLine ∧ ∀ l, st l = none → R (.ref l) (put st l (.lst (a ++ b)))) : addD (.ref p) (.ref q) st R := h
theorem lk_hit {ep : DE} {i : Nat} {d : D} (h : i < ep.length) : lk (ep.set i (some d)) i = some d := by
  unfold lk
  rw [List.getElem?_set_self h]; rfl
theorem lk_miss {ep : DE} {i j : Nat} {d : D} {x : Option D} (h : i ≠ j) (e : lk ep j = some d) : lk (ep.set i x) j = some d := by
  unfold lk at *
  rw [List.getElem?_set_ne h]; exact e
theorem len_set_lt {ep : DE} {i j : Nat} {x : Option D} (h : i < ep.length) : i < (ep.set j x).length := by rw [List.length_set]; exact h
end DL

/-! == of things without places in them. -/
namespace DL
open PySem PySem.Spec PyProof.Rows L2
mutual
def pdOf : D → PyData
  | .non => .none
  | .bl b => .bool b
  | .int i => .int i
  | .str x => .str x
  | .tup ds => .tuple (pdsOf ds)
  | .scr ds => .none
  | .key ds => .none
  | .ref _ => .none
def pdsOf : List D → List PyData
  | [] => []
  | d :: ds => pdOf d :: pdsOf ds
end
mutual
/-- no places, no script; the texts can be laid -/
def pureOk : D → Bool
  | .non => true
  | .bl _ => true
  | .int _ => true
  | .str x => PySem.PyData.strOk x
  | .tup ds => pureOks ds
  | .scr _ => false
  | .key _ => false
  | .ref _ => false
def pureOks : List D → Bool
  | [] => true
  | d :: ds => pureOk d && pureOks ds
end
mutual
def dep : D → Nat
  | .tup ds => deps ds + 1
  | .non => 0 | .bl _ => 0 | .int _ => 0 | .str _ => 0 | .scr _ => 0 | .ref _ => 0 | .key _ => 0
def deps : List D → Nat
  | [] => 0
  | d :: ds => max (dep d) (deps ds)
end
mutual
def peq : D → D → Bool
  | .non, .non => true
  | .bl a, .bl b => a == b
  | .bl a, .int j => (if a then 1 else 0) == j
  | .int i, .bl b => i == (if b then 1 else 0)
  | .int i, .int j => i == j
  | .str x, .str y => x == y
  | .tup xs, .tup ys => peqs xs ys
  | _, _ => false
def peqs : List D → List D → Bool
  | [], [] => true
  | x :: xs, y :: ys => peq x y && peqs xs ys
  | _, _ => false
end
mutual
theorem pyOf_pd {st : DS} : ∀ d : D, pureOk d = true → PyOf st d (pdOf d)
  | .non, _ => by rw [pdOf]; exact .non
  | .bl b, _ => by rw [pdOf]; exact .bl b
  | .int i, _ => by rw [pdOf]; exact .int i
  | .str x, _ => by rw [pdOf]; exact .str x
  | .tup ds, h => by rw [pdOf]; exact .tup (pyOf_pds ds (by rw [pureOk] at h; exact h))
  | .scr _, h => by rw [pureOk] at h; cases h
  | .key _, h => by rw [pureOk] at h; cases h
  | .ref _, h => by rw [pureOk] at h; cases h
theorem pyOf_pds {st : DS} : ∀ ds : List D, pureOks ds = true → Paired (PyOf st) ds (pdsOf ds)
  | [], _ => by rw [pdsOf]; exact .nil
  | d :: ds, h => by
    rw [pureOks, Bool.and_eq_true] at h
    rw [pdsOf]
    exact .cons (pyOf_pd d h.1) (pyOf_pds ds h.2)
end
mutual
theorem lay_pd : ∀ d : D, pureOk d = true → PyData.canLay0 (pdOf d) = true
  | .non, _ => by rw [pdOf]; rfl
  | .bl b, _ => by rw [pdOf]; rfl
  | .int i, _ => by rw [pdOf]; rfl
  | .str x, h => by rw [pureOk] at h; rw [pdOf]; exact h
  | .tup ds, h => by rw [pureOk] at h; rw [pdOf]; exact lay_pds ds h
  | .scr _, h => by rw [pureOk] at h; cases h
  | .key _, h => by rw [pureOk] at h; cases h
  | .ref _, h => by rw [pureOk] at h; cases h
theorem lay_pds : ∀ ds : List D, pureOks ds = true → PyData.canLayAll0 (pdsOf ds) = true
  | [], _ => by rw [pdsOf]; rfl
  | d :: ds, h => by
    rw [pureOks, Bool.and_eq_true] at h
    rw [pdsOf]
    show (PyData.canLay0 _ && PyData.canLayAll0 _) = true
    rw [lay_pd d h.1, lay_pds ds h.2]; rfl
end
mutual
theorem depth_pd : ∀ d : D, PyData.depth (pdOf d) = dep d
  | .non => by rw [pdOf, dep]; rfl
  | .bl b => by rw [pdOf, dep]; rfl
  | .int i => by rw [pdOf, dep]; rfl
  | .str x => by rw [pdOf, dep]; rfl
  | .tup ds => by rw [pdOf, dep]; show PyData.depthAll _ + 1 = _; rw [depth_pds ds]
  | .scr _ => by rw [pdOf, dep]; rfl
  | .key _ => by rw [pdOf, dep]; rfl
  | .ref _ => by rw [pdOf, dep]; rfl
theorem depth_pds : ∀ ds : List D, PyData.depthAll (pdsOf ds) = deps ds
  | [] => by rw [pdsOf, deps]; rfl
  | d :: ds => by rw [pdsOf, deps]; show max (PyData.depth _) (PyData.depthAll _) = _; rw [depth_pd d, depth_pds ds]
end
mutual
theorem eqv_pd : ∀ a b : D, pureOk a = true → pureOk b = true → PyData.eqv (pdOf a) (pdOf b) = peq a b
  | .tup xs, .tup ys, h, g => by
    rw [pureOk] at h g
    rw [pdOf, pdOf, peq]
    show PyData.eqvAll _ _ = _
    exact eqv_pds xs ys h g
  | .scr _, _, h, _ => by rw [pureOk] at h; cases h
  | .key _, _, h, _ => by rw [pureOk] at h; cases h
  | .ref _, _, h, _ => by rw [pureOk] at h; cases h
  | .non, .scr _, _, h => by rw [pureOk] at h; cases h
  | .non, .key _, _, h => by rw [pureOk] at h; cases h
  | .non, .ref _, _, h => by rw [pureOk] at h; cases h
  | .bl _, .scr _, _, h => by rw [pureOk] at h; cases h
  | .bl _, .key _, _, h => by rw [pureOk] at h; cases h
  | .bl _, .ref _, _, h => by rw [pureOk] at h; cases h
  | .int _, .scr _, _, h => by rw [pureOk] at h; cases h
  | .int _, .key _, _, h => by rw [pureOk] at h; cases h
  | .int _, .ref _, _, h => by rw [pureOk] at h; cases h
  | .str _, .scr _, _, h => by rw [pureOk] at h; cases h
  | .str _, .key _, _, h => by rw [pureOk] at h; cases h
  | .str _, .ref _, _, h => by rw [pureOk] at h; cases h
  | .tup _, .scr _, _, h => by rw [pureOk] at h; cases h
  | .tup _, .key _, _, h => by rw [pureOk] at h; cases h
  | .tup _, .ref _, _, h => by rw [pureOk] at h; cases h
  | .non, .non, _, _ => by rw [pdOf, peq]; rfl
  | .non, .bl _, _, _ => by simp only [pdOf, peq, PyData.eqv]
  | .non, .int _, _, _ => by simp only [pdOf, peq, PyData.eqv]
  | .non, .str _, _, _ => by simp only [pdOf, peq, PyData.eqv]
  | .non, .tup _, _, _ => by simp only [pdOf, peq, PyData.eqv]
  | .bl _, .non, _, _ => by simp only [pdOf, peq, PyData.eqv]
  | .bl _, .bl _, _, _ => by simp only [pdOf, peq, PyData.eqv]
  | .bl _, .int _, _, _ => by simp only [pdOf, peq, PyData.eqv]
  | .bl _, .str _, _, _ => by simp only [pdOf, peq, PyData.eqv]
  | .bl _, .tup _, _, _ => by simp only [pdOf, peq, PyData.eqv]
  | .int _, .non, _, _ => by simp only [pdOf, peq, PyData.eqv]
  | .int _, .bl _, _, _ => by simp only [pdOf, peq, PyData.eqv]
  | .int _, .int _, _, _ => by simp only [pdOf, peq, PyData.eqv]
  | .int _, .str _, _, _ => by simp only [pdOf, peq, PyData.eqv]
  | .int _, .tup _, _, _ => by simp only [pdOf, peq, PyData.eqv]
  | .str _, .non, _, _ => by simp only [pdOf, peq, PyData.eqv]
  | .str _, .bl _, _, _ => by simp only [pdOf, peq, PyData.eqv]
  | .str _, .int _, _, _ => by simp only [pdOf, peq, PyData.eqv]
  | .str _, .str _, _, _ => by simp only [pdOf, peq, PyData.eqv]
  | .str _, .tup _, _, _ => by simp only [pdOf, peq, PyData.eqv]
  | .tup _, .non, _, _ => by simp only [pdOf, peq, PyData.eqv]
  | .tup _, .bl _, _, _ => by simp only [pdOf, peq, PyData.eqv]
  | .tup _, .int _, _, _ => by simp only [pdOf, peq, PyData.eqv]
  | .tup _, .str _, _, _ => by simp only [pdOf, peq, PyData.eqv]
theorem eqv_pds : ∀ a b : List D, pureOks a = true → pureOks b = true → PyData.eqvAll (pdsOf a) (pdsOf b) = peqs a b
  | [], [], _, _ => by simp only [pdsOf, peqs, PyData.eqvAll]
  | [], _ :: _, _, _ => by simp only [pdsOf, peqs, PyData.eqvAll]
  | _ :: _, [], _, _ => by simp only [pdsOf, peqs, PyData.eqvAll]
  | x :: xs, y :: ys, h, g => by
    rw [pureOks, Bool.and_eq_true] at h g
    rw [pdsOf, pdsOf, peqs]
    show (PyData.eqv _ _ && PyData.eqvAll _ _) = _
    rw [eqv_pd x y h.1 g.1, eqv_pds xs ys h.2 g.2]
end
theorem shaped_pd {d : D} (h : pureOk d = true) (hd : dep d ≤ 64) : SeqAt.shaped (pdOf d) = true := by
  unfold SeqAt.shaped
  rw [lay_pd d h, depth_pd]
  exact decide_eq_true hd
section
variable {st : DS} {R : RD} {a b : D}
theorem s_eqP (ha : pureOk a = true) (hb : pureOk b = true) (da : dep a ≤ 64) (db : dep b ≤ 64) (h : R (.bl (peq a b)) st) : eqD a b st R := by
  have deep : ∃ px py, PyOf st a px ∧ PyOf st b py ∧ SeqAt.shaped px = true ∧ SeqAt.shaped py = true ∧ R (.bl (PyData.eqv px py)) st :=
    ⟨_, _, pyOf_pd a ha, pyOf_pd b hb, shaped_pd ha da, shaped_pd hb db, by rw [eqv_pd a b ha hb]; exact h⟩
  unfold eqD
  split
  · rw [peq] at h; exact h
  · rw [peq] at h; exact h
  · rw [peq] at h; exact h
  · rw [peq] at h; exact h
  · simp only [peq] at h; exact h
  · simp only [peq] at h; exact h
  · simp only [peq] at h; exact h
  · simp only [peq] at h; exact h
  · simp only [peq] at h; exact h
  · simp only [peq] at h; exact h
  · exact deep
theorem s_neP (ha : pureOk a = true) (hb : pureOk b = true) (da : dep a ≤ 64) (db : dep b ≤ 64) (h : R (.bl (!peq a b)) st) : neD a b st R := by
  have deep : ∃ px py, PyOf st a px ∧ PyOf st b py ∧ SeqAt.shaped px = true ∧ SeqAt.shaped py = true ∧ R (.bl (!PyData.eqv px py)) st :=
    ⟨_, _, pyOf_pd a ha, pyOf_pd b hb, shaped_pd ha da, shaped_pd hb db, by rw [eqv_pd a b ha hb]; exact h⟩
  unfold neD
  split
  · rw [peq] at h; exact h
  · rw [peq] at h; exact h
  · rw [peq] at h; exact h
  · rw [peq] at h; exact h
  · simp only [peq] at h; exact h
  · simp only [peq] at h; exact h
  · simp only [peq] at h; exact h
  · simp only [peq] at h; exact h
  · simp only [peq] at h; exact h
  · simp only [peq] at h; exact h
  · exact deep
end
mutual
def noB : D → Bool
  | .non => true
  | .bl _ => false
  | .int _ => true
  | .str _ => true
  | .tup ds => noBs ds
  | .scr _ => false
  | .key _ => false
  | .ref _ => false
def noBs : List D → Bool
  | [] => true
  | d :: ds => noB d && noBs ds
end
mutual
theorem peq_refl : ∀ a : D, pureOk a = true → peq a a = true
  | .non, _ => by rw [peq]
  | .bl b, _ => by rw [peq]; exact beq_self_eq_true b
  | .int i, _ => by rw [peq]; exact beq_self_eq_true i
  | .str x, _ => by rw [peq]; exact beq_self_eq_true x
  | .tup ds, h => by rw [pureOk] at h; rw [peq]; exact peqs_refl ds h
  | .scr _, h => by rw [pureOk] at h; cases h
  | .key _, h => by rw [pureOk] at h; cases h
  | .ref _, h => by rw [pureOk] at h; cases h
theorem peqs_refl : ∀ a : List D, pureOks a = true → peqs a a = true
  | [], _ => by rw [peqs]
  | d :: ds, h => by
    rw [pureOks, Bool.and_eq_true] at h
    rw [peqs, peq_refl d h.1, peqs_refl ds h.2]; rfl
end
mutual
theorem peq_inv : ∀ a b : D, noB a = true → noB b = true → peq a b = true → a = b
  | .non, b, _, _, h => by cases b <;> simp [peq] at h ⊢
  | .bl _, _, h, _, _ => by rw [noB] at h; cases h
  | .int i, .int j, _, _, h => by rw [peq] at h; rw [eq_of_beq h]
  | .int i, .bl b, _, h, _ => by rw [noB] at h; cases h
  | .int i, .non, _, _, h => by simp [peq] at h
  | .int i, .str _, _, _, h => by simp [peq] at h
  | .int i, .tup _, _, _, h => by simp [peq] at h
  | .int i, .scr _, _, _, h => by simp [peq] at h
  | .int i, .key _, _, _, h => by simp [peq] at h
  | .int i, .ref _, _, _, h => by simp [peq] at h
  | .str x, b, _, _, h => by cases b <;> simp [peq] at h ⊢; exact h
  | .tup xs, .tup ys, g, g', h => by rw [noB] at g g'; rw [peq] at h; rw [peqs_inv xs ys g g' h]
  | .tup xs, .non, _, _, h => by simp [peq] at h
  | .tup xs, .bl _, _, _, h => by simp [peq] at h
  | .tup xs, .int _, _, _, h => by simp [peq] at h
  | .tup xs, .str _, _, _, h => by simp [peq] at h
  | .tup xs, .scr _, _, _, h => by simp [peq] at h
  | .tup xs, .key _, _, _, h => by simp [peq] at h
  | .tup xs, .ref _, _, _, h => by simp [peq] at h
  | .scr _, _, h, _, _ => by rw [noB] at h; cases h
  | .key _, _, h, _, _ => by rw [noB] at h; cases h
  | .ref _, _, h, _, _ => by rw [noB] at h; cases h
theorem peqs_inv : ∀ a b : List D, noBs a = true → noBs b = true → peqs a b = true → a = b
  | [], [], _, _, _ => rfl
  | [], _ :: _, _, _, h => by simp [peqs] at h
  | _ :: _, [], _, _, h => by simp [peqs] at h
  | x :: xs, y :: ys, g, g', h => by
    rw [noBs, Bool.and_eq_true] at g g'
    rw [peqs, Bool.and_eq_true] at h
    rw [peq_inv x y g.1 g'.1 h.1, peqs_inv xs ys g.2 g'.2 h.2]
end
theorem peq_dec {a b : D} (ha : pureOk a = true) (na : noB a = true) (nb : noB b = true) {p : Prop} [Decidable p] (hp : a = b ↔ p) : peq a b = decide p := by
  by_cases h : p
  · rw [decide_eq_true h]
    have := hp.mpr h
    subst this
    exact peq_refl a ha
  · rw [decide_eq_false h]
    cases e : peq a b with
    | false => rfl
    | true => exact absurd (hp.mp (peq_inv a b na nb e)) h
end DL

/-! The law's own start. -/
namespace DL
open PySem PySem.Spec PyProof.Rows L2
theorem sqF_of {K : PySem.W.Frag} {H : Hp} {a : Addr} {vs : List V} (hO : Only H) (hS : SqL K H a vs) : SqF K H a vs := by
  rcases hS with (h | h) | h
  · rcases hO a with z | ⟨o, xs, z⟩
    · rw [h] at z; cases z
    · rw [h] at z; cases z
  · exact .inl h
  · exact .inr h
theorem reps_ints {K : PySem.W.Frag} {H : Hp} : ∀ ns : List Int, Reps K H (ns.map D.int) (ns.map V.int)
  | [] => Reps_nil.mpr rfl
  | n :: ns => Reps_cons.mpr ⟨_, _, rfl, Rep_int.mpr rfl, reps_ints ns⟩
theorem law_start {K : PySem.W.Frag} {H : Hp} {a : Addr} {ns : List Int} {S : SpD} (hO : Only H) (hS : SqL K H a (ns.map V.int)) (h : S [.scr (ns.map D.int)] (fun _ => none) (fun d _ => d = .bl true) (fun _ _ => False)) :
    spOf K S [.ref a] H (fun v _ => v = .bl true) fun _ _ _ => False := by
  refine ⟨[.scr (ns.map D.int)], fun _ => none, _, _, Reps_cons.mpr ⟨_, _, rfl, Rep_scr.mpr ⟨a, _, rfl, sqF_of hO hS, reps_ints ns⟩, Reps_nil.mpr rfl⟩, fun _ _ e => (by cases e), h, ?_, fun _ _ _ _ _ _ _ _ z => z.elim⟩
  rintro v H' d st' - - r rfl
  exact Rep_bl.mp r
theorem no_cx {P : Program} {w : World} {H : Hp} {s : Shared} {e : Value} {s' : Shared} (h : L2.CX P w [] H s (fun _ _ _ => False) e s') : False := by
  obtain ⟨_, _, _, _, _, -, -, -, -, -, -, -, z⟩ := h
  exact z
end DL

/-! Own exception classes below ValueError whose __init__ says super().__init__("text"), and perhaps self.f = f. -/
namespace DL
open PySem PySem.Spec PySem.W PySem.Calls PyProof.Rows L2 PySem.HandSPX

/-- the first statement of such an __init__ -/
abbrev supS (T : Str) (j : Nat) (p0 p1 p2 p3 p4 p5 : Pos) : Stmt := .Expr (.Call (.Attribute (.Call (.Name "super" p0) [] [] p1) "__init__" p2) [.Constant (.str T) j p3] [] p4) p5
/-- what the written part says of a class x, at C, its __init__ at fI -/
structure XB (P : Program) (K : Frag) (mg : Str → Option Value) (x : Str) (C fI : Addr) (params : Arguments) (rest : List Stmt) (scope : Scope) : Prop where
  gC : mg x = some (.ref C)
  ox : OexC K C
  iC : findIn K (.ref C) "__init__" = some (some (.ref fI))
  tI : typeIn K (.ref fI) = some (.type "function")
  hB : subIn K (.ref C) (.type "ValueError") = some true
  sup : ks_superIn K C C "__init__" = some (some (.builtin "ValueError.__init__"))
  opq : nsIn K cStatics "thirdparty.any" = some none
  nsup : mg "super" = none
  slf : mroIn K C (.ref C) = some true
  top : (P.main.scope.names.lookup ("super" : Str)).isSome = false
  fn : ∃ (oc dV kV doc pm ct : Value) (od an : Option Addr) (osl : Array (Option Value)) (cda cc : Addr) (qual T : Str) (j : Nat) (p0 p1 p2 p3 p4 p5 : Pos),
    K.lookup fI = some ⟨oc, od, .func (ksFn "__init__" qual params (supS T j p0 p1 p2 p3 p4 p5 :: rest) scope dV kV doc pm an (.ref cda) ct cc), osl⟩ ∧ codeIn K (.ref cda) qual = true ∧ (p2.endLine == p4.line) = true ∧
    (∃ (ccl : Value) (cdd : Option Addr) (ccs : Array (Option Value)) (vs : Array Value) (file : Str) (tf : Tok), K.lookup cda = some ⟨ccl, cdd, .fields vs, ccs⟩ ∧ vs[2]? = some (.str file tf) ∧ ((P.main.file : Str) == file) = true) ∧
    (∃ (cl : Value) (cld : Option Addr) (csl : Array (Option Value)), K.lookup cc = some ⟨cl, cld, .cell (some (.ref C)), csl⟩) ∧
    (∀ us : List Value, us.length = params.args.length → bindArgs (ksFn "__init__" qual params (supS T j p0 p1 p2 p3 p4 p5 :: rest) scope dV kV doc pm an (.ref cda) ct cc) ⟨us, []⟩ = pure ((params.args.map (·.arg)).zip us))
  pos : params.posonlyargs = []
  par : ∃ ar l, params.posonlyargs ++ params.args = ar :: l ∧ ar.arg = "self"
  hks : scope.names.lookup ("super" : Str) = some .globalImplicit
  hkc : scope.names.lookup ("__class__" : Str) = some .free
  hka : scope.names.lookup ("self" : Str) = some .local
  hk : scope.kind = .function
  cell : ∀ x ∈ scope.names, x.2 ≠ .cell
  co : scope.isCoroutine = false
  gen : scope.isGenerator = false

section
variable {prog : Program} {w : World} {A : Around} {E : Value → Shared → Prop} {h : Heap} {g : Array GenState} {d : Drawn} {t : Nat} {os : OsState}
variable {nm q : Str} {C N : Addr} {bs bm : List Value} {hdct : Bool} {sn : List Str} {sub : List Value} {ab : Bool} {col : Option Bool} {dd : Option Addr} {k0 k1 k2 k3 k5 : Option Value}
theorem call_mwV {u e t0 : Addr} {rest : List Value} {Q : Value → Shared → Prop}
    (hC : h.get? C = some (excClassObj nm q C N bs bm hdct sn sub ab col dd k0 k1 k2 k3 k5 "ValueError.__new__")) (he : h.get? e = some (HandSPX.excO C t0)) (hu : h.get? u = some (kxs_mw "ValueError.__init__" e)) (hrest : rest.length ≤ sizeLine)
    (hq : ∀ h' t1, (∀ b o, b ≠ e → h.get? b = some o → h'.get? b = some o) → h'.get? e = some (HandSPX.excO C t1) → Q .none ⟨h', g, d, t, os⟩) :
    wpAny (model prog w) A (call (.ref u) rest) Q E ⟨h, g, d, t, os⟩ := by
  refine wpAny_call (codeAny_of_tree ?_)
  show wpAny _ A.in1 (callAny (.ref u) ⟨rest, []⟩) _ _ _
  simp only [callAny]
  refine wpAny_bind (wpAny_load hu ?_)
  simp only [kxs_mw, show (Value.type "method-wrapper" == Value.type "method" || Value.type "method-wrapper" == Value.type "builtin_function_or_method" || Value.type "method-wrapper" == Value.type "method-wrapper") = true by decide, if_true]
  refine W.KFB.if_so (by decide) ?_
  refine wpAny_bind (ESX.check_bound F.excBase_ValueError hC he rfl ?_)
  refine wpAny_bind (wpAny_pure (wpAny_pure ?_))
  refine ⟨Code.quiet_builtin _ (by decide +kernel), codeAny_builtin F.excBase_ValueError.initEntry ?_⟩
  rw [Around.under_plainId F.excBase_ValueError.init.plain _]
  wp_walk
  refine hq _ h.objs.size (fun b o hb ho => ?_) ?_
  · rw [Heap.get?_update_other _ _ (Ne.symm hb)]
    exact Heap.get?_push_of_some _ ho
  · rw [Heap.get?_update_self _ (Heap.get?_push_of_some _ he) rfl]
    rfl
end

section
variable {P : Program} {w : World} {A : Around} {E : Value → Shared → Prop} {R : Result → Shared → Prop} {K : Frag} {mg : Str → Option Value} {x : Str} {C fI : Addr} {params : Arguments} {rest : List Stmt} {scope : Scope}
theorem clsIn_of {C : Addr} {oc : Value} {od : Option Addr} {cd : ClassData} {sl : Array (Option Value)} (h : K.lookup C = some ⟨oc, od, .cls cd, sl⟩) : clsIn K C = some cd := by unfold clsIn; rw [h] <;> rfl

/-- the statement super().__init__("text") -/
theorem sup_stmt (T : XB P K mg x C fI params rest scope) {h : Heap} {g : Array GenState} {d : Drawn} {t : Nat} {os : OsState} {L e t0 cda cc : Addr} {m : Str → Option Value} {body : List Stmt} {qual TX : Str} {j : Nat} {p0 p1 p2 p3 p4 p5 : Pos}
    {oc dV kV doc pm ct : Value} {od an : Option Addr} {osl : Array (Option Value)} {Q : Flow → Shared → Prop} (hline : (p2.endLine == p4.line) = true)
    (hf : K.lookup fI = some ⟨oc, od, .func (ksFn "__init__" qual params body scope dV kV doc pm an (.ref cda) ct cc), osl⟩)
    (hcode : ∃ (ccl : Value) (cdd : Option Addr) (ccs : Array (Option Value)) (vs : Array Value) (file : Str) (tf : Tok), K.lookup cda = some ⟨ccl, cdd, .fields vs, ccs⟩ ∧ vs[2]? = some (.str file tf) ∧ ((P.main.file : Str) == file) = true)
    (hcell : ∃ (cl : Value) (cld : Option Addr) (csl : Array (Option Value)), K.lookup cc = some ⟨cl, cld, .cell (some (.ref C)), csl⟩)
    (X : K.In h) (hg : h.Ns mainGlobals mg) (hb : ∃ mb, h.Ns builtinsNs mb ∧ ∀ x : Str, x ≠ "__name__" → mb x = bootBuiltins x) (hn : h.Ns L m) (hm : m "self" = some (.ref e)) (he : h.get? e = some (HandSPX.excO C t0)) (hnx : K.lookup e = none)
    (hq : ∀ h' t1 t', (∀ b o, b ≠ e → h.get? b = some o → h'.get? b = some o) → h'.get? e = some (HandSPX.excO C t1) → Q .next ⟨h', g, d, t', os⟩) :
    _root_.PySem.wpAt (model P w) A (.func body (ksEnv qual scope L fI (.ref cda) cc)) (exec (supS TX j p0 p1 p2 p3 p4 p5) (ksEnv qual scope L fI (.ref cda) cc)) Q E ⟨h, g, d, t, os⟩ := by
  obtain ⟨ccl, cdd, ccs, vs, file, tf, hco, hvs, hfile⟩ := hcode
  obtain ⟨cl, cld, csl, hce⟩ := hcell
  obtain ⟨nm, q, N, bs, bm, sn, sub, ab, col, dd, k0, k1, k2, k3, k5, hC, hbm⟩ := T.ox.cls
  obtain ⟨ar, l, hpar, har⟩ := T.par
  obtain ⟨mb, hb1, hb2⟩ := hb
  have hcl : ∃ cd : ClassData, clsIn K C = some cd ∧ ∃ oC, h.get? C = some oC ∧ oC.data = .cls cd := ⟨_, clsIn_of hC, _, X _ _ hC, rfl⟩
  obtain ⟨cd, hcd, oC, hC1, hC2⟩ := hcl
  have hne : e ≠ C := fun z => by rw [z, hC] at hnx; cases hnx
  have hev : eval (.Call (.Attribute (.Call (.Name "super" p0) [] [] p1) "__init__" p2) [.Constant (.str TX) j p3] [] p4) (ksEnv qual scope L fI (.ref cda) cc) = (do
      let ov ← attributeBase (.Call (.Name "super" p0) [] [] p1) "__init__" (ksEnv qual scope L fI (.ref cda) cc) (eval (.Call (.Name "super" p0) [] [] p1) (ksEnv qual scope L fI (.ref cda) cc))
      standAt p2.atName
      let (f, first) ← holding [ov] (getMethod ov "__init__" (do return (← importBound (.Call (.Name "super" p0) [] [] p1) (ksEnv qual scope L fI (.ref cda) cc)).getD true))
      callWith p4 f first (backTo p4 (starEach [.Constant (.str TX) j p3] (ksEnv qual scope L fI (.ref cda) cc))) []) := by
    rw [arm_eval_Call]
    have hform : methodCallForm (([.Constant (.str TX) j p3] : List Expr).length + ([] : List Keyword).length) (backTo p4 (starEach [.Constant (.str TX) j p3] (ksEnv qual scope L fI (.ref cda) cc))) (backToKw p4 (keywordEach [] (ksEnv qual scope L fI (.ref cda) cc))) = true := by rfl
    have hpos : methodCallPos true (.Call (.Name "super" p0) [] [] p1) (ksEnv qual scope L fI (.ref cda) cc) p2 p4 = pure p4 := by unfold methodCallPos; simp [hline]
    unfold methodCall
    rw [hform]
    simp only [hpos, calleeOf, if_true, pure_bind]
    rfl
  refine ks_wpAt_Expr_any (ks_wpAt_MethodCall ?_ hev) (by simp [interactive, T.hk]; try decide) (by rfl)
  refine ks_wpAt_super_base (env := ksEnv qual scope L fI (.ref cda) cc) T.hks T.hkc (by decide) rfl (X _ _ hf) rfl (ar := ar) (by show (params.posonlyargs ++ params.args).head? = _; rw [hpar]; rfl) rfl (X _ _ hco) rfl hvs hfile T.top ?_
  refine ks_loadName_global T.hk T.hks (loadGlobal_builtin (env := ksEnv qual scope L fI (.ref cda) cc) hg T.nsup hb1 ((hb2 _ (by decide)).trans PyProof.Rows.Boot.«super») ⟨rfl, ?_⟩)
  refine wpAny_loadName_free T.hk T.hkc rfl ⟨_, X _ _ hce, rfl⟩ ?_
  rw [har]
  refine wpAny_loadName_local T.hk T.hka hn hm ?_
  refine ks_wpAny_isType_cls hC1 hC2 ⟨rfl, ?_⟩
  refine ks_wpAny_call_super hC1 hC2 he rfl (fun c z => by cases z) (looks_mroIn X T.slf) (fun h1 e1 k1' => ?_)
  have X1 : K.In h1 := X.keeps k1'
  have he1 := k1' _ _ he
  have I1 : InstAt h1 e (HandSPX.excO C t0) C none := ⟨he1, rfl, rfl, trivial⟩
  have hsup := T.sup
  unfold ks_superIn at hsup
  rw [hcd, Option.bind_some] at hsup
  refine kxs_getMethod (l₀ := cd.mro) kxs_ValueError e1 (looks_opaque X1 T.opq) (fun A Q E s k q => wpAny_bind ((looks_clsIn X1 hcd) A _ E s k (wpAny_pure q))) rfl X1 hsup (I1.type.andThen (looks_subIn X1 T.hB)) hne (by decide) ?_
  have k2' : ∀ b o, h1.get? b = some o → (h1.push (kxs_mw "ValueError.__init__" e)).get? b = some o := fun b o z => Heap.get?_push_of_some _ z
  have hu : (h1.push (kxs_mw "ValueError.__init__" e)).get? h1.objs.size = some (kxs_mw "ValueError.__init__" e) := Heap.get?_push_at rfl rfl
  show wpAny _ _ (callWith p4 (.ref h1.objs.size) [] (backTo p4 (starEach [.Constant (.str TX) j p3] _)) []) _ _ _
  refine kxs_callWith (i := "ValueError.__init__") (x := e) (by rfl) ?_
  refine evalArgs_plain ?_
  refine Calls.spliced_cons (Calls.Constant_str (k := j) (pos := p3) (Calls.spliced_nil ⟨hu, ?_⟩))
  exact call_mwV (X1.keeps k2' _ _ hC) (k2' _ _ he1) hu (by rw [sizeLine_eq]; exact (by decide : 1 ≤ 16777216)) fun h' t1 k3' he' => hq h' t1 _ (fun b o hb z => k3' b o hb (k2' _ _ (k1' _ _ z))) he'
/-- what a run of __init__ leaves of a fresh exception at x; ns: its fields -/
structure Left (h h' : Heap) (x C : Addr) (od : Option Addr) (f : Str) (u : Value) : Prop where
  keep : ∀ b o, b ≠ x → h.get? b = some o → h'.get? b = some o
  obj : ∃ t1 : Addr, h'.get? x = some { cls := .ref C, dict := od, data := .fields #[.ref t1, .none, .none, .none, .bool false, .none] }
  dct : ∀ dx, od = some dx → h.objs.size ≤ dx ∧ dx ≠ x ∧ h'.Ns1 dx (fun y => if y = f then some u else none)

theorem init0 (T : XB P K mg x C fI params [] scope) (hpa : params.args.length = 1) {h : Heap} {g : Array GenState} {d : Drawn} {t : Nat} {os : OsState} {e t0 : Addr}
    (X : K.In h) (hg : h.Ns mainGlobals mg) (hb : ∃ mb, h.Ns builtinsNs mb ∧ ∀ x : Str, x ≠ "__name__" → mb x = bootBuiltins x) (lim : h.NoLimit) (he : h.get? e = some (HandSPX.excO C t0)) (hnx : K.lookup e = none) (hroom : A.depth < recursionLimit)
    (hq : ∀ h' t', Left h h' e C none "" .none → R (.ok (.ret .none)) ⟨h', g, d, t', os⟩) :
    codeAny (model P w) A (.call (.ref fI) ⟨[.ref e], []⟩) R ⟨h, g, d, t, os⟩ := by
  obtain ⟨oc, dV, kV, doc, pm, ct, od, an, osl, cda, cc, qual, TX, j, p0, p1, p2, p3, p4, p5, hf, hcd, hline, hco, hce, hbind⟩ := T.fn
  obtain ⟨ar, l, hpar, har⟩ := T.par
  have hbd := hbind [.ref e] (by rw [hpa]; rfl)
  have hpm : params.args.map (·.arg) = [("self" : Str)] := by
    have hpo := T.pos
    rw [hpo, List.nil_append] at hpar
    rw [hpar] at hpa ⊢
    have : l = [] := by simpa using hpa
    subst this
    rw [List.map_cons, har]; rfl
  rw [hpm] at hbd
  refine ks_codeAny_call_defAt (fd := ksFn "__init__" qual params (supS TX j p0 p1 p2 p3 p4 p5 :: []) scope dV kV doc pm an (.ref cda) ct cc) hroom (X _ _ hf) rfl lim (codeRec_of X hcd) rfl (BindsTo.of_eq hbd) T.cell ?_ (fun h₀ hns k0 => ?_) T.co T.gen T.hk
  · intro y hy
    have : y = (("self" : Str), Value.ref e) := by simpa using hy
    rw [this]; exact T.hka
  · refine ks_wpAt_execs_cons ?_
    refine sup_stmt T hline hf hco hce (X.keeps k0) (hg.keeps k0) ?_ hns (by rfl) (k0 _ _ he) hnx fun h' t1 t' k1 he' => ?_
    · obtain ⟨mb, b1, b2⟩ := hb
      exact ⟨mb, b1.keeps k0, b2⟩
    · exact _root_.PySem.wpAt_of_wpAny (wpAny_execs_nil (hq h' t' ⟨fun b o hne z => k1 b o hne (k0 b o z), ⟨t1, he'⟩, fun dx z => by cases z⟩))

theorem init1 {f : Str} {q1 q2 q3 q4 : Pos} (T : XB P K mg x C fI params [.Assign [.Attribute (.Name "self" q1) f q2] (.Name f q3) q4] scope) (hpa : params.args.map (·.arg) = [("self" : Str), f]) {h : Heap} {g : Array GenState} {d : Drawn} {t : Nat} {os : OsState} {e t0 : Addr} {u : Value}
    (hsf : f ≠ "self") (hkf : scope.names.lookup f = some .local) (hdf : (f == ("__debug__" : Str)) = false) (hno : findIn K (.ref C) f = some none)
    (X : K.In h) (hg : h.Ns mainGlobals mg) (hb : ∃ mb, h.Ns builtinsNs mb ∧ ∀ x : Str, x ≠ "__name__" → mb x = bootBuiltins x) (lim : h.NoLimit) (he : h.get? e = some (HandSPX.excO C t0)) (hnx : K.lookup e = none) (hroom : A.depth < recursionLimit)
    (hq : ∀ h' t' dx, Left h h' e C (some dx) f u → R (.ok (.ret .none)) ⟨h', g, d, t', os⟩) :
    codeAny (model P w) A (.call (.ref fI) ⟨[.ref e, u], []⟩) R ⟨h, g, d, t, os⟩ := by
  obtain ⟨oc, dV, kV, doc, pm, ct, od, an, osl, cda, cc, qual, TX, j, p0, p1, p2, p3, p4, p5, hf, hcd, hline, hco, hce, hbind⟩ := T.fn
  have hlen : params.args.length = 2 := by
    have := congrArg List.length hpa
    rw [List.length_map] at this; exact this
  have hbd := hbind [.ref e, u] (by rw [hlen]; rfl)
  rw [hpa] at hbd
  obtain ⟨nm, q, N, bs, bm, sn, sub, ab, col, dd, k0, k1, k2, k3, k5, hC, hbm⟩ := T.ox.cls
  have hcl : clsIn K C = some { name := nm, bases := bs, mro := .ref C :: bm, ns := N, qualname := q, hasDict := true, slotNames := sn, subclasses := sub, abstract := ab, collection := col, hasDel := false } := by unfold clsIn; rw [hC] <;> rfl
  refine ks_codeAny_call_defAt (fd := ksFn "__init__" qual params (supS TX j p0 p1 p2 p3 p4 p5 :: [.Assign [.Attribute (.Name "self" q1) f q2] (.Name f q3) q4]) scope dV kV doc pm an (.ref cda) ct cc) hroom (X _ _ hf) rfl lim (codeRec_of X hcd) rfl (BindsTo.of_eq hbd) T.cell ?_ (fun h₀ hns k0 => ?_) T.co T.gen T.hk
  · intro y hy
    have : y = (("self" : Str), Value.ref e) ∨ y = (f, u) := by simpa using hy
    rcases this with rfl | rfl
    · exact T.hka
    · exact hkf
  · refine ks_wpAt_execs_cons ?_
    have hself : (fun x => ([(("self" : Str), Value.ref e), (f, u)] : List (Str × Value)).reverse.lookup x) "self" = some (.ref e) := by
      have z : (("self" : Str) == f) = false := by simpa using fun y => hsf y.symm
      simp [List.lookup, z]
    have hfv : (fun x => ([(("self" : Str), Value.ref e), (f, u)] : List (Str × Value)).reverse.lookup x) f = some u := by simp [List.lookup]
    refine sup_stmt T hline hf hco hce (X.keeps k0) (hg.keeps k0) ?_ hns hself (k0 _ _ he) hnx fun h' t1 t' k1 he' => ?_
    · obtain ⟨mb, b1, b2⟩ := hb
      exact ⟨mb, b1.keeps k0, b2⟩
    · refine _root_.PySem.wpAt_of_wpAny (wpAny_execs_cons (plainObj_wpAny_Assign_Attribute ?_))
      have hLe : h.objs.size ≠ e := Nat.ne_of_gt (Heap.lt_size he)
      have hns' : h'.Ns h.objs.size (fun x => ([(("self" : Str), Value.ref e), (f, u)] : List (Str × Value)).reverse.lookup x) := by
        obtain ⟨o, es, ep, h1, h2⟩ := hns
        exact ⟨o, es, ep, k1 _ _ hLe h1, h2⟩
      have X' : K.In h' := fun a o z => k1 a o (fun y => by rw [y, hnx] at z; cases z) (X.keeps k0 a o z)
      refine wpAny_Name (wpAny_loadName_local T.hk hkf hns' hfv ?_) hdf
      refine wpAny_Name (wpAny_loadName_local T.hk T.hka hns' hself ?_) (by decide)
      refine set_plain X' (ox := HandSPX.excO C t1) (od := none) ⟨he', rfl, rfl, trivial⟩ T.ox.sa ?_
      refine exc_osa X' he' hcl (show refsVE (.ref C :: bm) = true from hbm) rfl hno (fun h3 tk3 dx k3' dn dne hx3 hn3 => ?_)
      refine wpAny_execs_nil (hq h3 tk3 dx ⟨fun b o hne z => k3' b o hne (k1 b o hne (k0 b o z)), ⟨t1, hx3⟩, fun dx' z => ?_⟩)
      cases z
      exact ⟨Nat.le_trans (Nat.le_of_lt (Nat.lt_of_lt_of_le hns'.lt (Nat.le_refl _))) dn, dne, hn3⟩
end

theorem relO_one {f : Str} {v : V} {v' : Value} (r : RelV v v') (g : Str) : RelO (List.lookup g [(f, v)]) (if g = f then some v' else none) := by
  by_cases hw : g = f
  · subst hw
    rw [if_pos rfl]
    have q : List.lookup g [(g, v)] = some v := by simp [List.lookup]
    rw [q]
    exact r
  · rw [if_neg hw]
    have qw : (g == f) = false := by simpa using hw
    have q2 : List.lookup g [(f, v)] = none := by simp [List.lookup, qw]
    rw [q2]
    trivial
section
variable {X : Cx} {x : Str} {C fI : Addr} {params : Arguments} {scope : Scope} {p pos : Pos} {k : Nat}
/-- C() -/
theorem pmk_c0 (T : XB X.prog X.K X.mg x C fI params [] scope) (hpa : params.args.length = 1) (hr : Room (k + 1) X.A) (hg : Gl X x) (hdb : (x == ("__debug__" : Str)) = false) :
    PMk X (.Call (.Name x p) [] [] pos) (fun _ H Q => Q (.ref C) none H) := by
  intro pins s σ H Q I q1
  obtain ⟨nm, q, N, bs, bm, sn, sub, ab, col, dd, k0, k1, k2, k3, k5, hC, hbm⟩ := T.ox.cls
  refine wpAny_Call_Name_kw (ld_glob I hg T.gC ?_ hdb)
  refine PySem.W.callWith_K0 I.kIn T.ox.kC ?_
  show wpAny _ _ (call (.ref C) []) _ _ _
  have hlim := I.nolimit
  have hglob := I.mod.glob.keeps I.bk
  have hblt : ∃ mb, s.heap.Ns builtinsNs mb ∧ ∀ x : Str, x ≠ "__name__" → mb x = bootBuiltins x := by
    obtain ⟨mb, h1, h2⟩ := I.mod.blt
    exact ⟨mb, h1.keeps I.bk, h2⟩
  have hkin := I.kIn
  obtain ⟨hp, g, dr, tk, os⟩ := s
  have kk : ∀ b o, hp.get? b = some o → ((hp.push (PySem.W.kdv_tup [])).push (PySem.HandSPX.excO C hp.objs.size)).get? b = some o := fun b o e => Heap.get?_push_of_some _ (Heap.get?_push_of_some _ e)
  have hget : ((hp.push (PySem.W.kdv_tup [])).push (PySem.HandSPX.excO C hp.objs.size)).get? (hp.objs.size + 1) = some (PySem.HandSPX.excO C hp.objs.size) := by heap_get
  have hnx : X.K.lookup (hp.objs.size + 1) = none := by
    cases e : X.K.lookup (hp.objs.size + 1) with
    | none => rfl
    | some o =>
      have z : hp.get? (hp.objs.size + 1) = some o := hkin _ _ e
      exact absurd (Nat.lt_of_succ_lt (Heap.lt_size z)) (Nat.lt_irrefl _)
  refine wpAny_call (PySem.HandSPX.call_own F.excBase_ValueError (fun Y => PySem.HandSPX.refsVE_contains Y bm hbm) (hkin _ _ hC) (PySem.W.looks_findIn hkin T.iC) (fun self => PySem.W.bind_fn hkin self T.tI) (by rw [sizeLine_eq]; exact (by decide : 0 ≤ 16777216)) ?_)
  refine init0 T hpa (hkin.keeps kk) (hglob.keeps kk) ?_ (hlim.keeps kk) hget hnx ?_ fun h' tk' M => ?_
  · obtain ⟨mb, h1, h2⟩ := hblt
    exact ⟨mb, h1.keeps kk, h2⟩
  · show X.A.depth + 1 < recursionLimit
    have := hr.dp; omega
  · refine ⟨rfl, ?_⟩
    have ae : hp.objs.size ≤ hp.objs.size + 1 := Nat.le_succ _
    obtain ⟨t1, hoe⟩ := M.obj
    obtain ⟨G', g1, g2⟩ := restrict h' fun b => decide (b ≠ hp.objs.size + 1)
    have gk : ∀ b, b ≠ hp.objs.size + 1 → G'.get? b = h'.get? b := fun b hb => g1 b (decide_eq_true hb)
    have ge : G'.get? (hp.objs.size + 1) = none := g2 _ (by simp)
    have nne : ∀ {b : Addr} {o : Obj}, hp.get? b = some o → b ≠ hp.objs.size + 1 := fun {b o} z => Nat.ne_of_lt (Nat.lt_succ_of_lt (Heap.lt_size z))
    have old : ∀ b o, hp.get? b = some o → G'.get? b = some o := fun b o z => (gk b (nne z)).trans (M.keep b o (nne z) (kk b o z))
    have J : Inv X pins σ H ⟨G', g, dr, tk', os⟩ := I.kept (t' := tk') old
    refine ⟨hp.objs.size + 1, _, _, ⟨G', g, dr, tk', os⟩, _, .ref C, none, rfl, J, fun b o z => ?_, ge, hoe, ⟨rfl, rfl⟩, rfl, rfl, I.hok.fresh ae, rfl, I.bare, raises_own T.ox.exC T.ox.tyC, q1⟩
    by_cases hb : b = hp.objs.size + 1
    · have z' : G'.get? b = some o := z
      rw [hb, ge] at z'; cases z'
    · exact (gk b hb).symm.trans z
/-- C(e) -/
theorem pmk_c1 {f : Str} {q1 q2 q3 q4 : Pos} {a : Expr} {ta : TA} (T : XB X.prog X.K X.mg x C fI params [.Assign [.Attribute (.Name "self" q1) f q2] (.Name f q3) q4] scope) (hpa : params.args.map (·.arg) = [("self" : Str), f])
    (hsf : f ≠ "self") (hkf : scope.names.lookup f = some .local) (hdf : (f == ("__debug__" : Str)) = false) (hno : findIn X.K (.ref C) f = some none) (hr : Room (k + 1) X.A) (hg : Gl X x) (hdb : (x == ("__debug__" : Str)) = false) (ha : PA X [a] ta)
    (he : starEach (a :: []) X.env = (false, eval a X.env) :: starEach [] X.env := by rfl) (hpl : (backTo pos (starEach [] X.env)).any (·.1) = false := by rfl) :
    PMk X (.Call (.Name x p) [a] [] pos) (fun σ H Q => ta σ H fun vs H1 => ∃ v, vs = [v] ∧ ∀ d, H1 d = none → Q (.ref C) (some d) (upd H1 d (.xd [(f, v)]))) := by
  intro pins s σ H Q I h
  obtain ⟨nm, q, N, bs, bm, sn, sub, ab, col, dd, k0, k1, k2, k3, k5, hC, hbm⟩ := T.ox.cls
  refine wpAny_Call_Name_kw (ld_glob I hg T.gC ?_ hdb)
  refine PySem.W.callWith_K (h₀ := X.base) I.ok.mod.kin T.ox.kC (thn (ha.run pos pins s σ H _ I h) fun us s1 hh => ?_) he hpl
  obtain ⟨vs, H1, I1, r1, v, ev, qv⟩ := hh
  subst ev
  refine ⟨I1.kIn, ?_⟩
  cases r1 with
  | cons rv rn =>
    rename_i v' us'
    cases rn
    show wpAny _ _ (call (.ref C) [v']) _ _ _
    have hlim := I1.nolimit
    have hglob := I1.mod.glob.keeps I1.bk
    have hblt : ∃ mb, s1.heap.Ns builtinsNs mb ∧ ∀ x : Str, x ≠ "__name__" → mb x = bootBuiltins x := by
      obtain ⟨mb, h1, h2⟩ := I1.mod.blt
      exact ⟨mb, h1.keeps I1.bk, h2⟩
    have hkin := I1.kIn
    obtain ⟨hp, g, dr, tk, os⟩ := s1
    have kk : ∀ b o, hp.get? b = some o → ((hp.push (PySem.W.kdv_tup [v'])).push (PySem.HandSPX.excO C hp.objs.size)).get? b = some o := fun b o e => Heap.get?_push_of_some _ (Heap.get?_push_of_some _ e)
    have hget : ((hp.push (PySem.W.kdv_tup [v'])).push (PySem.HandSPX.excO C hp.objs.size)).get? (hp.objs.size + 1) = some (PySem.HandSPX.excO C hp.objs.size) := by heap_get
    have hnx : X.K.lookup (hp.objs.size + 1) = none := by
      cases e : X.K.lookup (hp.objs.size + 1) with
      | none => rfl
      | some o =>
        have z : hp.get? (hp.objs.size + 1) = some o := hkin _ _ e
        exact absurd (Nat.lt_of_succ_lt (Heap.lt_size z)) (Nat.lt_irrefl _)
    refine wpAny_call (PySem.HandSPX.call_own F.excBase_ValueError (fun Y => PySem.HandSPX.refsVE_contains Y bm hbm) (hkin _ _ hC) (PySem.W.looks_findIn hkin T.iC) (fun self => PySem.W.bind_fn hkin self T.tI) (by rw [sizeLine_eq]; exact (by decide : 1 ≤ 16777216)) ?_)
    refine init1 T hpa hsf hkf hdf hno (hkin.keeps kk) (hglob.keeps kk) ?_ (hlim.keeps kk) hget hnx ?_ fun h' tk' dx M => ?_
    · obtain ⟨mb, h1, h2⟩ := hblt
      exact ⟨mb, h1.keeps kk, h2⟩
    · show X.A.depth + 1 < recursionLimit
      have := hr.dp; omega
    · refine ⟨rfl, ?_⟩
      have ae : hp.objs.size ≤ hp.objs.size + 1 := Nat.le_succ _
      obtain ⟨t1, hoe⟩ := M.obj
      obtain ⟨dn, dne, hns⟩ := M.dct dx rfl
      have dbig : hp.objs.size ≤ dx := by
        have z := dn
        rw [Heap.size_push, Heap.size_push] at z
        omega
      obtain ⟨G', g1, g2⟩ := restrict h' fun b => decide (b ≠ hp.objs.size + 1)
      have gk : ∀ b, b ≠ hp.objs.size + 1 → G'.get? b = h'.get? b := fun b hb => g1 b (decide_eq_true hb)
      have ge : G'.get? (hp.objs.size + 1) = none := g2 _ (by simp)
      have nne : ∀ {b : Addr} {o : Obj}, hp.get? b = some o → b ≠ hp.objs.size + 1 := fun {b o} z => Nat.ne_of_lt (Nat.lt_succ_of_lt (Heap.lt_size z))
      have old : ∀ b o, hp.get? b = some o → G'.get? b = some o := fun b o z => (gk b (nne z)).trans (M.keep b o (nne z) (kk b o z))
      have ob : ObjOk X.prog X.w (upd H1 dx (.xd [(f, v)])) G' dx (.xd [(f, v)]) :=
        ⟨_, hns.at (fun o z => (gk dx dne).trans z), fun y => relO_one rv y⟩
      have J : Inv X pins σ (upd H1 dx (.xd [(f, v)])) ⟨G', g, dr, tk', os⟩ := I1.laid (t' := tk') old dbig ob
      refine ⟨hp.objs.size + 1, _, _, ⟨G', g, dr, tk', os⟩, _, .ref C, some dx, rfl, J, fun b o z => ?_, ge, hoe, ⟨rfl, rfl⟩, rfl, rfl, ?_, rfl, I1.bare, raises_own T.ox.exC T.ox.tyC, qv dx (I1.hok.fresh dbig)⟩
      · by_cases hb : b = hp.objs.size + 1
        · have z' : G'.get? b = some o := z
          rw [hb, ge] at z'; cases z'
        · exact (gk b hb).symm.trans z
      · rw [upd_ne (Ne.symm dne)]
        exact I1.hok.fresh ae
end
end DL

/-! Exceptions over data: raise C(), raise C(e); try .. except C as e; in the suite isinstance(e, ..), e.f. -/
namespace DL
open PySem PySem.Spec PyProof.Rows L2

/-- a class whose __init__ takes nothing -/
def XC0 (P : Program) (K : PySem.W.Frag) (mg : Str → Option Value) (x : Str) (C : Addr) : Prop := ∃ fI params scope, XB P K mg x C fI params [] scope ∧ params.args.length = 1
/-- a class whose __init__ takes and keeps one thing -/
def XC1 (P : Program) (K : PySem.W.Frag) (mg : Str → Option Value) (x : Str) (C : Addr) (f : Str) : Prop := ∃ fI params scope q1 q2 q3 q4, XB P K mg x C fI params [.Assign [.Attribute (.Name "self" q1) f q2] (.Name f q3) q4] scope ∧ params.args.map (·.arg) = [("self" : Str), f] ∧
  f ≠ "self" ∧ scope.names.lookup f = some .local ∧ (f == ("__debug__" : Str)) = false ∧ PySem.W.findIn K (.ref C) f = some none
def wRaise0 (C : Addr) : WS := fun E ep st => E.ex ⟨C, []⟩ ep st
def wRaise1 (C : Addr) (f : Str) (wa : WE) : WS := fun E ep st => wa ep st (fun d st' => E.ex ⟨C, [(f, d)]⟩ ep st') (fun x st' => E.ex x ep st')
section
variable {X : Cx} {W : WX} {x f : Str} {C : Addr} {p pos pos2 : Pos} {k : Nat} {a : Expr} {wa : WE}
theorem js_raise0 (tk : Takes X W) (T : XC0 X.prog X.K X.mg x C) (hr : Room (k + 1) X.A) (hg : Gl X x := by rfl) (hdb : (x == ("__debug__" : Str)) = false := by decide) (hc : X.calm = true := by rfl) :
    JS X W (.Raise (some (.Call (.Name x p) [] [] pos)) none pos2) (wRaise0 C) := by
  obtain ⟨fI, params, scope, T, hpa⟩ := T
  refine (ps_raise hc tk (pmk_c0 T hpa hr hg hdb)).weak ?_
  rintro Dn sg H ⟨ep, st, E, he, hs, hw, ok⟩
  exact ok.ex ⟨C, []⟩ _ _ sg H ep st .refl hs he ⟨rfl, .inl ⟨rfl, rfl⟩⟩ hw
theorem js_raise1 (tk : Takes X W) (T : XC1 X.prog X.K X.mg x C f) (hr : Room (k + 1) X.A) (ha : JE X W a wa) (hg : Gl X x := by rfl) (hdb : (x == ("__debug__" : Str)) = false := by decide) (hc : X.calm = true := by rfl)
    (hse : starEach (a :: []) X.env = (false, eval a X.env) :: starEach [] X.env := by rfl) (hpl : (backTo pos (starEach [] X.env)).any (·.1) = false := by rfl) :
    JS X W (.Raise (some (.Call (.Name x p) [a] [] pos)) none pos2) (wRaise1 C f wa) := by
  obtain ⟨fI, params, scope, q1, q2, q3, q4, T, hpa, h1, h2, h3, h4⟩ := T
  refine (ps_raise hc tk (pmk_c1 T hpa h1 h2 h3 h4 hr hg hdb (ja_cons ha ja_nil hse) hse hpl)).weak ?_
  rintro Dn sg H ⟨ep, st, E, he, hs, hw, ok⟩
  refine ⟨ep, st, fun ds st' => ∃ d, ds = [d] ∧ E.ex ⟨C, [(f, d)]⟩ ep st', fun x st' => E.ex x ep st', he, hs, ?_, fun vs H1 ds st1 hl k1 s1 r1 h => ?_, ok.okX he⟩
  · show wa ep st (fun d st1 => wANil ep st1 (fun ds st2 => ∃ d', d :: ds = [d'] ∧ E.ex ⟨C, [(f, d')]⟩ ep st2) _) _
    have : (fun d st1 => wANil ep st1 (fun ds st2 => ∃ d', d :: ds = [d'] ∧ E.ex ⟨C, [(f, d')]⟩ ep st2) fun x st' => E.ex x ep st') = fun d st' => E.ex ⟨C, [(f, d)]⟩ ep st' := by
      funext d st1
      exact propext ⟨fun ⟨d', e, h⟩ => by cases e; exact h, fun h => ⟨d, rfl, h⟩⟩
    rw [this]; exact hw
  · obtain ⟨d, rfl, h⟩ := h
    obtain ⟨v, r, rfl, rv, rn⟩ := Reps_cons.mp r1
    rw [Reps_nil.mp rn]
    refine ⟨v, rfl, fun dd hd => ?_⟩
    have k2 : Keep X.K H1 st1 (upd H1 dd (.xd [(f, v)])) st1 := Keep.untold hd _
    exact ok.ex ⟨C, [(f, d)]⟩ _ _ sg _ ep st1 (k1.trans k2) (s1.untold hd _) (he.keep (k1.trans k2)) ⟨rfl, .inr ⟨by simp, dd, _, rfl, upd_same, v, [], rfl, rv.keep k2, rfl⟩⟩ h
end

/-! ### try -/
theorem RepE.unset {K : PySem.W.Frag} {H : Hp} {ep : DE} {sg : L2.St} (h : RepE K H ep sg) (i : Nat) : RepE K H (ep.set i none) (sg.set i none) := by
  refine ⟨by rw [List.length_set, List.length_set]; exact h.1, fun j e hj => ?_⟩
  by_cases hij : i = j
  · subst hij
    by_cases hl : i < ep.length
    · rw [List.getElem?_set_self hl] at hj; cases hj
    · rw [List.getElem?_eq_none (by rw [List.length_set]; omega)] at hj; cases hj
  · rw [List.getElem?_set_ne hij] at hj
    obtain ⟨u, e1, r1⟩ := h.2 j e hj
    exact ⟨u, by rw [List.getElem?_set_ne hij]; exact e1, r1⟩
/-- what the ends of a suite are -/
def suiEd (i : Nat) (E : Ed) : Ed := { nx := fun ep st => E.nx (ep.set i none) st, rt := E.rt, bk := fun ep st => E.bk (ep.set i none) st, ct := fun ep st => E.ct (ep.set i none) st, ex := fun _ _ _ => False }
/-- what the clause wishes of an exception of the body; EM: does the clause take its class -/
def catchD (EM : Addr → Bool → Prop) (i : Nat) (ws : Addr → Addr → Option Addr → WS) (E : Ed) (x : Xn) (ep : DE) (st : DS) : Prop :=
  ∃ b, EM x.cls b ∧ (b = true → ∀ a, (x.fs = [] → ws a x.cls none (suiEd i E) (ep.set i (some (.ref a))) st) ∧ ∀ d, x.fs ≠ [] → ws a x.cls (some d) (suiEd i E) (ep.set i (some (.ref a))) (put st d (.xd x.fs))) ∧ (b = false → E.ex x ep st)
def wTry (EM : Addr → Bool → Prop) (i : Nat) (wb : WS) (ws : Addr → Addr → Option Addr → WS) : WS := fun E ep st => wb { E with ex := catchD EM i ws E } ep st
theorem keep_xd {K : PySem.W.Frag} {H : Hp} {st : DS} {d : Addr} {fv : List (Str × V)} {o : OB} (h : H d = some (.xd fv)) : Keep K H st H (put st d o) :=
  ⟨fun _ _ h => h, fun _ _ h => h, fun _ _ h => h, fun a u e n k => ⟨e, by rw [put_ne (fun z => by rw [z, h] at e; exact n fv (Option.some.inj e).symm)]; exact k⟩, fun _ _ h => h⟩
section
variable {X : Cx} {W : WX} {x n : Str} {c : Value} {i : Nat} {body suite : List Stmt} {b₀ : Stmt} {np pos pos' : Pos} {wb : WS} {ws : Addr → Addr → Option Addr → WS}
theorem names_g {X : Cx} {x : Str} {C : Addr} (hm : X.mg x = some (.ref C)) (hg : Gl X x := by rfl) (hd : (x == ("__debug__" : Str)) = false := by decide) : Names X x (.ref C) := ⟨hg, hd, .inl hm⟩
/-- what is asked of the class of an exception that may come: does the clause take it, and if so P -/
def EmR (K : PySem.W.Frag) (c : Value) (P : Addr → Prop) (D : Addr) (b : Bool) : Prop := PySem.W.exmOne K (.ref D) c = some b ∧ (b = true → P D)
theorem js_try_as {P : Addr → Prop} (hN : X.N.Nodup) (hc : Names X x c) (tk : Takes X W)
    (hb : ∀ (W : WX) (pn : List (Addr × Obj)) (xe : Value → Shared → Prop), Takes (X.tr pn xe) W → PassesOwn (model X.prog X.w) X.A X.env xe → JSs (X.tr pn xe) W body wb)
    (hsu : ∀ (a : Addr) (oe : Obj) (D : Addr) (d : Option Addr) (pn : List (Addr × Obj)), Zc (.ref D) d oe → (∃ vs, oe.data = .fields vs) → P D → JSs (X.suite a ((a, oe) :: pn)) noW (b₀ :: suite) (ws a D d))
    (hs : X.stack = X.env :: X.outer := by rfl) (hf : X.env.frame = some X.env.locals := by rfl) (hi : X.N[i]? = some n := by rfl) (hln : X.env.kindOf n = some .local := by rfl) :
    JS X W (.Try body [.ExceptHandler (some (.Name x np)) (some n) (b₀ :: suite) pos'] [] [] pos) (wTry (EmR X.K c P) i wb ws) := by
  refine (ps_try_as (tb := fun W' => twS X.K W' wb) (ts := fun a cls d Dn sg H => ∃ D, cls = .ref D ∧ P D ∧ twS X.K noW (ws a D d) Dn sg H) hs hf hN hi hln hc tk (fun W' pn xe t' p' => hb W' pn xe t' p') (fun a oe cls d pn hz hfl => ?_)).weak ?_
  · refine ⟨fun pins s σ H D I h => ?_⟩
    obtain ⟨C, rfl, hP, h⟩ := h
    exact (hsu a oe C d pn hz hfl hP).run pins s σ H D I h
  · rintro Dn sg H ⟨ep, st, E, he, hs, hw, ok⟩
    refine ⟨ep, st, _, he, hs, hw, ⟨ok.nx, ok.rt, ok.bk, ok.ct, fun x cls dd sg' H' ep' st' k s e r h => ?_⟩⟩
    obtain ⟨b, ⟨hb, hP⟩, h1, h2⟩ := h
    obtain ⟨rfl, hr⟩ := id r
    refine ⟨b, hb, fun hbt a ha => ⟨x.cls, rfl, hP hbt, ?_⟩, fun hbf => ok.ex x _ dd sg' H' ep' st' k s e r (h2 hbf)⟩
    obtain ⟨h3, h4⟩ := h1 hbt a
    have fin : ∀ st2, Keep X.K H' st' H' st2 → OkS X.K noW H' st2 (suiEd i E) { nx := fun σ' H' => Dn.nx (σ'.set i none) H', rt := Dn.rt, bk := fun σ' H' => Dn.bk (σ'.set i none) H', ct := fun σ' H' => Dn.ct (σ'.set i none) H' } := fun st2 k2 =>
      ⟨fun sg3 H3 ep3 st3 k3 s3 e3 h => ok.nx _ H3 _ st3 ((k.trans k2).trans k3) s3 (e3.unset i) h,
       fun v H3 d st3 k3 s3 r3 h => ok.rt v H3 d st3 ((k.trans k2).trans k3) s3 r3 h,
       fun sg3 H3 ep3 st3 k3 s3 e3 h => ok.bk _ H3 _ st3 ((k.trans k2).trans k3) s3 (e3.unset i) h,
       fun sg3 H3 ep3 st3 k3 s3 e3 h => ok.ct _ H3 _ st3 ((k.trans k2).trans k3) s3 (e3.unset i) h,
       fun _ _ _ _ _ _ _ _ _ _ _ z => z.elim⟩
    rcases hr with ⟨hfs, rfl⟩ | ⟨hfs, d, fv, rfl, hd, hrep⟩
    · exact ⟨_, st', _, e.set (Rep_ref.mpr rfl) i, s, h3 hfs, fin st' .refl⟩
    · have kx : Keep X.K H' st' H' (put st' d (.xd x.fs)) := keep_xd hd
      refine ⟨_, put st' d (.xd x.fs), _, e.set (Rep_ref.mpr rfl) i, fun q o eo => ?_, h4 d hfs, fin _ kx⟩
      by_cases hq : q = d
      · subst hq
        rw [put_same] at eo; cases eo
        exact ⟨fv, hd, hrep⟩
      · rw [put_ne hq] at eo
        exact s q o eo
end

/-! ### in the suite -/
def dOk (d : Option Addr) (st : DS) : Prop := ∀ dd, d = some dd → ∃ fs, st dd = some (.xd fs)
def wIsE (a : Addr) (d : Option Addr) (IS : Option Bool) (we : WE) : WE := fun ep st R Rx => we ep st (fun v st' => v = .ref a ∧ dOk d st' ∧ ∃ b, IS = some b ∧ R (.bl b) st') Rx
def wFld (a : Addr) (d : Option Addr) (f : Str) (we : WE) : WE := fun ep st R Rx => we ep st (fun v st' => v = .ref a ∧ ∃ dd fs y, d = some dd ∧ st' dd = some (.xd fs) ∧ fs.lookup f = some y ∧ R y st') Rx
structure EC (K : PySem.W.Frag) (D : Addr) : Prop where
  cl : (PySem.W.clsIn K D).isSome = true
  ga : PySem.W.findIn K (.ref D) "__getattribute__" = some (some (.builtin "BaseException.__getattribute__"))
  gt : PySem.W.findIn K (.ref D) "__getattr__" = some none
  sub : PySem.W.subIn K (.ref D) (.type "BaseException") = some true
  ca : PySem.W.findIn K (.ref D) "__class__" = some (some (.builtin "object.__class__"))
  sp : PySem.W.specialIn K (.builtin "object.__class__") "__get__" = some (some (.builtin "getset_descriptor.__get__"))
  tk : PySem.W.takesIn K (.builtin "object.__class__") = some true
  mo : PySem.W.mroIn K D (.type "object") = some true
  hd : PySem.W.hasDictIn K D = true
section
variable {X : Cx} {W : WX} {a D : Addr} {oe : Obj} {d : Option Addr} {pn : List (Addr × Obj)} {e : Expr} {we : WE} {p pos : Pos}
theorem inst_at (hz : Zc (.ref D) d oe) (hf : ∃ vs, oe.data = .fields vs) {pins : List (Addr × Obj)} {σ : L2.St} {H : Hp} {s : Shared} {st : DS} (I : Inv (X.suite a ((a, oe) :: pn)) pins σ H s) (hs : RepS X.K H st) (hd : dOk d st) : ∃ od, PySem.W.InstAt s.heap a oe D od := by
  obtain ⟨hget, _⟩ := I.pin (a, oe) (List.mem_append_left _ List.mem_cons_self)
  obtain ⟨vs, hv⟩ := hf
  obtain ⟨oc, odi, oda, osl⟩ := oe
  obtain ⟨h1, h2⟩ := hz
  dsimp only at h1 h2 hv
  subst h1 h2 hv
  cases odi with
  | none => exact ⟨none, hget, rfl, rfl, trivial⟩
  | some dd =>
    obtain ⟨fs, e⟩ := hd dd rfl
    obtain ⟨fv, e1, _⟩ := hs dd _ e
    obtain ⟨mA, ⟨o, _, _, ho, _⟩, _⟩ := (show ObjOk X.prog X.w H s.heap dd (.xd fv) from I.hok dd _ e1)
    exact ⟨some o, hget, rfl, rfl, ho⟩
theorem callR_isE (C : EC X.K D) (hz : Zc (.ref D) d oe) (hf : ∃ vs, oe.data = .fields vs) : CallR (X.suite a ((a, oe) :: pn)) (.builtin "isinstance") (fun xs H Q => ∃ (c : V) (cv : Value) (b : Bool) (st : DS), xs = [.ref a, c] ∧ (∀ u, RelV c u → u = cv) ∧ RepS X.K H st ∧ dOk d st ∧ PySem.W.kitOne X.K (.ref D) cv = some b ∧ Q (.bl b) H) := by
  intro pins s σ H xs us Q I r h
  obtain ⟨c, cv, b, st, rfl, hcv, hs, hd, e, q⟩ := h
  obtain ⟨u1, u2, rfl, r1, r2⟩ := vals2 r
  cases r1
  have ec := hcv _ r2
  subst ec
  obtain ⟨od, J⟩ := inst_at hz hf I hs hd
  exact PySem.W.kia_one (PySem.W.kitx_exc C.cl C.ga C.gt C.sub C.ca C.sp C.tk C.mo) I.kIn J e (fun z => nomatch z) fun tk => ⟨.bl b, H, I.kept (t' := tk) fun _ _ z => z, rfl, q⟩
theorem callR_isEs (C : EC X.K D) (hz : Zc (.ref D) d oe) (hf : ∃ vs, oe.data = .fields vs) : CallR (X.suite a ((a, oe) :: pn)) (.builtin "isinstance") (fun xs H Q => ∃ (tp : Addr) (cs : List V) (cvs : List Value) (b : Bool) (st : DS), xs = [.ref a, .ref tp] ∧ H tp = some (.tup cs) ∧ (∀ ws, Vals cs ws → ws = cvs) ∧ RepS X.K H st ∧ dOk d st ∧ PySem.W.kitAny X.K (.ref D) cvs = some b ∧ Q (.bl b) H) := by
  intro pins s σ H xs us Q I r h
  obtain ⟨tp, cs, cvs, b, st, rfl, hT, hcv, hs, hd, e, q⟩ := h
  obtain ⟨u1, u2, rfl, r1, r2⟩ := vals2 r
  cases r1
  cases (show u2 = Value.ref tp from r2)
  obtain ⟨od, J⟩ := inst_at hz hf I hs hd
  obtain ⟨_, its, rv, o, h1, h2, n, h3⟩ := (show ObjOk X.prog X.w H s.heap tp (.tup cs) from I.hok tp _ hT)
  have e3 := hcv _ rv
  subst e3
  obtain ⟨oc, od', dt, sl⟩ := o
  simp only at h2 h3
  subst h2 h3
  exact PySem.W.kia_tup (PySem.W.kitx_exc C.cl C.ga C.gt C.sub C.ca C.sp C.tk C.mo) I.kIn J h1 e (fun z => nomatch z) fun tk => ⟨.bl b, H, I.kept (t' := tk) fun _ _ z => z, rfl, q⟩
/-- a class as an expression -/
def ClsE (X : Cx) (c : Expr) (cv : Value) : Prop := ∃ v, PE X c (tC v) ∧ ∀ u, RelV v u → u = cv
theorem cls_g {x : Str} {C : Addr} {pos : Pos} (hm : X.mg x = some (.ref C)) (hg : Gl X x := by rfl) (hd : (x == ("__debug__" : Str)) = false := by decide) : ClsE X (.Name x pos) (.ref C) := ⟨.ref C, pe_glob hg hm rfl hd, fun _ h => h⟩
theorem cls_b {x : Str} {T : String} {pos : Pos} (hm : X.mg x = none) (hv : bootBuiltins x = some (.type T)) (hg : Gl X x := by rfl) (hn : x ≠ "__name__" := by decide) (hd : (x == ("__debug__" : Str)) = false := by decide) : ClsE X (.Name x pos) (.type T) := ⟨.ty T, pe_bltn hg hm hv rfl hn hd, fun _ h => h⟩
/-- classes in a row -/
def ClsA (X : Cx) (cs : List Expr) (cvs : List Value) : Prop := ∃ vs : List V, PA X cs (fun _ H Q => Q vs H) ∧ (∀ ws, Vals vs ws → ws = cvs) ∧ vs.length = cvs.length
theorem cls_nil : ClsA X [] [] := ⟨[], pa_nil, fun ws h => by cases h; rfl, rfl⟩
theorem cls_cons {c : Expr} {cs : List Expr} {cv : Value} {cvs : List Value} (h : ClsE X c cv) (t : ClsA X cs cvs) (hs : starEach (c :: cs) X.env = (false, eval c X.env) :: starEach cs X.env := by rfl) : ClsA X (c :: cs) (cv :: cvs) := by
  obtain ⟨v, h1, h2⟩ := h
  obtain ⟨vs, t1, t2, t3⟩ := t
  refine ⟨v :: vs, ⟨(pa_cons h1 t1 hs).run⟩, fun ws hw => ?_, by simp [t3]⟩
  cases hw with
  | cons r rs => rw [h2 _ r, t2 _ rs]
theorem j_isE {c : Expr} {cv : Value} (C : EC X.K D) (hz : Zc (.ref D) d oe) (hf : ∃ vs, oe.data = .fields vs) (hm : X.mg "isinstance" = none) (h : JE (X.suite a ((a, oe) :: pn)) W e we) (hcl : ClsE (X.suite a ((a, oe) :: pn)) c cv) (hg : Gl X "isinstance" := by rfl)
    (hs : starEach [e, c] X.env = (false, eval e X.env) :: starEach [c] X.env := by rfl) (hs2 : starEach [c] X.env = (false, eval c X.env) :: starEach [] X.env := by rfl) (hpl : (backTo pos (starEach [c] X.env)).any (·.1) = false := by rfl) :
    JE (X.suite a ((a, oe) :: pn)) W (.Call (.Name "isinstance" p) [e, c] [] pos) (wIsE a d (PySem.W.kitOne X.K (.ref D) cv) we) := by
  obtain ⟨cV, hc1, hc2⟩ := hcl
  refine (pe_callB (X := X.suite a ((a, oe) :: pn)) (callR_isE C hz hf) hg hm (by decide +kernel) (pa_cons h (pa_cons hc1 pa_nil hs2) hs) (by decide) (by decide) hs hpl).weak ?_
  rintro sg H Q ⟨ep, st, R, Rx, he, hs, hw, hq, hx⟩
  refine ⟨ep, st, _, _, he, hs, hw, fun v H' d' st' k s r h => ?_, hx⟩
  obtain ⟨rfl, hd, b, hb, h2⟩ := h
  exact ⟨cV, cv, b, st', by rw [Rep_ref.mp r], hc2, s, hd, hb, hq _ H' _ st' k s (Rep_bl.mpr rfl) h2⟩
theorem j_isEs {cs : List Expr} {cvs : List Value} {p2 : Pos} {j : Nat} (C : EC X.K D) (hz : Zc (.ref D) d oe) (hf : ∃ vs, oe.data = .fields vs) (hm : X.mg "isinstance" = none) (h : JE (X.suite a ((a, oe) :: pn)) W e we) (hcl : ClsA (X.suite a ((a, oe) :: pn)) cs cvs) (hlen : cvs.length ≤ sizeLine := by decide) (hg : Gl X "isinstance" := by rfl)
    (hs : starEach [e, .Tuple cs j p2] X.env = (false, eval e X.env) :: starEach [.Tuple cs j p2] X.env := by rfl) (hs2 : starEach [.Tuple cs j p2] X.env = (false, eval (.Tuple cs j p2) X.env) :: starEach [] X.env := by rfl) (hpl : (backTo pos (starEach [.Tuple cs j p2] X.env)).any (·.1) = false := by rfl) :
    JE (X.suite a ((a, oe) :: pn)) W (.Call (.Name "isinstance" p) [e, .Tuple cs j p2] [] pos) (wIsE a d (PySem.W.kitAny X.K (.ref D) cvs) we) := by
  obtain ⟨cV, hc1, hc2, hc3⟩ := hcl
  refine (pe_callB (X := X.suite a ((a, oe) :: pn)) (callR_isEs C hz hf) hg hm (by decide +kernel) (pa_cons h (pa_cons (pe_tup hc1) pa_nil hs2) hs) (by decide) (by decide) hs hpl).weak ?_
  rintro sg H Q ⟨ep, st, R, Rx, he, hs, hw, hq, hx⟩
  refine ⟨ep, st, _, _, he, hs, hw, fun v H' d' st' k s r h => ?_, hx⟩
  obtain ⟨rfl, hd, b, hb, h2⟩ := h
  refine ⟨by rw [hc3]; exact hlen, fun q hq0 => ?_⟩
  have kx : Keep X.K H' st' (upd H' q (.tup cV)) st' := Keep.untold hq0 _
  exact ⟨q, cV, cvs, b, st', by rw [Rep_ref.mp r], upd_same, hc2, s.untold hq0 _, hd, hb, hq _ _ _ st' (k.trans kx) (s.untold hq0 _) (Rep_bl.mpr rfl) h2⟩
theorem j_fld {f : Str} (C : EC X.K D) (hno : PySem.W.findIn X.K (.ref D) f = some none) (hz : Zc (.ref D) d oe) (hf : ∃ vs, oe.data = .fields vs) (h : JE (X.suite a ((a, oe) :: pn)) W e we)
    (hb : attributeBase e f X.env (eval e X.env) = eval e X.env := by rfl) : JE (X.suite a ((a, oe) :: pn)) W (.Attribute e f pos) (wFld a d f we) := by
  refine (pe_xf ⟨C.ga, C.gt, C.sub, C.hd⟩ hno hz hf h hb).weak ?_
  rintro sg H Q ⟨ep, st, R, Rx, he, hs, hw, hq, hx⟩
  refine ⟨ep, st, _, _, he, hs, hw, fun v H' d' st' k s r h => ?_, hx⟩
  obtain ⟨rfl, dd, fs, y, rfl, e1, e2, h2⟩ := h
  obtain ⟨fv, e3, rf⟩ := s dd _ e1
  have key : ∀ {fs : List (Str × DL.D)} {fv : List (Str × V)}, RepF X.K H' fs fv → fs.lookup f = some y → ∃ v, fv.lookup f = some v ∧ Rep X.K H' y v := by
    intro fs
    induction fs with
    | nil => intro fv _ e; cases e
    | cons p r ih =>
      intro fv hr e
      obtain ⟨g, z⟩ := p
      obtain ⟨v, t, rfl, r1, r2⟩ := hr
      by_cases hg : f = g
      · subst hg
        have : z = y := by simpa [List.lookup] using e
        subst this
        exact ⟨v, by simp [List.lookup], r1⟩
      · have hb : (f == g) = false := by simpa using hg
        have e' : r.lookup f = some y := by simpa [List.lookup, hb] using e
        obtain ⟨v', a1, a2⟩ := ih r2 e'
        exact ⟨v', by simpa [List.lookup, hb] using a1, a2⟩
  obtain ⟨v', l1, l2⟩ := key rf e2
  exact ⟨Rep_ref.mp r, rfl, dd, fv, v', rfl, e3, l1, hq v' H' y st' k s l2 h2⟩
end

/-! ### what the written part says, put together -/
def initOf : Stmt → Stmt
  | .ClassDef _ _ _ (i :: _) _ _ _ _ _ _ _ => i
  | s => s
/-- a class as what is tested for -/
structure CB (K : PySem.W.Frag) (C : Addr) : Prop where
  hd : PySem.W.hasDictIn K C = true
  ty : PySem.W.typeIn K (.ref C) = some (.type "type")
  slf : PySem.W.subIn K (.ref C) (.ref C) = some true
  bx : PySem.W.subIn K (.ref C) (.type "BaseException") = some true
theorem exm_of {K : PySem.W.Frag} {C D : Addr} {b : Bool} (T : CB K C) (h : PySem.W.subIn K (.ref D) (.ref C) = some b) : PySem.W.exmOne K (.ref D) (.ref C) = some b := by
  obtain ⟨cd, hc, _⟩ := PySem.W.any_some T.hd
  have e1 : (PySem.W.subIn K (.ref C) (.type "BaseException") == some true) = true := by rw [T.bx] <;> rfl
  have e2 : ((PySem.W.clsIn K C).isSome && PySem.W.typeIn K (.ref C) == some (.type "type")) = true := by rw [hc, T.ty] <;> rfl
  show (if _ then (if _ then _ else _) else _) = some b
  rw [if_pos e1, if_pos e2]
  exact h
theorem kit_ref {K : PySem.W.Frag} {C D : Addr} {b : Bool} (T : CB K C) (h : PySem.W.subIn K (.ref D) (.ref C) = some b) : PySem.W.kitOne K (.ref D) (.ref C) = some b := by
  obtain ⟨cd, hc, _⟩ := PySem.W.any_some T.hd
  have e2 : ((PySem.W.clsIn K C).isSome && PySem.W.typeIn K (.ref C) == some (.type "type")) = true := by rw [hc, T.ty] <;> rfl
  unfold PySem.W.kitOne
  by_cases hDC : D = C
  · subst hDC
    rw [T.slf] at h
    rw [if_pos (by simp)]
    exact h
  · rw [if_neg (by simp [hDC])]
    show (if _ then _ else _) = _
    rw [if_pos e2]; exact h
theorem kit_ty' {K : PySem.W.Frag} {D : Addr} {T : String} {b : Bool} (h : PySem.W.subIn K (.ref D) (.type T) = some b) (hm : PySem.W.kitMeta T = true := by decide +kernel) : PySem.W.kitOne K (.ref D) (.type T) = some b := by
  unfold PySem.W.kitOne
  rw [if_neg (by simp)]
  show (if _ then _ else _) = _
  rw [if_pos hm]; exact h
theorem any_nil {K : PySem.W.Frag} {t : Value} : PySem.W.kitAny K t [] = some false := rfl
theorem any_no {K : PySem.W.Frag} {t c : Value} {r : List Value} {b : Bool} (h : PySem.W.kitOne K t c = some false) (g : PySem.W.kitAny K t r = some b) : PySem.W.kitAny K t (c :: r) = some b := by
  unfold PySem.W.kitAny; rw [h]; exact g
theorem any_yes {K : PySem.W.Frag} {t c : Value} {r : List Value} (h : PySem.W.kitOne K t c = some true) : PySem.W.kitAny K t (c :: r) = some true := by
  unfold PySem.W.kitAny; rw [h]
theorem ec_mk {K : PySem.W.Frag} {D : Addr} (hd : PySem.W.hasDictIn K D = true) (ga : PySem.W.findIn K (.ref D) "__getattribute__" = some (some (.builtin "BaseException.__getattribute__"))) (gt : PySem.W.findIn K (.ref D) "__getattr__" = some none) (sub : PySem.W.subIn K (.ref D) (.type "BaseException") = some true)
    (ca : PySem.W.findIn K (.ref D) "__class__" = some (some (.builtin "object.__class__"))) (sp : PySem.W.specialIn K (.builtin "object.__class__") "__get__" = some (some (.builtin "getset_descriptor.__get__"))) (tk : PySem.W.takesIn K (.builtin "object.__class__") = some true) (mo : PySem.W.mroIn K D (.type "object") = some true) : EC K D :=
  ⟨by obtain ⟨cd, hc, _⟩ := PySem.W.any_some hd; rw [hc]; rfl, ga, gt, sub, ca, sp, tk, mo, hd⟩
abbrev veTail : List Value := [.type "ValueError", .type "Exception", .type "BaseException", .type "object"]
theorem xb_mk {P : Program} {K : PySem.W.Frag} {mg : Str → Option Value} {x : Str} {C S fI cda cc N NS : Addr} {nm q nmS qS qual T : Str} {bs bsS sub subS : List Value} {sn snS : List Str} {ab abS hdS : Bool} {col colS : Option Bool} {dd ddS : Option Addr} {k0 k1 k2 k3 k5 j0 j1 j2 j3 j5 : Option Value} {nwS : String}
    {oc kV dc pm ct ccl cl : Value} {od an cdd cld : Option Addr} {osl ccs csl : Array (Option Value)} {vs : Array Value} {file : Str} {tf : Tok} {j : Nat} {p0 p1 p2 p3 p4 p5 : Pos} {params : Arguments} {body rest : List Stmt} {scope : Scope} {ar : Arg} {l : List Arg}
    (gC : mg x = some (.ref C)) (nsup : mg "super" = none)
    (hC : K.lookup C = some (excClassObj nm q C N bs (.ref S :: veTail) true sn sub ab col dd k0 k1 k2 k3 k5 "ValueError.__new__"))
    (hS : K.lookup S = some (excClassObj nmS qS S NS bsS veTail hdS snS subS abS colS ddS j0 j1 j2 j3 j5 nwS))
    (hSi : PySem.W.findIn K (.ref S) "__init__" = some (some (.builtin "ValueError.__init__")))
    (sa : PySem.W.findIn K (.ref C) "__setattr__" = some (some (.builtin "object.__setattr__"))) (exC : PySem.W.subIn K (.ref C) (.type "BaseException") = some true) (tyC : PySem.W.typeIn K (.ref C) = some (.type "type")) (kC : PySem.W.keepIn K (.ref C) = true)
    (iC : PySem.W.findIn K (.ref C) "__init__" = some (some (.ref fI))) (tI : PySem.W.typeIn K (.ref fI) = some (.type "function")) (hB : PySem.W.subIn K (.ref C) (.type "ValueError") = some true) (opq : PySem.W.nsIn K cStatics "thirdparty.any" = some none) (slf : PySem.W.mroIn K C (.ref C) = some true)
    (hl : K.lookup fI = some ⟨oc, od, .func (PySem.W.ksFn "__init__" qual params body scope .none kV dc pm an (.ref cda) ct cc), osl⟩) (hcd : PySem.W.codeIn K (.ref cda) qual = true)
    (hco : K.lookup cda = some ⟨ccl, cdd, .fields vs, ccs⟩) (hce : K.lookup cc = some ⟨cl, cld, .cell (some (.ref C)), csl⟩)
    (hvs : vs[2]? = some (.str file tf)) (hfile : ((P.main.file : Str) == file) = true) (top : (P.main.scope.names.lookup ("super" : Str)).isSome = false)
    (hb : body = supS T j p0 p1 p2 p3 p4 p5 :: rest) (hline : (p2.endLine == p4.line) = true)
    (hbind : ∀ us : List Value, us.length = params.args.length → bindArgs (PySem.W.ksFn "__init__" qual params body scope .none kV dc pm an (.ref cda) ct cc) ⟨us, []⟩ = pure ((params.args.map (·.arg)).zip us))
    (pos : params.posonlyargs = []) (par : params.args = ar :: l) (har : ar.arg = "self")
    (hks : scope.names.lookup ("super" : Str) = some .globalImplicit) (hkc : scope.names.lookup ("__class__" : Str) = some .free) (hka : scope.names.lookup ("self" : Str) = some .local) (hk : scope.kind = .function) (cell : ∀ x ∈ scope.names, x.2 ≠ .cell) (co : scope.isCoroutine = false) (gen : scope.isGenerator = false) :
    XB P K mg x C fI params rest scope := by
  subst hb
  refine ⟨gC, ⟨⟨_, _, _, _, _, _, _, _, _, _, _, _, _, _, _, hC, rfl⟩, sa, exC, tyC, kC⟩, iC, tI, hB, ?_, opq, nsup, slf, top, ⟨oc, .none, kV, dc, pm, ct, od, an, osl, cda, cc, qual, T, j, p0, p1, p2, p3, p4, p5, hl, hcd, hline, ⟨ccl, cdd, ccs, vs, file, tf, hco, hvs, hfile⟩, ⟨cl, cld, csl, hce⟩, hbind⟩, pos, ⟨ar, l, by rw [pos, par]; rfl, har⟩, hks, hkc, hka, hk, cell, co, gen⟩
  unfold PySem.W.ks_superIn
  have e : PySem.W.clsIn K C = some _ := clsIn_of hC
  rw [e, Option.bind_some]
  have hSi' : (match K.lookup S with | some ⟨_, _, .cls cd, _⟩ => PySem.W.alongIn K "__init__" cd.mro | _ => none) = some (some (.builtin "ValueError.__init__")) := hSi
  rw [hS] at hSi'
  have d : ((Value.ref C :: Value.ref S :: veTail).dropWhile (· != .ref C)).drop 1 = Value.ref S :: veTail := by simp [List.dropWhile_cons]
  show PySem.W.alongIn K "__init__" (((Value.ref C :: Value.ref S :: veTail).dropWhile (· != .ref C)).drop 1) = _
  rw [d]
  exact hSi'
end DL
namespace DL
open PySem PySem.Spec PyProof.Rows L2
theorem s_eqLL {p q : Addr} {xs ys : List D} {st : DS} {R : RD} (hp : st p = some (.lst xs)) (hq : st q = some (.lst ys)) (ha : pureOks xs = true) (hb : pureOks ys = true) (da : deps xs ≤ 60) (db : deps ys ≤ 60) (h : R (.bl (peqs xs ys)) st) : eqD (.ref p) (.ref q) st R := by
  have sh : ∀ l : List D, pureOks l = true → deps l ≤ 60 → SeqAt.shaped (.list (pdsOf l)) = true := fun l h1 h2 => by
    have := shaped_pd (d := .tup l) (by rw [pureOk]; exact h1) (by rw [dep]; omega)
    rw [pdOf] at this
    exact this
  show ∃ px py, _
  refine ⟨.list (pdsOf xs), .list (pdsOf ys), .lst hp (pyOf_pds xs ha), .lst hq (pyOf_pds ys hb), sh xs ha da, sh ys hb db, ?_⟩
  have e := eqv_pd (.tup xs) (.tup ys) (by rw [pureOk]; exact ha) (by rw [pureOk]; exact hb)
  rw [pdOf, pdOf, peq] at e
  have e' : PyData.eqv (.list (pdsOf xs)) (.list (pdsOf ys)) = peqs xs ys := by rw [← e]; simp only [PyData.eqv]
  rw [e']; exact h
section
variable {ep : DE} {st : DS} {R : RD} {Rx : RX} {i : Nat} {C a : Addr} {f : Str} {wa : WE} {d : Option Addr} {IS : Option Bool} {EM : Addr → Bool → Prop} {wb : WS} {ws : Addr → Addr → Option Addr → WS}
theorem s_try {nx rt bk ct ex} (h : wb { nx := nx, rt := rt, bk := bk, ct := ct, ex := catchD EM i ws { nx := nx, rt := rt, bk := bk, ct := ct, ex := ex } } ep st) : wTry EM i wb ws { nx := nx, rt := rt, bk := bk, ct := ct, ex := ex } ep st := h
theorem s_raise0 {nx rt bk ct ex} (h : ex ⟨C, []⟩ ep st) : wRaise0 C { nx := nx, rt := rt, bk := bk, ct := ct, ex := ex } ep st := h
theorem s_raise1 {nx rt bk ct ex} (h : wa ep st (fun d st' => ex ⟨C, [(f, d)]⟩ ep st') (fun x st' => ex x ep st')) : wRaise1 C f wa { nx := nx, rt := rt, bk := bk, ct := ct, ex := ex } ep st := h
theorem s_isE (h : wa ep st (fun v st' => v = .ref a ∧ dOk d st' ∧ ∃ b, IS = some b ∧ R (.bl b) st') Rx) : wIsE a d IS wa ep st R Rx := h
theorem s_fld (h : wa ep st (fun v st' => v = .ref a ∧ ∃ dd fs y, d = some dd ∧ st' dd = some (.xd fs) ∧ fs.lookup f = some y ∧ R y st') Rx) : wFld a d f wa ep st R Rx := h
theorem s_catch0 {nx rt bk ct ex} (he : EM C true) (h : ∀ a, ws a C none { nx := fun ep st => nx (ep.set i none) st, rt := rt, bk := fun ep st => bk (ep.set i none) st, ct := fun ep st => ct (ep.set i none) st, ex := fun _ _ _ => False } (ep.set i (some (.ref a))) st) : catchD EM i ws { nx := nx, rt := rt, bk := bk, ct := ct, ex := ex } ⟨C, []⟩ ep st :=
  ⟨true, he, fun _ a => ⟨fun _ => h a, fun d z => absurd rfl z⟩, fun z => by cases z⟩
theorem s_catch1 {nx rt bk ct ex} {v : D} (he : EM C true) (h : ∀ a dd, ws a C (some dd) { nx := fun ep st => nx (ep.set i none) st, rt := rt, bk := fun ep st => bk (ep.set i none) st, ct := fun ep st => ct (ep.set i none) st, ex := fun _ _ _ => False } (ep.set i (some (.ref a))) (put st dd (.xd [(f, v)]))) : catchD EM i ws { nx := nx, rt := rt, bk := bk, ct := ct, ex := ex } ⟨C, [(f, v)]⟩ ep st :=
  ⟨true, he, fun _ a => ⟨fun z => (by cases z), fun d _ => h a d⟩, fun z => by cases z⟩
theorem s_is0 {b : Bool} {Q : Bool → Prop} (e : IS = some b) (h : Q b) : (D.ref a = .ref a ∧ dOk none st ∧ ∃ b, IS = some b ∧ Q b) := ⟨rfl, (fun _ z => by cases z), b, e, h⟩
theorem s_is1 {b : Bool} {dd : Addr} {fs : List (Str × D)} (hd : st dd = some (.xd fs)) {Q : Bool → Prop} (e : IS = some b) (h : Q b) : (D.ref a = .ref a ∧ dOk (some dd) st ∧ ∃ b, IS = some b ∧ Q b) := ⟨rfl, (fun _ z => by cases z; exact ⟨fs, hd⟩), b, e, h⟩
end
theorem fn_weak {P : Program} {w : World} {K : PySem.W.Frag} {mg : Str → Option Value} {base : Heap} {k : Nat} {f : Addr} {fd : FuncData} {ps : List Str} {S S' : SpD} (F : FnD P w K mg base k f fd ps S) (h : ∀ ds st R Rx, S' ds st R Rx → S ds st R Rx) : FnD P w K mg base k f fd ps S' :=
  FnOk.imp F fun vs H Q E ⟨ds, st, R, Rx, r, s, q, o, x⟩ => ⟨ds, st, R, Rx, r, s, h _ _ _ _ q, o, x⟩
end DL

namespace DL
namespace C
open PySem L2
/-- _law_gcd(a, b): slots 0=a 1=b -/
def wb_law_gcd : WS :=
    (wSeq (wPar 0 1 (wCB absD (wACons (wVar 0) wANil)) (wCB absD (wACons (wVar 1) wANil)))
    (wSeq (wWhile (wBinT neD (wVar 1) (wC (.int 0))) (wPar 0 1 (wVar 1) (wBin modD (wCB intD (wACons (wVar 0) wANil)) (wVar 1))))
    (wRet (wVar 0))))
/-- _law_frac(n, d): slots 0=n 1=d 2=common -/
def wb_law_frac (sp_law_gcd : SpD) : WS :=
    (wSeq (wIf (wBinT ltD (wVar 1) (wC (.int 0))) (wPar 0 1 (wNeg (wVar 0)) (wNeg (wVar 1))) wNext)
    (wSeq (wSet 2 (wCall sp_law_gcd (wACons (wVar 0) (wACons (wVar 1) wANil))))
    (wRet (wTup (wACons (wBin divD (wVar 0) (wVar 2)) (wACons (wBin divD (wVar 1) (wVar 2)) wANil))))))
/-- _law_minus(a, b): slots 0=a 1=b -/
def wb_law_minus (sp_law_frac : SpD) : WS :=
    (wRet (wCall sp_law_frac (wACons (wBin subD (wBin mulD (wBin ixD (wVar 0) (wC (.int 0))) (wBin ixD (wVar 1) (wC (.int 1)))) (wBin mulD (wBin ixD (wVar 1) (wC (.int 0))) (wBin ixD (wVar 0) (wC (.int 1))))) (wACons (wBin mulD (wBin ixD (wVar 0) (wC (.int 1))) (wBin ixD (wVar 1) (wC (.int 1)))) wANil))))
/-- _law_plus(a, b): slots 0=a 1=b -/
def wb_law_plus (sp_law_frac : SpD) : WS :=
    (wRet (wCall sp_law_frac (wACons (wBin addD (wBin mulD (wBin ixD (wVar 0) (wC (.int 0))) (wBin ixD (wVar 1) (wC (.int 1)))) (wBin mulD (wBin ixD (wVar 1) (wC (.int 0))) (wBin ixD (wVar 0) (wC (.int 1))))) (wACons (wBin mulD (wBin ixD (wVar 0) (wC (.int 1))) (wBin ixD (wVar 1) (wC (.int 1)))) wANil))))
/-- _law_draw(d, many): slots 0=d 1=many 2=found 3=size 4=cell -/
def wb_law_draw : WS :=
    (wSeq (wIf (wBinT gtD (wBin ixD (wVar 0) (wC (.int 2))) (wC (.int 0))) (wSeq (wSet 2 (wBin ixD (wVar 0) (wC (.int 2))))
    (wSeq (wAsg (wBin divD (wVar 2) (wVar 1)) (gIx setD (wVar 0) (wC (.int 2))))
    (wRet (wBin modD (wCB intD (wACons (wVar 2) wANil)) (wVar 1))))) wNext)
    (wSeq (wSet 3 (wC (.int 0)))
    (wSeq (wIf (wBinT ltD (wBin ixD (wVar 0) (wC (.int 1))) (wCB lenD (wACons (wBin ixD (wVar 0) (wC (.int 0))) wANil))) (wSeq (wSet 4 (wBin ixD (wBin ixD (wVar 0) (wC (.int 0))) (wBin ixD (wVar 0) (wC (.int 1)))))
    (wSet 3 (wBin addD (wBin mulD (wC (.int 2)) (wCB absD (wACons (wVar 4) wANil))) (wCB intD (wACons (wBin ltD (wVar 4) (wC (.int 0))) wANil))))) wNext)
    (wSeq (wAugIx iaddD (wVar 0) (wC (.int 1)) (wC (.int 1)))
    (wSeq (wIf (wBinT geD (wVar 3) (wBin mulD (wC (.int 2)) (wBin powD (wC (.int 10)) (wC (.int 18))))) (wSeq (wSet 2 (wBin modD (wCB intD (wACons (wBin divD (wVar 3) (wC (.int 2))) wANil)) (wBin shlD (wC (.int 1)) (wC (.int 6000)))))
    (wSeq (wAsg (wBin divD (wVar 2) (wVar 1)) (gIx setD (wVar 0) (wC (.int 2))))
    (wRet (wBin modD (wCB intD (wACons (wVar 2) wANil)) (wVar 1))))) wNext)
    (wSeq (wAsg (wBin modD (wCB intD (wACons (wBin addD (wBin addD (wBin addD (wBin mulD (wBin ixD (wVar 0) (wC (.int 3))) (wC (.int 48271))) (wBin mulD (wBin modD (wCB intD (wACons (wVar 3) wANil)) (wC (.int 2147483629))) (wC (.int 16807)))) (wBin mulD (wBin ixD (wVar 0) (wC (.int 1))) (wC (.int 69621)))) (wC (.int 11))) wANil)) (wC (.int 2147483647))) (gIx setD (wVar 0) (wC (.int 3))))
    (wRet (wBin modD (wCB intD (wACons (wBin divD (wBin ixD (wVar 0) (wC (.int 3))) (wC (.int 16))) wANil)) (wVar 1)))))))))
/-- _law_above_zero(d, bottom): slots 0=d 1=bottom 2=under -/
def wb_law_above_zero (sp_law_draw : SpD) (sp_law_frac : SpD) : WS :=
    (wSeq (wSet 2 (wBin addD (wC (.int 1)) (wCall sp_law_draw (wACons (wVar 0) (wACons (wVar 1) wANil)))))
    (wRet (wCall sp_law_frac (wACons (wBin addD (wC (.int 1)) (wCall sp_law_draw (wACons (wVar 0) (wACons (wVar 2) wANil)))) (wACons (wVar 2) wANil)))))
/-- _law_is_int(thing): slots 0=thing -/
def wb_law_is_int : WS :=
    (wRet (wAndV (wIsi .int (wVar 0)) (wNotV (wIsi .bool (wVar 0)))))
/-- _law_all_rows(letters, many): slots 0=letters 1=many 2=found 3=k 4=longer 5=row 6=letter -/
def wb_law_all_rows : WS :=
    (wSeq (wSet 2 (wLst (wACons (wTup wANil) wANil)))
    (wSeq (wFor (wRng (wACons (wVar 1) wANil)) (gN 3) (wSeq (wSet 4 (wLst wANil))
    (wSeq (wFor (wIt (wVar 2)) (gN 5) (wDrop (wM extendD (wVar 4) (wACons (wLc (wRng (wACons (wVar 0) wANil)) (bN 6) [6] wYes (wBin addD (wVar 5) (wTup (wACons (wVar 6) wANil)))) wANil))))
    (wSet 2 (wVar 4)))))
    (wRet (wVar 2))))
/-- _law_pick(d, row): slots 0=d 1=row -/
def wb_law_pick (sp_law_draw : SpD) : WS :=
    (wRet (wBin ixD (wVar 1) (wCall sp_law_draw (wACons (wVar 0) (wACons (wCB lenD (wACons (wVar 1) wANil)) wANil)))))
/-- _law_rare(d, many): slots 0=d 1=many -/
def wb_law_rare (sp_law_draw : SpD) : WS :=
    (wRet (wBin eqD (wCall sp_law_draw (wACons (wVar 0) (wACons (wVar 1) wANil))) (wBin divD (wVar 1) (wC (.int 2)))))
/-- _law_shuffled(d, row): slots 0=d 1=row 2=left 3=found 4=k -/
def wb_law_shuffled (sp_law_draw : SpD) : WS :=
    (wSeq (wSet 2 (wCB listD (wACons (wVar 1) wANil)))
    (wSeq (wSet 3 (wLst wANil))
    (wSeq (wFor (wRng (wACons (wCB lenD (wACons (wVar 2) wANil)) wANil)) (gN 4) (wDrop (wM appendD (wVar 3) (wACons (wM popD (wVar 2) (wACons (wCall sp_law_draw (wACons (wVar 0) (wACons (wCB lenD (wACons (wVar 2) wANil)) wANil))) wANil)) wANil))))
    (wRet (wVar 3)))))
/-- _law_times(a, b): slots 0=a 1=b -/
def wb_law_times (sp_law_frac : SpD) : WS :=
    (wRet (wCall sp_law_frac (wACons (wBin mulD (wBin ixD (wVar 0) (wC (.int 0))) (wBin ixD (wVar 1) (wC (.int 0)))) (wACons (wBin mulD (wBin ixD (wVar 0) (wC (.int 1))) (wBin ixD (wVar 1) (wC (.int 1)))) wANil))))
/-- _law_weight(d): slots 0=d -/
def wb_law_weight (sp_law_rare : SpD) (sp_law_draw : SpD) : WS :=
    (wSeq (wIf (wB (wCall sp_law_rare (wACons (wVar 0) (wACons (wC (.int 23)) wANil)))) (wRet (wBin addD (wC (.int 1)) (wCall sp_law_draw (wACons (wVar 0) (wACons (wC (.int 1000)) wANil))))) wNext)
    (wRet (wBin addD (wC (.int 1)) (wCall sp_law_draw (wACons (wVar 0) (wACons (wC (.int 4)) wANil))))))
/-- _law_corner(d, letters, nodes, most): slots 0=d 1=letters 2=nodes 3=most 4=pairs 5=letter 6=ends 7=end 8=after -/
def wb_law_corner (sp_law_shuffled : SpD) (sp_law_draw : SpD) (sp_law_weight : SpD) : WS :=
    (wSeq (wSet 4 (wLst wANil))
    (wSeq (wFor (wRng (wACons (wVar 1) wANil)) (gN 5) (wDrop (wM extendD (wVar 4) (wACons (wLc (wRng (wACons (wVar 2) wANil)) (bN 8) [8] wYes (wTup (wACons (wVar 5) (wACons (wVar 8) wANil)))) wANil))))
    (wSeq (wSet 6 (wSl (wCall sp_law_shuffled (wACons (wVar 0) (wACons (wVar 4) wANil))) wONone (wOSome (wCB min2D (wACons (wCB lenD (wACons (wVar 4) wANil)) (wACons (wBin addD (wC (.int 1)) (wCall sp_law_draw (wACons (wVar 0) (wACons (wVar 3) wANil)))) wANil))))))
    (wRet (wCB tupleD (wACons (wLc (wIt (wCB sortedD (wACons (wVar 6) wANil))) (bN 7) [7] wYes (wTup (wACons (wCall sp_law_weight (wACons (wVar 0) wANil)) (wACons (wBin ixD (wVar 7) (wC (.int 0))) (wACons (wBin ixD (wVar 7) (wC (.int 1))) wANil))))) wANil))))))
/-- _law_web(d, letters, nodes, corners, most): slots 0=d 1=letters 2=nodes 3=corners 4=most 5=found 6=node 7=k -/
def wb_law_web (sp_law_draw : SpD) (sp_law_corner : SpD) : WS :=
    (wSeq (wSet 5 (wLst wANil))
    (wSeq (wFor (wRng (wACons (wVar 2) wANil)) (gN 6) (wIf (wAnd (wBinT gtD (wVar 6) (wC (.int 0))) (wBinT eqD (wCall sp_law_draw (wACons (wVar 0) (wACons (wC (.int 5)) wANil))) (wC (.int 2)))) (wDrop (wM appendD (wVar 5) (wACons (wTup wANil) wANil))) (wDrop (wM appendD (wVar 5) (wACons (wCB tupleD (wACons (wLc (wRng (wACons (wBin addD (wC (.int 1)) (wCall sp_law_draw (wACons (wVar 0) (wACons (wVar 3) wANil)))) wANil)) (bN 7) [7] wYes (wCall sp_law_corner (wACons (wVar 0) (wACons (wVar 1) (wACons (wVar 2) (wACons (wVar 4) wANil)))))) wANil)) wANil)))))
    (wRet (wCB tupleD (wACons (wVar 5) wANil)))))
/-- _law_is_frac(thing): slots 0=thing -/
def wb_law_is_frac (sp_law_is_int : SpD) (sp_law_gcd : SpD) : WS :=
    (wSeq (wIf (wOr (wNot (wB (wIsi .tup (wVar 0)))) (wBinT neD (wCB lenD (wACons (wVar 0) wANil)) (wC (.int 2)))) (wRet (wC (.bl false))) wNext)
    (wSeq (wIf (wNot (wAnd (wB (wCall sp_law_is_int (wACons (wBin ixD (wVar 0) (wC (.int 0))) wANil))) (wB (wCall sp_law_is_int (wACons (wBin ixD (wVar 0) (wC (.int 1))) wANil))))) (wRet (wC (.bl false))) wNext)
    (wRet (wAndV (wBin geD (wBin ixD (wVar 0) (wC (.int 1))) (wC (.int 1))) (wBin eqD (wCall sp_law_gcd (wACons (wBin ixD (wVar 0) (wC (.int 0))) (wACons (wBin ixD (wVar 0) (wC (.int 1))) wANil))) (wC (.int 1)))))))
/-- _law_are_amounts(thing, many): slots 0=thing 1=many 2=one -/
def wb_law_are_amounts (sp_law_is_frac : SpD) : WS :=
    (wSeq (wIf (wOr (wNot (wB (wIsi .tup (wVar 0)))) (wBinT neD (wCB lenD (wACons (wVar 0) wANil)) (wVar 1))) (wRet (wC (.bl false))) wNext)
    (wRet (wCB allD (wACons (wLc (wIt (wVar 0)) (bN 2) [2] wYes (wAndV (wCall sp_law_is_frac (wACons (wVar 2) wANil)) (wBin geD (wBin ixD (wVar 2) (wC (.int 0))) (wC (.int 0))))) wANil))))
/-- _law_less(a, b): slots 0=a 1=b -/
def wb_law_less : WS :=
    (wRet (wBin ltD (wBin mulD (wBin ixD (wVar 0) (wC (.int 0))) (wBin ixD (wVar 1) (wC (.int 1)))) (wBin mulD (wBin ixD (wVar 1) (wC (.int 0))) (wBin ixD (wVar 0) (wC (.int 1))))))
/-- _law_over(a, b): slots 0=a 1=b -/
def wb_law_over (sp_law_frac : SpD) : WS :=
    (wRet (wCall sp_law_frac (wACons (wBin mulD (wBin ixD (wVar 0) (wC (.int 0))) (wBin ixD (wVar 1) (wC (.int 1)))) (wACons (wBin mulD (wBin ixD (wVar 0) (wC (.int 1))) (wBin ixD (wVar 1) (wC (.int 0)))) wANil))))
/-- _law_sum(row): slots 0=row 1=top 2=bottom 3=n 4=d 5=common -/
def wb_law_sum (sp_law_gcd : SpD) (sp_law_frac : SpD) : WS :=
    (wSeq (wAsg (wTup (wACons (wC (.int 0)) (wACons (wC (.int 1)) wANil))) (gT 2 (gsCons (gN 1) (gsCons (gN 2) gsNil))))
    (wSeq (wFor (wIt (wVar 0)) (gT 2 (gsCons (gN 3) (gsCons (gN 4) gsNil))) (wSeq (wSet 5 (wCall sp_law_gcd (wACons (wVar 2) (wACons (wVar 4) wANil))))
    (wPar 1 2 (wBin addD (wBin mulD (wVar 1) (wBin divD (wVar 4) (wVar 5))) (wBin mulD (wVar 3) (wBin divD (wVar 2) (wVar 5)))) (wBin mulD (wVar 2) (wBin divD (wVar 4) (wVar 5))))))
    (wRet (wCall sp_law_frac (wACons (wVar 1) (wACons (wVar 2) wANil))))))
/-- _law_weight_sum(corner): slots 0=corner 1=move -/
def wb_law_weight_sum : WS :=
    (wRet (wCB sumA (wACons (wLc (wIt (wVar 0)) (bN 1) [1] wYes (wBin ixD (wVar 1) (wC (.int 0)))) wANil)))
/-- _law_dot(row, amounts): slots 0=row 1=amounts 2=found 3=k -/
def wb_law_dot (sp_law_plus : SpD) (sp_law_times : SpD) : WS :=
    (wSeq (wSet 2 (wTup (wACons (wC (.int 0)) (wACons (wC (.int 1)) wANil))))
    (wSeq (wFor (wRng (wACons (wCB lenD (wACons (wVar 0) wANil)) wANil)) (gN 3) (wIf (wAnd (wBinT neD (wBin ixD (wBin ixD (wVar 0) (wVar 3)) (wC (.int 0))) (wC (.int 0))) (wBinT neD (wBin ixD (wBin ixD (wVar 1) (wVar 3)) (wC (.int 0))) (wC (.int 0)))) (wSet 2 (wCall sp_law_plus (wACons (wVar 2) (wACons (wCall sp_law_times (wACons (wBin ixD (wVar 0) (wVar 3)) (wACons (wBin ixD (wVar 1) (wVar 3)) wANil))) wANil)))) wNext))
    (wRet (wVar 2))))
/-- _law_are_let(rows, bounds, amounts): slots 0=rows 1=bounds 2=amounts 3=line -/
def wb_law_are_let (sp_law_less : SpD) (sp_law_dot : SpD) : WS :=
    (wRet (wCB allD (wACons (wLc (wRng (wACons (wCB lenD (wACons (wVar 0) wANil)) wANil)) (bN 3) [3] wYes (wNotV (wCall sp_law_less (wACons (wBin ixD (wVar 1) (wVar 3)) (wACons (wCall sp_law_dot (wACons (wBin ixD (wVar 0) (wVar 3)) (wACons (wVar 2) wANil))) wANil))))) wANil)))
/-- _law_asked(d, questions): slots 0=d 1=questions 2=asked -/
def wb_law_asked (sp_law_named : SpD) (sp_law_draw : SpD) : WS :=
    (wSeq (wSet 2 (wCall sp_law_named (wACons (wVar 0) (wACons (wVar 1) wANil))))
    (wSeq (wIf (wAnd (wBinT eqD (wCB lenD (wACons (wVar 2) wANil)) (wC (.int 0))) (wBinT gtD (wCall sp_law_draw (wACons (wVar 0) (wACons (wC (.int 6)) wANil))) (wC (.int 0)))) (wSet 2 (wTup (wACons (wCall sp_law_draw (wACons (wVar 0) (wACons (wVar 1) wANil))) wANil))) wNext)
    (wSeq (wIf (wAnd (wBinT ltD (wVar 1) (wC (.int 5))) (wBinT eqD (wCall sp_law_draw (wACons (wVar 0) (wACons (wC (.int 5)) wANil))) (wC (.int 2)))) (wSet 2 (wBin addD (wVar 2) (wTup (wACons (wVar 1) wANil)))) wNext)
    (wRet (wVar 2)))))
/-- _law_greatest(row): slots 0=row 1=best 2=one -/
def wb_law_greatest (sp_law_less : SpD) : WS :=
    (wSeq (wSet 1 (wBin ixD (wVar 0) (wC (.int 0))))
    (wSeq (wFor (wIt (wVar 0)) (gN 2) (wIf (wB (wCall sp_law_less (wACons (wVar 1) (wACons (wVar 2) wANil)))) (wSet 1 (wVar 2)) wNext))
    (wRet (wVar 1))))
/-- _law_begin(script): slots 0=script 1=cell -/
def wb_law_begin : WS :=
    (wRet (wLst (wACons (wLc (wIt (wVar 0)) (bN 1) [1] wYes (wCB intD (wACons (wVar 1) wANil))) (wACons (wC (.int 0)) (wACons (wC (.int 0)) (wACons (wC (.int 5)) wANil))))))
/-- _law_fraction(d, top, bottom): slots 0=d 1=top 2=bottom -/
def wb_law_fraction (sp_law_frac : SpD) (sp_law_draw : SpD) : WS :=
    (wRet (wCall sp_law_frac (wACons (wCall sp_law_draw (wACons (wVar 0) (wACons (wBin addD (wVar 1) (wC (.int 1))) wANil))) (wACons (wBin addD (wC (.int 1)) (wCall sp_law_draw (wACons (wVar 0) (wACons (wVar 2) wANil)))) wANil))))
/-- _law_rows_of_states(d, letters, states): slots 0=d 1=letters 2=states 3=state 4=letter -/
def wb_law_rows_of_states (sp_law_draw : SpD) : WS :=
    (wRet (wCB tupleD (wACons (wLc (wRng (wACons (wVar 2) wANil)) (bN 3) [3] wYes (wCB tupleD (wACons (wLc (wRng (wACons (wVar 1) wANil)) (bN 4) [4] wYes (wCall sp_law_draw (wACons (wVar 0) (wACons (wVar 2) wANil)))) wANil))) wANil)))
/-- _law_mean(corner, row, table): slots 0=corner 1=row 2=table 3=whole 4=move -/
def wb_law_mean (sp_law_weight_sum : SpD) (sp_law_over : SpD) (sp_law_sum : SpD) (sp_law_times : SpD) : WS :=
    (wSeq (wSet 3 (wCall sp_law_weight_sum (wACons (wVar 0) wANil)))
    (wRet (wCall sp_law_over (wACons (wCall sp_law_sum (wACons (wLc (wIt (wVar 0)) (bN 4) [4] wYes (wCall sp_law_times (wACons (wTup (wACons (wBin ixD (wVar 4) (wC (.int 0))) (wACons (wC (.int 1)) wANil))) (wACons (wBin ixD (wBin ixD (wVar 2) (wBin ixD (wVar 1) (wBin ixD (wVar 4) (wC (.int 1))))) (wBin ixD (wVar 4) (wC (.int 2)))) wANil)))) wANil)) (wACons (wTup (wACons (wVar 3) (wACons (wC (.int 1)) wANil))) wANil)))))
/-- _law_flat(gauge, web, entry): slots 0=gauge 1=web 2=entry 3=row 4=node -/
def wb_law_flat : WS :=
    (wRet (wCB tupleD (wACons (wLc (wIt (wBin ixD (wVar 0) (wC (.int 2)))) (bN 3) [3] wYes (wCB tupleD (wACons (wLc (wIt (wVar 1)) (bN 4) [4] wYes (wVar 2)) wANil))) wANil)))
/-- _law_gauge(d, letters, states): slots 0=d 1=letters 2=states 3=shows 4=state -/
def wb_law_gauge (sp_law_draw : SpD) (sp_law_fraction : SpD) (sp_law_rows_of_states : SpD) : WS :=
    (wSeq (wSet 3 (wLc (wRng (wACons (wVar 2) wANil)) (bN 4) [4] wYes (wIfE (wBinT eqD (wCall sp_law_draw (wACons (wVar 0) (wACons (wC (.int 2)) wANil))) (wC (.int 1))) (wCall sp_law_fraction (wACons (wVar 0) (wACons (wC (.int 6)) (wACons (wC (.int 4)) wANil)))) (wTup (wACons (wC (.int 0)) (wACons (wC (.int 1)) wANil))))))
    (wRet (wTup (wACons (wC (.str (PySem.Str.ofString "gauge"))) (wACons (wVar 1) (wACons (wCall sp_law_rows_of_states (wACons (wVar 0) (wACons (wVar 1) (wACons (wVar 2) wANil)))) (wACons (wCB tupleD (wACons (wVar 3) wANil)) wANil)))))))
/-- _law_gauge_on(d, rows, letters): slots 0=d 1=rows 2=letters 3=shows 4=state -/
def wb_law_gauge_on (sp_law_draw : SpD) (sp_law_fraction : SpD) : WS :=
    (wSeq (wSet 3 (wLc (wIt (wVar 1)) (bN 4) [4] wYes (wIfE (wBinT eqD (wCall sp_law_draw (wACons (wVar 0) (wACons (wC (.int 2)) wANil))) (wC (.int 1))) (wCall sp_law_fraction (wACons (wVar 0) (wACons (wC (.int 6)) (wACons (wC (.int 4)) wANil)))) (wTup (wACons (wC (.int 0)) (wACons (wC (.int 1)) wANil))))))
    (wRet (wTup (wACons (wC (.str (PySem.Str.ofString "gauge"))) (wACons (wVar 2) (wACons (wVar 1) (wACons (wCB tupleD (wACons (wVar 3) wANil)) wANil)))))))
/-- is_grid(thing, states, nodes): slots 0=thing 1=states 2=nodes 3=row -/
def wb_is_grid : WS :=
    (wSeq (wIf (wOr (wNot (wB (wIsi .tup (wVar 0)))) (wBinT neD (wCB lenD (wACons (wVar 0) wANil)) (wVar 1))) (wRet (wC (.bl false))) wNext)
    (wRet (wCB allD (wACons (wLc (wIt (wVar 0)) (bN 3) [3] wYes (wAndV (wIsi .tup (wVar 3)) (wBin eqD (wCB lenD (wACons (wVar 3) wANil)) (wVar 2)))) wANil))))
/-- is_whole(thing): slots 0=thing -/
def wb_is_whole : WS :=
    (wRet (wAndV (wIsi .int (wVar 0)) (wNotV (wIsi .bool (wVar 0)))))
/-- is_fraction(thing): slots 0=thing -/
def wb_is_fraction (sp_is_whole : SpD) : WS :=
    (wSeq (wIf (wOr (wNot (wB (wIsi .tup (wVar 0)))) (wBinT neD (wCB lenD (wACons (wVar 0) wANil)) (wC (.int 2)))) (wRet (wC (.bl false))) wNext)
    (wSeq (wIf (wOr (wNot (wB (wCall sp_is_whole (wACons (wBin ixD (wVar 0) (wC (.int 0))) wANil)))) (wNot (wB (wCall sp_is_whole (wACons (wBin ixD (wVar 0) (wC (.int 1))) wANil))))) (wRet (wC (.bl false))) wNext)
    (wRet (wAndV (wBin geD (wBin ixD (wVar 0) (wC (.int 1))) (wC (.int 1))) (wBin eqD (wCB gcdD (wACons (wBin ixD (wVar 0) (wC (.int 0))) (wACons (wBin ixD (wVar 0) (wC (.int 1))) wANil))) (wC (.int 1)))))))
/-- is_table(thing, states, nodes): slots 0=thing 1=states 2=nodes 3=row 4=entry -/
def wb_is_table (sp_is_grid : SpD) (sp_is_fraction : SpD) : WS :=
    (wSeq (wIf (wNot (wB (wCall sp_is_grid (wACons (wVar 0) (wACons (wVar 1) (wACons (wVar 2) wANil)))))) (wRet (wC (.bl false))) wNext)
    (wRet (wCB allD (wACons (wLc2 (wIt (wVar 0)) (bN 3) [3, 4] wYes (wIt (wVar 3)) (bN 4) [4] wYes (wCall sp_is_fraction (wACons (wVar 4) wANil))) wANil))))
/-- less(a, b): slots 0=a 1=b -/
def wb_less : WS :=
    (wRet (wBin ltD (wBin mulD (wBin ixD (wVar 0) (wC (.int 0))) (wBin ixD (wVar 1) (wC (.int 1)))) (wBin mulD (wBin ixD (wVar 1) (wC (.int 0))) (wBin ixD (wVar 0) (wC (.int 1))))))
/-- at_most(a, b): slots 0=a 1=b -/
def wb_at_most : WS :=
    (wRet (wBin leD (wBin mulD (wBin ixD (wVar 0) (wC (.int 0))) (wBin ixD (wVar 1) (wC (.int 1)))) (wBin mulD (wBin ixD (wVar 1) (wC (.int 0))) (wBin ixD (wVar 0) (wC (.int 1))))))
/-- shared(row): slots 0=row 1=bottom 2=top 3=under -/
def wb_shared : WS :=
    (wSeq (wSet 1 (wC (.int 1)))
    (wSeq (wFor (wIt (wVar 0)) (gT 2 (gsCons (gN 2) (gsCons (gN 3) gsNil))) (wSet 1 (wBin mulD (wBin divD (wVar 1) (wCB gcdD (wACons (wVar 1) (wACons (wVar 3) wANil)))) (wVar 3))))
    (wRet (wTup (wACons (wCB tupleD (wACons (wLc (wIt (wVar 0)) (bT [2, 3]) [2, 3] wYes (wBin mulD (wVar 2) (wBin divD (wVar 1) (wVar 3)))) wANil)) (wACons (wVar 1) wANil))))))
/-- fraction(n, d): slots 0=n 1=d 2=common -/
def wb_fraction : WS :=
    (wSeq (wIf (wBinT eqD (wVar 1) (wC (.int 0))) wNever wNext)
    (wSeq (wIf (wBinT ltD (wVar 1) (wC (.int 0))) (wPar 0 1 (wNeg (wVar 0)) (wNeg (wVar 1))) wNext)
    (wSeq (wSet 2 (wCB gcdD (wACons (wVar 0) (wACons (wVar 1) wANil))))
    (wRet (wTup (wACons (wBin divD (wVar 0) (wVar 2)) (wACons (wBin divD (wVar 1) (wVar 2)) wANil)))))))
/-- total(row): slots 0=row 1=tops 2=bottom -/
def wb_total (sp_shared : SpD) (sp_fraction : SpD) : WS :=
    (wSeq (wAsg (wCall sp_shared (wACons (wVar 0) wANil)) (gT 2 (gsCons (gN 1) (gsCons (gN 2) gsNil))))
    (wRet (wCall sp_fraction (wACons (wCB sumA (wACons (wVar 1) wANil)) (wACons (wVar 2) wANil)))))
/-- times(a, b): slots 0=a 1=b -/
def wb_times (sp_fraction : SpD) : WS :=
    (wRet (wCall sp_fraction (wACons (wBin mulD (wBin ixD (wVar 0) (wC (.int 0))) (wBin ixD (wVar 1) (wC (.int 0)))) (wACons (wBin mulD (wBin ixD (wVar 0) (wC (.int 1))) (wBin ixD (wVar 1) (wC (.int 1)))) wANil))))
/-- weighed_entries(corner, row, table): slots 0=corner 1=row 2=table 3=weight 4=letter 5=after -/
def wb_weighed_entries (sp_total : SpD) (sp_times : SpD) : WS :=
    (wRet (wCall sp_total (wACons (wLc (wIt (wVar 0)) (bT [3, 4, 5]) [3, 4, 5] wYes (wCall sp_times (wACons (wTup (wACons (wVar 3) (wACons (wC (.int 1)) wANil))) (wACons (wBin ixD (wBin ixD (wVar 2) (wBin ixD (wVar 1) (wVar 4))) (wVar 5)) wANil)))) wANil)))
/-- corner_total(corner): slots 0=corner 1=weight 2=letter 3=after -/
def wb_corner_total : WS :=
    (wRet (wTup (wACons (wCB sumA (wACons (wLc (wIt (wVar 0)) (bT [1, 2, 3]) [1, 2, 3] wYes (wVar 1)) wANil)) (wACons (wC (.int 1)) wANil))))
/-- is_growing_by(corner, row, table, entry): slots 0=corner 1=row 2=table 3=entry -/
def wb_is_growing_by (sp_at_most : SpD) (sp_weighed_entries : SpD) (sp_times : SpD) (sp_corner_total : SpD) : WS :=
    (wRet (wNotV (wCall sp_at_most (wACons (wCall sp_weighed_entries (wACons (wVar 0) (wACons (wVar 1) (wACons (wVar 2) wANil)))) (wACons (wCall sp_times (wACons (wCall sp_corner_total (wACons (wVar 0) wANil)) (wACons (wVar 3) wANil))) wANil)))))
/-- _law_least(row): slots 0=row 1=best 2=one -/
def wb_law_least (sp_law_less : SpD) : WS :=
    (wSeq (wSet 1 (wBin ixD (wVar 0) (wC (.int 0))))
    (wSeq (wFor (wIt (wVar 0)) (gN 2) (wIf (wB (wCall sp_law_less (wACons (wVar 2) (wACons (wVar 1) wANil)))) (wSet 1 (wVar 2)) wNext))
    (wRet (wVar 1))))
/-- _law_some(d, found): slots 0=d 1=found 2=at -/
def wb_law_some (sp_law_draw : SpD) : WS :=
    (wSeq (wSet 2 (wCall sp_law_draw (wACons (wVar 0) (wACons (wCB lenD (wACons (wVar 1) wANil)) wANil))))
    (wSeq (wIf (wBinT eqD (wCB sumA (wACons (wVar 1) wANil)) (wC (.int 0))) (wAsg (wC (.int 1)) (gIx setD (wVar 1) (wVar 2))) wNext)
    (wRet (wVar 1))))
/-- _law_shows_best(costs, rows, bounds, paper): slots 0=costs 1=rows 2=bounds 3=paper 4=value 5=amounts 6=prices 7=k 8=row -/
def wb_law_shows_best (sp_law_is_frac : SpD) (sp_law_are_amounts : SpD) (sp_law_are_let : SpD) (sp_law_dot : SpD) (sp_law_less : SpD) : WS :=
    (wSeq (wPar3 4 5 6 (wBin ixD (wVar 3) (wC (.int 1))) (wBin ixD (wVar 3) (wC (.int 2))) (wBin ixD (wVar 3) (wC (.int 3))))
    (wSeq (wIf (wOr (wNot (wB (wCall sp_law_is_frac (wACons (wVar 4) wANil)))) (wOr (wNot (wB (wCall sp_law_are_amounts (wACons (wVar 5) (wACons (wCB lenD (wACons (wVar 0) wANil)) wANil))))) (wNot (wB (wCall sp_law_are_amounts (wACons (wVar 6) (wACons (wCB lenD (wACons (wVar 1) wANil)) wANil))))))) (wRet (wC (.bl false))) wNext)
    (wSeq (wIf (wOr (wNot (wB (wCall sp_law_are_let (wACons (wVar 1) (wACons (wVar 2) (wACons (wVar 5) wANil)))))) (wBinT neD (wCall sp_law_dot (wACons (wVar 0) (wACons (wVar 5) wANil))) (wVar 4))) (wRet (wC (.bl false))) wNext)
    (wSeq (wFor (wRng (wACons (wCB lenD (wACons (wVar 0) wANil)) wANil)) (gN 7) (wIf (wB (wCall sp_law_less (wACons (wCall sp_law_dot (wACons (wLc (wIt (wVar 1)) (bN 8) [8] wYes (wBin ixD (wVar 8) (wVar 7))) (wACons (wVar 6) wANil))) (wACons (wBin ixD (wVar 0) (wVar 7)) wANil)))) (wRet (wC (.bl false))) wNext))
    (wRet (wBin eqD (wCall sp_law_dot (wACons (wVar 2) (wACons (wVar 6) wANil))) (wVar 4)))))))
/-- _law_shows_endless(costs, rows, bounds, paper): slots 0=costs 1=rows 2=bounds 3=paper 4=amounts 5=ray 6=row -/
def wb_law_shows_endless (sp_law_are_amounts : SpD) (sp_law_are_let : SpD) (sp_law_dot : SpD) : WS :=
    (wSeq (wAsg (wTup (wACons (wBin ixD (wVar 3) (wC (.int 1))) (wACons (wBin ixD (wVar 3) (wC (.int 2))) wANil))) (gT 2 (gsCons (gN 4) (gsCons (gN 5) gsNil))))
    (wSeq (wIf (wOr (wNot (wB (wCall sp_law_are_amounts (wACons (wVar 4) (wACons (wCB lenD (wACons (wVar 0) wANil)) wANil))))) (wNot (wB (wCall sp_law_are_amounts (wACons (wVar 5) (wACons (wCB lenD (wACons (wVar 0) wANil)) wANil)))))) (wRet (wC (.bl false))) wNext)
    (wSeq (wIf (wOr (wNot (wB (wCall sp_law_are_let (wACons (wVar 1) (wACons (wVar 2) (wACons (wVar 4) wANil)))))) (wBinT leD (wBin ixD (wCall sp_law_dot (wACons (wVar 0) (wACons (wVar 5) wANil))) (wC (.int 0))) (wC (.int 0)))) (wRet (wC (.bl false))) wNext)
    (wRet (wCB allD (wACons (wLc (wIt (wVar 1)) (bN 6) [6] wYes (wBin leD (wBin ixD (wCall sp_law_dot (wACons (wVar 6) (wACons (wVar 5) wANil))) (wC (.int 0))) (wC (.int 0)))) wANil))))))
/-- plus(a, b): slots 0=a 1=b -/
def wb_plus (sp_fraction : SpD) : WS :=
    (wRet (wCall sp_fraction (wACons (wBin addD (wBin mulD (wBin ixD (wVar 0) (wC (.int 0))) (wBin ixD (wVar 1) (wC (.int 1)))) (wBin mulD (wBin ixD (wVar 1) (wC (.int 0))) (wBin ixD (wVar 0) (wC (.int 1))))) (wACons (wBin mulD (wBin ixD (wVar 0) (wC (.int 1))) (wBin ixD (wVar 1) (wC (.int 1)))) wANil))))
/-- is_amount(thing): slots 0=thing -/
def wb_is_amount (sp_is_fraction : SpD) : WS :=
    (wRet (wAndV (wCall sp_is_fraction (wACons (wVar 0) wANil)) (wBin geD (wBin ixD (wVar 0) (wC (.int 0))) (wC (.int 0)))))
/-- weighed(weights, row): slots 0=weights 1=row 2=weight 3=one -/
def wb_weighed (sp_total : SpD) (sp_times : SpD) : WS :=
    (wRet (wCall sp_total (wACons (wLc (wi_zip (wACons (wVar 0) (wACons (wVar 1) wANil))) (bT [2, 3]) [2, 3] wYes (wCall sp_times (wACons (wVar 2) (wACons (wVar 3) wANil)))) wANil)))
/-- are_let(rows, bounds, amounts): slots 0=rows 1=bounds 2=amounts 3=row 4=bound -/
def wb_are_let (sp_less : SpD) (sp_weighed : SpD) : WS :=
    (wSeq (wFor (wi_zip (wACons (wVar 0) (wACons (wVar 1) wANil))) (gT 2 (gsCons (gN 3) (gsCons (gN 4) gsNil))) (wIf (wB (wCall sp_less (wACons (wVar 4) (wACons (wCall sp_weighed (wACons (wVar 3) (wACons (wVar 2) wANil))) wANil)))) (wRet (wC (.bl false))) wNext))
    (wRet (wC (.bl true))))
/-- over(a, b): slots 0=a 1=b -/
def wb_over (sp_fraction : SpD) : WS :=
    (wRet (wCall sp_fraction (wACons (wBin mulD (wBin ixD (wVar 0) (wC (.int 0))) (wBin ixD (wVar 1) (wC (.int 1)))) (wACons (wBin mulD (wBin ixD (wVar 0) (wC (.int 1))) (wBin ixD (wVar 1) (wC (.int 0)))) wANil))))
/-- greatest_of(row): slots 0=row 1=best 2=one -/
def wb_greatest_of (sp_less : SpD) : WS :=
    (wSeq (wSet 1 (wBin ixD (wVar 0) (wC (.int 0))))
    (wSeq (wFor (wIt (wVar 0)) (gN 2) (wIf (wB (wCall sp_less (wACons (wVar 1) (wACons (wVar 2) wANil)))) (wSet 1 (wVar 2)) wNext))
    (wRet (wVar 1))))
/-- minus(a, b): slots 0=a 1=b -/
def wb_minus (sp_fraction : SpD) : WS :=
    (wRet (wCall sp_fraction (wACons (wBin subD (wBin mulD (wBin ixD (wVar 0) (wC (.int 0))) (wBin ixD (wVar 1) (wC (.int 1)))) (wBin mulD (wBin ixD (wVar 1) (wC (.int 0))) (wBin ixD (wVar 0) (wC (.int 1))))) (wACons (wBin mulD (wBin ixD (wVar 0) (wC (.int 1))) (wBin ixD (wVar 1) (wC (.int 1)))) wANil))))
/-- is_row_of_amounts(thing, many): slots 0=thing 1=many 2=one -/
def wb_is_row_of_amounts (sp_is_amount : SpD) : WS :=
    (wSeq (wIf (wOr (wNot (wB (wIsi .tup (wVar 0)))) (wBinT neD (wCB lenD (wACons (wVar 0) wANil)) (wVar 1))) (wRet (wC (.bl false))) wNext)
    (wRet (wCB allD (wACons (wLc (wIt (wVar 0)) (bN 2) [2] wYes (wCall sp_is_amount (wACons (wVar 2) wANil))) wANil))))
/-- shows_best(costs, rows, bounds, paper): slots 0=costs 1=rows 2=bounds 3=paper 4=value 5=amounts 6=prices 7=at 8=row -/
def wb_shows_best (sp_is_fraction : SpD) (sp_is_row_of_amounts : SpD) (sp_are_let : SpD) (sp_weighed : SpD) (sp_less : SpD) : WS :=
    (wSeq (wPar3 4 5 6 (wBin ixD (wVar 3) (wC (.int 1))) (wBin ixD (wVar 3) (wC (.int 2))) (wBin ixD (wVar 3) (wC (.int 3))))
    (wSeq (wIf (wOr (wNot (wB (wCall sp_is_fraction (wACons (wVar 4) wANil)))) (wNot (wB (wCall sp_is_row_of_amounts (wACons (wVar 5) (wACons (wCB lenD (wACons (wVar 0) wANil)) wANil)))))) (wRet (wC (.bl false))) wNext)
    (wSeq (wIf (wNot (wB (wCall sp_is_row_of_amounts (wACons (wVar 6) (wACons (wCB lenD (wACons (wVar 1) wANil)) wANil))))) (wRet (wC (.bl false))) wNext)
    (wSeq (wIf (wOr (wNot (wB (wCall sp_are_let (wACons (wVar 1) (wACons (wVar 2) (wACons (wVar 5) wANil)))))) (wBinT neD (wCall sp_weighed (wACons (wVar 0) (wACons (wVar 5) wANil))) (wVar 4))) (wRet (wC (.bl false))) wNext)
    (wSeq (wFor (wRng (wACons (wCB lenD (wACons (wVar 0) wANil)) wANil)) (gN 7) (wIf (wB (wCall sp_less (wACons (wCall sp_weighed (wACons (wLc (wIt (wVar 1)) (bN 8) [8] wYes (wBin ixD (wVar 8) (wVar 7))) (wACons (wVar 6) wANil))) (wACons (wBin ixD (wVar 0) (wVar 7)) wANil)))) (wRet (wC (.bl false))) wNext))
    (wRet (wBin eqD (wCall sp_weighed (wACons (wVar 2) (wACons (wVar 6) wANil))) (wVar 4))))))))
/-- shows_endless(costs, rows, bounds, paper): slots 0=costs 1=rows 2=bounds 3=paper 4=amounts 5=ray 6=row -/
def wb_shows_endless (sp_is_row_of_amounts : SpD) (sp_are_let : SpD) (sp_at_most : SpD) (sp_weighed : SpD) (sp_less : SpD) : WS :=
    (wSeq (wPar 4 5 (wBin ixD (wVar 3) (wC (.int 1))) (wBin ixD (wVar 3) (wC (.int 2))))
    (wSeq (wIf (wOr (wNot (wB (wCall sp_is_row_of_amounts (wACons (wVar 4) (wACons (wCB lenD (wACons (wVar 0) wANil)) wANil))))) (wNot (wB (wCall sp_is_row_of_amounts (wACons (wVar 5) (wACons (wCB lenD (wACons (wVar 0) wANil)) wANil)))))) (wRet (wC (.bl false))) wNext)
    (wSeq (wIf (wNot (wB (wCall sp_are_let (wACons (wVar 1) (wACons (wVar 2) (wACons (wVar 4) wANil)))))) (wRet (wC (.bl false))) wNext)
    (wSeq (wFor (wIt (wVar 1)) (gN 6) (wIf (wNot (wB (wCall sp_at_most (wACons (wCall sp_weighed (wACons (wVar 6) (wACons (wVar 5) wANil))) (wACons (wC (.tup [(.int 0), (.int 1)])) wANil))))) (wRet (wC (.bl false))) wNext))
    (wRet (wCall sp_less (wACons (wC (.tup [(.int 0), (.int 1)])) (wACons (wCall sp_weighed (wACons (wVar 0) (wACons (wVar 5) wANil))) wANil))))))))
/-- judge_under(costs, rows, bounds, paper): slots 0=costs 1=rows 2=bounds 3=paper -/
def wb_judge_under (sp_shows_best : SpD) (sp_shows_endless : SpD) : WS :=
    (wSeq (wIf (wOr (wNot (wB (wIsi .tup (wVar 3)))) (wBinT eqD (wCB lenD (wACons (wVar 3) wANil)) (wC (.int 0)))) (wRet (wC (.bl false))) wNext)
    (wSeq (wIf (wAnd (wBinT eqD (wBin ixD (wVar 3) (wC (.int 0))) (wC (.str (PySem.Str.ofString "best")))) (wBinT eqD (wCB lenD (wACons (wVar 3) wANil)) (wC (.int 4)))) (wRet (wCall sp_shows_best (wACons (wVar 0) (wACons (wVar 1) (wACons (wVar 2) (wACons (wVar 3) wANil)))))) wNext)
    (wSeq (wIf (wAnd (wBinT eqD (wBin ixD (wVar 3) (wC (.int 0))) (wC (.str (PySem.Str.ofString "endless")))) (wBinT eqD (wCB lenD (wACons (wVar 3) wANil)) (wC (.int 3)))) (wRet (wCall sp_shows_endless (wACons (wVar 0) (wACons (wVar 1) (wACons (wVar 2) (wACons (wVar 3) wANil)))))) wNext)
    (wRet (wC (.bl false))))))
/-- least_of_all(row): slots 0=row 1=best 2=one -/
def wb_least_of_all (sp_less : SpD) : WS :=
    (wSeq (wSet 1 (wBin ixD (wVar 0) (wC (.int 0))))
    (wSeq (wFor (wIt (wVar 0)) (gN 2) (wIf (wB (wCall sp_less (wACons (wVar 2) (wACons (wVar 1) wANil)))) (wSet 1 (wVar 2)) wNext))
    (wRet (wVar 1))))
end C
end DL

namespace DL
namespace K01
open PySem L2 C
/-- fraction(n, d): slots 0=n 1=d 2=common -/
def wb_fraction (c_BadFraction : Addr) : WS :=
    (wSeq (wIf (wBinT eqD (wVar 1) (wC (.int 0))) (wRaise0 c_BadFraction) wNext)
    (wSeq (wIf (wBinT ltD (wVar 1) (wC (.int 0))) (wPar 0 1 (wNeg (wVar 0)) (wNeg (wVar 1))) wNext)
    (wSeq (wSet 2 (wCB gcdD (wACons (wVar 0) (wACons (wVar 1) wANil))))
    (wRet (wTup (wACons (wBin divD (wVar 0) (wVar 2)) (wACons (wBin divD (wVar 1) (wVar 2)) wANil)))))))
/-- _law_number(d): slots 0=d 1=kind 2=found 3=k -/
def wb_law_number (sp_law_draw : SpD) : WS :=
    (wSeq (wSet 1 (wCall sp_law_draw (wACons (wVar 0) (wACons (wC (.int 5)) wANil))))
    (wSeq (wIf (wBinT eqD (wVar 1) (wC (.int 0))) (wRet (wBin subD (wCall sp_law_draw (wACons (wVar 0) (wACons (wC (.int 3)) wANil))) (wC (.int 1)))) wNext)
    (wSeq (wIf (wBinT eqD (wVar 1) (wC (.int 1))) (wSeq (wSet 2 (wC (.int 0)))
    (wSeq (wFor (wRng (wACons (wBin addD (wC (.int 1)) (wCall sp_law_draw (wACons (wVar 0) (wACons (wC (.int 4)) wANil)))) wANil)) (gN 3) (wSet 2 (wBin addD (wBin mulD (wVar 2) (wBin powD (wC (.int 10)) (wC (.int 7)))) (wCall sp_law_draw (wACons (wVar 0) (wACons (wBin powD (wC (.int 10)) (wC (.int 7))) wANil))))))
    (wRet (wIfE (wBinT eqD (wCall sp_law_draw (wACons (wVar 0) (wACons (wC (.int 2)) wANil))) (wC (.int 1))) (wVar 2) (wNeg (wVar 2)))))) wNext)
    (wRet (wBin subD (wCall sp_law_draw (wACons (wVar 0) (wACons (wC (.int 25)) wANil))) (wC (.int 12)))))))
/-- _law_some(d, row): slots 0=d 1=row 2=kind 3=one 4=under -/
def wb_law_some (sp_law_draw : SpD) (sp_law_pick : SpD) (sp_law_plus : SpD) (sp_law_number : SpD) (sp_law_frac : SpD) : WS :=
    (wSeq (wSet 2 (wCall sp_law_draw (wACons (wVar 0) (wACons (wC (.int 7)) wANil))))
    (wSeq (wIf (wAnd (wBinT ltD (wVar 2) (wC (.int 2))) (wBinT gtD (wCB lenD (wACons (wVar 1) wANil)) (wC (.int 0)))) (wSeq (wSet 3 (wCall sp_law_pick (wACons (wVar 0) (wACons (wVar 1) wANil))))
    (wRet (wIfE (wBinT eqD (wVar 2) (wC (.int 0))) (wVar 3) (wTup (wACons (wNeg (wBin ixD (wVar 3) (wC (.int 0)))) (wACons (wBin ixD (wVar 3) (wC (.int 1))) wANil)))))) wNext)
    (wSeq (wIf (wAnd (wBinT eqD (wVar 2) (wC (.int 2))) (wBinT gtD (wCB lenD (wACons (wVar 1) wANil)) (wC (.int 0)))) (wRet (wCall sp_law_plus (wACons (wBin ixD (wVar 1) (wC (.int 0))) (wACons (wTup (wACons (wBin subD (wC (.int 1)) (wBin mulD (wC (.int 2)) (wCall sp_law_draw (wACons (wVar 0) (wACons (wC (.int 2)) wANil))))) (wACons (wBin addD (wBin powD (wC (.int 10)) (wC (.int 20))) (wCall sp_law_draw (wACons (wVar 0) (wACons (wBin powD (wC (.int 10)) (wC (.int 6))) wANil)))) wANil))) wANil)))) wNext)
    (wSeq (wSet 4 (wCall sp_law_number (wACons (wVar 0) wANil)))
    (wRet (wCall sp_law_frac (wACons (wCall sp_law_number (wACons (wVar 0) wANil)) (wACons (wIfE (wBinT neD (wVar 4) (wC (.int 0))) (wVar 4) (wC (.int 1))) wANil))))))))
/-- _law_asked(is_over, a, b): slots 0=is_over 1=a 2=b 3=e -/
def wb_law_asked (sp_over : SpD) (sp_fraction : SpD) (EM_0 : Addr → Bool → Prop) (IS_0 : Addr → Option Bool) (IS_1 : Addr → Option Bool) (IS_2 : Addr → Option Bool) (IS_3 : Addr → Option Bool) : WS :=
    (wTry EM_0 3 (wRet (wLst (wACons (wC (.str (PySem.Str.ofString "told"))) (wACons (wIfE (wB (wVar 0)) (wCall sp_over (wACons (wVar 1) (wACons (wVar 2) wANil))) (wCall sp_fraction (wACons (wVar 1) (wACons (wVar 2) wANil)))) wANil))))
    (fun a D d => (wSeq (wIf (wOr (wNot (wB (wIsE a d (IS_0 D) (wVar 3)))) (wNot (wB (wIsE a d (IS_1 D) (wVar 3))))) (wRet (wLst (wACons (wC (.str (PySem.Str.ofString "other"))) wANil))) wNext)
    (wSeq (wIf (wB (wIsE a d (IS_2 D) (wVar 3))) (wRet (wLst (wACons (wC (.str (PySem.Str.ofString "other"))) wANil))) wNext)
    (wRet (wIfE (wB (wIsE a d (IS_3 D) (wVar 3))) (wLst (wACons (wC (.str (PySem.Str.ofString "other"))) wANil)) (wLst (wACons (wC (.str (PySem.Str.ofString "refused"))) wANil))))))))
/-- _law_is(told, n, under): slots 0=told 1=n 2=under -/
def wb_law_is (sp_law_is_frac : SpD) : WS :=
    (wRet (wAndV (wCall sp_law_is_frac (wACons (wVar 0) wANil)) (wBin eqD (wBin mulD (wBin ixD (wVar 0) (wC (.int 0))) (wVar 2)) (wBin mulD (wVar 1) (wBin ixD (wVar 0) (wC (.int 1)))))))
/-- _law_is_quotient(is_over, a, b, n, under): slots 0=is_over 1=a 2=b 3=n 4=under 5=told -/
def wb_law_is_quotient (sp_law_asked : SpD) (sp_law_is : SpD) : WS :=
    (wSeq (wSet 5 (wCall sp_law_asked (wACons (wVar 0) (wACons (wVar 1) (wACons (wVar 2) wANil)))))
    (wSeq (wIf (wBinT eqD (wVar 4) (wC (.int 0))) (wRet (wBin eqD (wVar 5) (wLst (wACons (wC (.str (PySem.Str.ofString "refused"))) wANil)))) wNext)
    (wRet (wAndV (wBin eqD (wBin ixD (wVar 5) (wC (.int 0))) (wC (.str (PySem.Str.ofString "told")))) (wCall sp_law_is (wACons (wBin ixD (wVar 5) (wC (.int 1))) (wACons (wVar 3) (wACons (wVar 4) wANil))))))))
/-- _law_pair_told(a, b): slots 0=a 1=b 2=is_less 3=is_no_more -/
def wb_law_pair_told (sp_law_is : SpD) (sp_plus : SpD) (sp_minus : SpD) (sp_times : SpD) (sp_law_is_quotient : SpD) (sp_less : SpD) (sp_at_most : SpD) : WS :=
    (wSeq (wIf (wNot (wB (wCall sp_law_is (wACons (wCall sp_plus (wACons (wVar 0) (wACons (wVar 1) wANil))) (wACons (wBin addD (wBin mulD (wBin ixD (wVar 0) (wC (.int 0))) (wBin ixD (wVar 1) (wC (.int 1)))) (wBin mulD (wBin ixD (wVar 1) (wC (.int 0))) (wBin ixD (wVar 0) (wC (.int 1))))) (wACons (wBin mulD (wBin ixD (wVar 0) (wC (.int 1))) (wBin ixD (wVar 1) (wC (.int 1)))) wANil)))))) (wRet (wC (.bl false))) wNext)
    (wSeq (wIf (wNot (wB (wCall sp_law_is (wACons (wCall sp_minus (wACons (wVar 0) (wACons (wVar 1) wANil))) (wACons (wBin subD (wBin mulD (wBin ixD (wVar 0) (wC (.int 0))) (wBin ixD (wVar 1) (wC (.int 1)))) (wBin mulD (wBin ixD (wVar 1) (wC (.int 0))) (wBin ixD (wVar 0) (wC (.int 1))))) (wACons (wBin mulD (wBin ixD (wVar 0) (wC (.int 1))) (wBin ixD (wVar 1) (wC (.int 1)))) wANil)))))) (wRet (wC (.bl false))) wNext)
    (wSeq (wIf (wNot (wB (wCall sp_law_is (wACons (wCall sp_times (wACons (wVar 0) (wACons (wVar 1) wANil))) (wACons (wBin mulD (wBin ixD (wVar 0) (wC (.int 0))) (wBin ixD (wVar 1) (wC (.int 0)))) (wACons (wBin mulD (wBin ixD (wVar 0) (wC (.int 1))) (wBin ixD (wVar 1) (wC (.int 1)))) wANil)))))) (wRet (wC (.bl false))) wNext)
    (wSeq (wIf (wNot (wB (wCall sp_law_is_quotient (wACons (wC (.bl true)) (wACons (wVar 0) (wACons (wVar 1) (wACons (wBin mulD (wBin ixD (wVar 0) (wC (.int 0))) (wBin ixD (wVar 1) (wC (.int 1)))) (wACons (wBin mulD (wBin ixD (wVar 0) (wC (.int 1))) (wBin ixD (wVar 1) (wC (.int 0)))) wANil)))))))) (wRet (wC (.bl false))) wNext)
    (wSeq (wPar 2 3 (wCall sp_less (wACons (wVar 0) (wACons (wVar 1) wANil))) (wCall sp_at_most (wACons (wVar 0) (wACons (wVar 1) wANil))))
    (wSeq (wIf (wOr (wNot (wB (wIsi .bool (wVar 2)))) (wNot (wB (wIsi .bool (wVar 3))))) (wRet (wC (.bl false))) wNext)
    (wRet (wAndV (wBin eqD (wVar 2) (wBin ltD (wBin mulD (wBin ixD (wVar 0) (wC (.int 0))) (wBin ixD (wVar 1) (wC (.int 1)))) (wBin mulD (wBin ixD (wVar 1) (wC (.int 0))) (wBin ixD (wVar 0) (wC (.int 1)))))) (wBin eqD (wVar 3) (wBin leD (wBin mulD (wBin ixD (wVar 0) (wC (.int 0))) (wBin ixD (wVar 1) (wC (.int 1)))) (wBin mulD (wBin ixD (wVar 1) (wC (.int 0))) (wBin ixD (wVar 0) (wC (.int 1))))))))))))))
/-- _law_shared_told(row): slots 0=row 1=told 2=tops 3=bottom 4=due 5=one 6=top -/
def wb_law_shared_told (sp_shared : SpD) (sp_law_is_int : SpD) (sp_law_gcd : SpD) : WS :=
    (wSeq (wSet 1 (wCall sp_shared (wACons (wCB tupleD (wACons (wVar 0) wANil)) wANil)))
    (wSeq (wIf (wOr (wNot (wB (wIsi .tup (wVar 1)))) (wBinT neD (wCB lenD (wACons (wVar 1) wANil)) (wC (.int 2)))) (wRet (wC (.bl false))) wNext)
    (wSeq (wAsg (wVar 1) (gT 2 (gsCons (gN 2) (gsCons (gN 3) gsNil))))
    (wSeq (wIf (wOr (wNot (wB (wIsi .tup (wVar 2)))) (wOr (wNot (wB (wCB allD (wACons (wLc (wIt (wVar 2)) (bN 6) [6] wYes (wCall sp_law_is_int (wACons (wVar 6) wANil))) wANil)))) (wNot (wB (wCall sp_law_is_int (wACons (wVar 3) wANil)))))) (wRet (wC (.bl false))) wNext)
    (wSeq (wSet 4 (wC (.int 1)))
    (wSeq (wFor (wIt (wVar 0)) (gN 5) (wSet 4 (wBin mulD (wBin divD (wVar 4) (wCall sp_law_gcd (wACons (wVar 4) (wACons (wBin ixD (wVar 5) (wC (.int 1))) wANil)))) (wBin ixD (wVar 5) (wC (.int 1))))))
    (wRet (wAndV (wBin eqD (wVar 3) (wVar 4)) (wBin eqD (wCB listD (wACons (wVar 2) wANil)) (wLc (wIt (wVar 0)) (bN 5) [5] wYes (wBin mulD (wBin ixD (wVar 5) (wC (.int 0))) (wBin divD (wVar 4) (wBin ixD (wVar 5) (wC (.int 1)))))))))))))))
/-- _law_row_told(row): slots 0=row 1=told 2=high 3=low -/
def wb_law_row_told (sp_total : SpD) (sp_law_is_frac : SpD) (sp_law_sum : SpD) (sp_law_shared_told : SpD) (sp_greatest_of : SpD) (sp_least_of_all : SpD) (sp_law_greatest : SpD) (sp_law_least : SpD) : WS :=
    (wSeq (wSet 1 (wCall sp_total (wACons (wCB tupleD (wACons (wVar 0) wANil)) wANil)))
    (wSeq (wIf (wOr (wNot (wB (wCall sp_law_is_frac (wACons (wVar 1) wANil)))) (wOr (wBinT neD (wVar 1) (wCall sp_law_sum (wACons (wVar 0) wANil))) (wNot (wB (wCall sp_law_shared_told (wACons (wVar 0) wANil)))))) (wRet (wC (.bl false))) wNext)
    (wSeq (wIf (wBinT eqD (wCB lenD (wACons (wVar 0) wANil)) (wC (.int 0))) (wRet (wC (.bl true))) wNext)
    (wSeq (wPar 2 3 (wCall sp_greatest_of (wACons (wCB tupleD (wACons (wVar 0) wANil)) wANil)) (wCall sp_least_of_all (wACons (wCB tupleD (wACons (wVar 0) wANil)) wANil)))
    (wSeq (wIf (wOr (wNot (wB (wCall sp_law_is_frac (wACons (wVar 2) wANil)))) (wNot (wB (wCall sp_law_is_frac (wACons (wVar 3) wANil))))) (wRet (wC (.bl false))) wNext)
    (wRet (wAndV (wBin eqD (wVar 2) (wCall sp_law_greatest (wACons (wVar 0) wANil))) (wBin eqD (wVar 3) (wCall sp_law_least (wACons (wVar 0) wANil))))))))))
/-- _law_things(d, one): slots 0=d 1=one 2=n 3=under 4=factor 5=found -/
def wb_law_things (sp_law_draw : SpD) (sp_law_shuffled : SpD) : WS :=
    (wSeq (wAsg (wVar 1) (gT 2 (gsCons (gN 2) (gsCons (gN 3) gsNil))))
    (wSeq (wSet 4 (wBin addD (wC (.int 2)) (wCall sp_law_draw (wACons (wVar 0) (wACons (wC (.int 5)) wANil)))))
    (wSeq (wSet 5 (wLst (wACons (wVar 1) (wACons (wTup (wACons (wBin mulD (wVar 2) (wVar 4)) (wACons (wBin mulD (wVar 3) (wVar 4)) wANil))) (wACons (wTup (wACons (wVar 2) (wACons (wNeg (wVar 3)) wANil))) (wACons (wTup (wACons (wNeg (wVar 2)) (wACons (wNeg (wVar 3)) wANil))) (wACons (wTup (wACons (wVar 2) (wACons (wC (.int 0)) wANil))) (wACons (wTup (wACons (wC (.int 0)) (wACons (wVar 3) wANil))) (wACons (wTup (wACons (wC (.int 1)) (wACons (wC (.int 0)) wANil))) (wACons (wTup (wACons (wC (.int 0)) (wACons (wC (.int 0)) wANil))) wANil))))))))))
    (wSeq (wDrop (wM extendD (wVar 5) (wACons (wLst (wACons (wTup (wACons (wVar 2) (wACons (wVar 3) (wACons (wC (.int 1)) wANil)))) (wACons (wTup (wACons (wVar 2) wANil)) (wACons (wTup wANil) (wACons (wTup (wACons (wVar 1) (wACons (wVar 1) wANil))) (wACons (wTup (wACons (wVar 2) (wACons (wC .non) wANil))) (wACons (wTup (wACons (wC .non) (wACons (wVar 3) wANil))) (wACons (wTup (wACons (wC (.str (PySem.Str.ofString "1"))) (wACons (wC (.int 2)) wANil))) (wACons (wTup (wACons (wVar 2) (wACons (wC (.str (PySem.Str.ofString "2"))) wANil))) (wACons (wVar 2) (wACons (wC .non) (wACons (wC (.str (PySem.Str.ofString "half"))) wANil)))))))))))) wANil)))
    (wSeq (wDrop (wM extendD (wVar 5) (wACons (wLst (wACons (wTup (wACons (wC (.int 1)) (wACons (wC (.int 1)) wANil))) (wACons (wTup (wACons (wC (.bl true)) (wACons (wC (.int 1)) wANil))) (wACons (wTup (wACons (wC (.int 1)) (wACons (wC (.bl true)) wANil))) (wACons (wTup (wACons (wC (.int 0)) (wACons (wC (.int 1)) wANil))) (wACons (wTup (wACons (wC (.bl false)) (wACons (wC (.int 1)) wANil))) (wACons (wTup (wACons (wC (.bl true)) (wACons (wC (.bl true)) wANil))) (wACons (wTup (wACons (wNeg (wC (.int 1))) (wACons (wC (.int 1)) wANil))) (wACons (wTup (wACons (wC (.int 1)) (wACons (wNeg (wC (.int 1))) wANil))) (wACons (wTup (wACons (wC (.int 2)) (wACons (wC (.int 2)) wANil))) wANil)))))))))) wANil)))
    (wRet (wCall sp_law_shuffled (wACons (wVar 0) (wACons (wVar 5) wANil)))))))))
/-- _law_thing_told(thing): slots 0=thing 1=told -/
def wb_law_thing_told (sp_is_fraction : SpD) (sp_law_is_frac : SpD) : WS :=
    (wSeq (wSet 1 (wCall sp_is_fraction (wACons (wVar 0) wANil)))
    (wRet (wAndV (wIsi .bool (wVar 1)) (wBin eqD (wVar 1) (wCall sp_law_is_frac (wACons (wVar 0) wANil))))))
/-- law(script): slots 0=script 1=d 2=factor 3=n 4=under 5=row 6=k 7=a 8=b 9=turn 10=thing -/
def wb_law (sp_law_begin : SpD) (sp_law_draw : SpD) (sp_law_number : SpD) (sp_law_some : SpD) (sp_law_pick : SpD) (sp_law_is_quotient : SpD) (sp_law_pair_told : SpD) (sp_law_things : SpD) (sp_law_thing_told : SpD) (sp_law_row_told : SpD) (sp_law_rare : SpD) (sp_law_frac : SpD) : WS :=
    (wSeq (wSet 1 (wCall sp_law_begin (wACons (wVar 0) wANil)))
    (wSeq (wSet 2 (wBin addD (wC (.int 1)) (wCall sp_law_draw (wACons (wVar 1) (wACons (wC (.int 6)) wANil)))))
    (wSeq (wPar 3 4 (wBin mulD (wCall sp_law_number (wACons (wVar 1) wANil)) (wVar 2)) (wBin mulD (wCall sp_law_number (wACons (wVar 1) wANil)) (wVar 2)))
    (wSeq (wSet 5 (wLst wANil))
    (wSeq (wFor (wRng (wACons (wBin addD (wC (.int 2)) (wCall sp_law_draw (wACons (wVar 1) (wACons (wC (.int 8)) wANil)))) wANil)) (gN 6) (wDrop (wM appendD (wVar 5) (wACons (wCall sp_law_some (wACons (wVar 1) (wACons (wVar 5) wANil))) wANil))))
    (wSeq (wPar 7 8 (wCall sp_law_pick (wACons (wVar 1) (wACons (wVar 5) wANil))) (wCall sp_law_pick (wACons (wVar 1) (wACons (wVar 5) wANil))))
    (wSeq (wFor (wRng (wACons (wC (.int 2)) wANil)) (gN 9) (wSeq (wIf (wOr (wNot (wB (wCall sp_law_is_quotient (wACons (wC (.bl false)) (wACons (wVar 3) (wACons (wVar 4) (wACons (wVar 3) (wACons (wVar 4) wANil)))))))) (wNot (wB (wCall sp_law_is_quotient (wACons (wC (.bl false)) (wACons (wVar 4) (wACons (wVar 3) (wACons (wVar 4) (wACons (wVar 3) wANil))))))))) (wRet (wC (.bl false))) wNext)
    (wSeq (wIf (wOr (wNot (wB (wCall sp_law_pair_told (wACons (wVar 7) (wACons (wVar 8) wANil))))) (wOr (wNot (wB (wCall sp_law_pair_told (wACons (wVar 8) (wACons (wVar 7) wANil))))) (wNot (wB (wCall sp_law_pair_told (wACons (wVar 7) (wACons (wVar 7) wANil))))))) (wRet (wC (.bl false))) wNext)
    (wSeq (wIf (wNot (wB (wCB allD (wACons (wLc (wIt (wCall sp_law_things (wACons (wVar 1) (wACons (wVar 7) wANil)))) (bN 10) [10] wYes (wCall sp_law_thing_told (wACons (wVar 10) wANil))) wANil)))) (wRet (wC (.bl false))) wNext)
    (wIf (wAnd (wBinT eqD (wVar 9) (wC (.int 0))) (wNot (wB (wCB allD (wACons (wLc (wRng (wACons (wBin addD (wCB lenD (wACons (wVar 5) wANil)) (wC (.int 1))) wANil)) (bN 6) [6] wYes (wCall sp_law_row_told (wACons (wSl (wVar 5) (wOSome (wVar 6)) wONone) wANil))) wANil))))) (wRet (wC (.bl false))) wNext)))))
    (wSeq (wIf (wOr (wNot (wB (wCall sp_law_is_quotient (wACons (wC (.bl true)) (wACons (wVar 7) (wACons (wTup (wACons (wC (.int 0)) (wACons (wC (.int 1)) wANil))) (wACons (wBin ixD (wVar 7) (wC (.int 0))) (wACons (wC (.int 0)) wANil)))))))) (wNot (wB (wCall sp_law_pair_told (wACons (wTup (wACons (wC (.int 0)) (wACons (wC (.int 1)) wANil))) (wACons (wVar 8) wANil)))))) (wRet (wC (.bl false))) wNext)
    (wSeq (wIf (wOr (wNot (wB (wCall sp_law_is_quotient (wACons (wC (.bl false)) (wACons (wVar 3) (wACons (wC (.int 0)) (wACons (wVar 3) (wACons (wC (.int 0)) wANil)))))))) (wNot (wB (wCall sp_law_is_quotient (wACons (wC (.bl false)) (wACons (wVar 3) (wACons (wC (.int 1)) (wACons (wVar 3) (wACons (wC (.int 1)) wANil))))))))) (wRet (wC (.bl false))) wNext)
    (wSeq (wIf (wB (wCall sp_law_rare (wACons (wVar 1) (wACons (wC (.int 12)) wANil)))) (wSet 5 (wLc (wRng (wACons (wBin addD (wC (.int 40)) (wCall sp_law_draw (wACons (wVar 1) (wACons (wC (.int 30)) wANil)))) wANil)) (bN 6) [6] wYes (wCall sp_law_frac (wACons (wBin subD (wCall sp_law_draw (wACons (wVar 1) (wACons (wC (.int 13)) wANil))) (wC (.int 6))) (wACons (wBin addD (wC (.int 1)) (wCall sp_law_draw (wACons (wVar 1) (wACons (wC (.int 12)) wANil)))) wANil))))) wNext)
    (wRet (wCall sp_law_row_told (wACons (wVar 5) wANil)))))))))))))
end K01
end DL

namespace DL
namespace K01
open PySem PySem.Spec PyProof.Rows L2 C
def topS (i : Nat) : Stmt := PySem.Challenge.pw_carriedstakes_k01_fractions.main.body.getD i (.Pass ⟨0, 0, 0, 0⟩)
abbrev s_is_whole : Stmt := topS 15
abbrev s_is_fraction : Stmt := topS 16
abbrev s_fraction : Stmt := topS 17
abbrev s_plus : Stmt := topS 18
abbrev s_minus : Stmt := topS 19
abbrev s_times : Stmt := topS 20
abbrev s_over : Stmt := topS 21
abbrev s_less : Stmt := topS 22
abbrev s_at_most : Stmt := topS 23
abbrev s_shared : Stmt := topS 24
abbrev s_total : Stmt := topS 25
abbrev s_greatest_of : Stmt := topS 26
abbrev s_least_of_all : Stmt := topS 27
abbrev s_law_begin : Stmt := topS 29
abbrev s_law_draw : Stmt := topS 30
abbrev s_law_pick : Stmt := topS 31
abbrev s_law_rare : Stmt := topS 32
abbrev s_law_shuffled : Stmt := topS 33
abbrev s_law_is_int : Stmt := topS 34
abbrev s_law_gcd : Stmt := topS 35
abbrev s_law_frac : Stmt := topS 36
abbrev s_law_is_frac : Stmt := topS 37
abbrev s_law_plus : Stmt := topS 38
abbrev s_law_less : Stmt := topS 39
abbrev s_law_sum : Stmt := topS 40
abbrev s_law_greatest : Stmt := topS 41
abbrev s_law_least : Stmt := topS 42
abbrev s_law_number : Stmt := topS 43
abbrev s_law_some : Stmt := topS 44
abbrev s_law_asked : Stmt := topS 45
abbrev s_law_is : Stmt := topS 46
abbrev s_law_is_quotient : Stmt := topS 47
abbrev s_law_pair_told : Stmt := topS 48
abbrev s_law_shared_told : Stmt := topS 49
abbrev s_law_row_told : Stmt := topS 50
abbrev s_law_things : Stmt := topS 51
abbrev s_law_thing_told : Stmt := topS 52
abbrev s_law : Stmt := topS 53
abbrev s_BadFraction : Stmt := topS 3
def pr_law_asked_0 (K : PySem.W.Frag) (D : Addr) : Prop := EC K D ∧ True
structure Txt (P : Program) (K : PySem.W.Frag) (mg : Str → Option Value) where
  c_AskedTwice : Addr
  m_AskedTwice : mg "AskedTwice" = some (.ref c_AskedTwice)
  c_BadFraction : Addr
  m_BadFraction : mg "BadFraction" = some (.ref c_BadFraction)
  c_BadSign : Addr
  m_BadSign : mg "BadSign" = some (.ref c_BadSign)
  c_BadText : Addr
  m_BadText : mg "BadText" = some (.ref c_BadText)
  c_NotAsked : Addr
  m_NotAsked : mg "NotAsked" = some (.ref c_NotAsked)
  c_NotNamed : Addr
  m_NotNamed : mg "NotNamed" = some (.ref c_NotNamed)
  c_Overspent : Addr
  m_Overspent : mg "Overspent" = some (.ref c_Overspent)
  c_StakesError : Addr
  m_StakesError : mg "StakesError" = some (.ref c_StakesError)
  c_TooDear : Addr
  m_TooDear : mg "TooDear" = some (.ref c_TooDear)
  c_TooMany : Addr
  m_TooMany : mg "TooMany" = some (.ref c_TooMany)
  c_Unfit : Addr
  m_Unfit : mg "Unfit" = some (.ref c_Unfit)
  c_Unkept : Addr
  m_Unkept : mg "Unkept" = some (.ref c_Unkept)
  x_BadFraction : XC0 P K mg "BadFraction" c_BadFraction
  f_is_whole : Addr
  fd_is_whole : FuncData
  F_is_whole : Fun K "is_whole" "is_whole" s_is_whole f_is_whole fd_is_whole
  m_is_whole : mg "is_whole" = some (.ref f_is_whole)
  b_is_whole : Binds K fd_is_whole ["thing"] []
  f_is_fraction : Addr
  fd_is_fraction : FuncData
  F_is_fraction : Fun K "is_fraction" "is_fraction" s_is_fraction f_is_fraction fd_is_fraction
  m_is_fraction : mg "is_fraction" = some (.ref f_is_fraction)
  b_is_fraction : Binds K fd_is_fraction ["thing"] []
  f_fraction : Addr
  fd_fraction : FuncData
  F_fraction : Fun K "fraction" "fraction" s_fraction f_fraction fd_fraction
  m_fraction : mg "fraction" = some (.ref f_fraction)
  b_fraction : Binds K fd_fraction ["n", "d"] []
  f_plus : Addr
  fd_plus : FuncData
  F_plus : Fun K "plus" "plus" s_plus f_plus fd_plus
  m_plus : mg "plus" = some (.ref f_plus)
  b_plus : Binds K fd_plus ["a", "b"] []
  f_minus : Addr
  fd_minus : FuncData
  F_minus : Fun K "minus" "minus" s_minus f_minus fd_minus
  m_minus : mg "minus" = some (.ref f_minus)
  b_minus : Binds K fd_minus ["a", "b"] []
  f_times : Addr
  fd_times : FuncData
  F_times : Fun K "times" "times" s_times f_times fd_times
  m_times : mg "times" = some (.ref f_times)
  b_times : Binds K fd_times ["a", "b"] []
  f_over : Addr
  fd_over : FuncData
  F_over : Fun K "over" "over" s_over f_over fd_over
  m_over : mg "over" = some (.ref f_over)
  b_over : Binds K fd_over ["a", "b"] []
  f_less : Addr
  fd_less : FuncData
  F_less : Fun K "less" "less" s_less f_less fd_less
  m_less : mg "less" = some (.ref f_less)
  b_less : Binds K fd_less ["a", "b"] []
  f_at_most : Addr
  fd_at_most : FuncData
  F_at_most : Fun K "at_most" "at_most" s_at_most f_at_most fd_at_most
  m_at_most : mg "at_most" = some (.ref f_at_most)
  b_at_most : Binds K fd_at_most ["a", "b"] []
  f_shared : Addr
  fd_shared : FuncData
  F_shared : Fun K "shared" "shared" s_shared f_shared fd_shared
  m_shared : mg "shared" = some (.ref f_shared)
  b_shared : Binds K fd_shared ["row"] []
  f_total : Addr
  fd_total : FuncData
  F_total : Fun K "total" "total" s_total f_total fd_total
  m_total : mg "total" = some (.ref f_total)
  b_total : Binds K fd_total ["row"] []
  f_greatest_of : Addr
  fd_greatest_of : FuncData
  F_greatest_of : Fun K "greatest_of" "greatest_of" s_greatest_of f_greatest_of fd_greatest_of
  m_greatest_of : mg "greatest_of" = some (.ref f_greatest_of)
  b_greatest_of : Binds K fd_greatest_of ["row"] []
  f_least_of_all : Addr
  fd_least_of_all : FuncData
  F_least_of_all : Fun K "least_of_all" "least_of_all" s_least_of_all f_least_of_all fd_least_of_all
  m_least_of_all : mg "least_of_all" = some (.ref f_least_of_all)
  b_least_of_all : Binds K fd_least_of_all ["row"] []
  f_law_begin : Addr
  fd_law_begin : FuncData
  F_law_begin : Fun K "_law_begin" "_law_begin" s_law_begin f_law_begin fd_law_begin
  m_law_begin : mg "_law_begin" = some (.ref f_law_begin)
  b_law_begin : Binds K fd_law_begin ["script"] []
  f_law_draw : Addr
  fd_law_draw : FuncData
  F_law_draw : Fun K "_law_draw" "_law_draw" s_law_draw f_law_draw fd_law_draw
  m_law_draw : mg "_law_draw" = some (.ref f_law_draw)
  b_law_draw : Binds K fd_law_draw ["d", "many"] []
  f_law_pick : Addr
  fd_law_pick : FuncData
  F_law_pick : Fun K "_law_pick" "_law_pick" s_law_pick f_law_pick fd_law_pick
  m_law_pick : mg "_law_pick" = some (.ref f_law_pick)
  b_law_pick : Binds K fd_law_pick ["d", "row"] []
  f_law_rare : Addr
  fd_law_rare : FuncData
  F_law_rare : Fun K "_law_rare" "_law_rare" s_law_rare f_law_rare fd_law_rare
  m_law_rare : mg "_law_rare" = some (.ref f_law_rare)
  b_law_rare : Binds K fd_law_rare ["d", "many"] []
  f_law_shuffled : Addr
  fd_law_shuffled : FuncData
  F_law_shuffled : Fun K "_law_shuffled" "_law_shuffled" s_law_shuffled f_law_shuffled fd_law_shuffled
  m_law_shuffled : mg "_law_shuffled" = some (.ref f_law_shuffled)
  b_law_shuffled : Binds K fd_law_shuffled ["d", "row"] []
  f_law_is_int : Addr
  fd_law_is_int : FuncData
  F_law_is_int : Fun K "_law_is_int" "_law_is_int" s_law_is_int f_law_is_int fd_law_is_int
  m_law_is_int : mg "_law_is_int" = some (.ref f_law_is_int)
  b_law_is_int : Binds K fd_law_is_int ["thing"] []
  f_law_gcd : Addr
  fd_law_gcd : FuncData
  F_law_gcd : Fun K "_law_gcd" "_law_gcd" s_law_gcd f_law_gcd fd_law_gcd
  m_law_gcd : mg "_law_gcd" = some (.ref f_law_gcd)
  b_law_gcd : Binds K fd_law_gcd ["a", "b"] []
  f_law_frac : Addr
  fd_law_frac : FuncData
  F_law_frac : Fun K "_law_frac" "_law_frac" s_law_frac f_law_frac fd_law_frac
  m_law_frac : mg "_law_frac" = some (.ref f_law_frac)
  b_law_frac : Binds K fd_law_frac ["n", "d"] []
  f_law_is_frac : Addr
  fd_law_is_frac : FuncData
  F_law_is_frac : Fun K "_law_is_frac" "_law_is_frac" s_law_is_frac f_law_is_frac fd_law_is_frac
  m_law_is_frac : mg "_law_is_frac" = some (.ref f_law_is_frac)
  b_law_is_frac : Binds K fd_law_is_frac ["thing"] []
  f_law_plus : Addr
  fd_law_plus : FuncData
  F_law_plus : Fun K "_law_plus" "_law_plus" s_law_plus f_law_plus fd_law_plus
  m_law_plus : mg "_law_plus" = some (.ref f_law_plus)
  b_law_plus : Binds K fd_law_plus ["a", "b"] []
  f_law_less : Addr
  fd_law_less : FuncData
  F_law_less : Fun K "_law_less" "_law_less" s_law_less f_law_less fd_law_less
  m_law_less : mg "_law_less" = some (.ref f_law_less)
  b_law_less : Binds K fd_law_less ["a", "b"] []
  f_law_sum : Addr
  fd_law_sum : FuncData
  F_law_sum : Fun K "_law_sum" "_law_sum" s_law_sum f_law_sum fd_law_sum
  m_law_sum : mg "_law_sum" = some (.ref f_law_sum)
  b_law_sum : Binds K fd_law_sum ["row"] []
  f_law_greatest : Addr
  fd_law_greatest : FuncData
  F_law_greatest : Fun K "_law_greatest" "_law_greatest" s_law_greatest f_law_greatest fd_law_greatest
  m_law_greatest : mg "_law_greatest" = some (.ref f_law_greatest)
  b_law_greatest : Binds K fd_law_greatest ["row"] []
  f_law_least : Addr
  fd_law_least : FuncData
  F_law_least : Fun K "_law_least" "_law_least" s_law_least f_law_least fd_law_least
  m_law_least : mg "_law_least" = some (.ref f_law_least)
  b_law_least : Binds K fd_law_least ["row"] []
  f_law_number : Addr
  fd_law_number : FuncData
  F_law_number : Fun K "_law_number" "_law_number" s_law_number f_law_number fd_law_number
  m_law_number : mg "_law_number" = some (.ref f_law_number)
  b_law_number : Binds K fd_law_number ["d"] []
  f_law_some : Addr
  fd_law_some : FuncData
  F_law_some : Fun K "_law_some" "_law_some" s_law_some f_law_some fd_law_some
  m_law_some : mg "_law_some" = some (.ref f_law_some)
  b_law_some : Binds K fd_law_some ["d", "row"] []
  f_law_asked : Addr
  fd_law_asked : FuncData
  F_law_asked : Fun K "_law_asked" "_law_asked" s_law_asked f_law_asked fd_law_asked
  m_law_asked : mg "_law_asked" = some (.ref f_law_asked)
  b_law_asked : Binds K fd_law_asked ["is_over", "a", "b"] []
  f_law_is : Addr
  fd_law_is : FuncData
  F_law_is : Fun K "_law_is" "_law_is" s_law_is f_law_is fd_law_is
  m_law_is : mg "_law_is" = some (.ref f_law_is)
  b_law_is : Binds K fd_law_is ["told", "n", "under"] []
  f_law_is_quotient : Addr
  fd_law_is_quotient : FuncData
  F_law_is_quotient : Fun K "_law_is_quotient" "_law_is_quotient" s_law_is_quotient f_law_is_quotient fd_law_is_quotient
  m_law_is_quotient : mg "_law_is_quotient" = some (.ref f_law_is_quotient)
  b_law_is_quotient : Binds K fd_law_is_quotient ["is_over", "a", "b", "n", "under"] []
  f_law_pair_told : Addr
  fd_law_pair_told : FuncData
  F_law_pair_told : Fun K "_law_pair_told" "_law_pair_told" s_law_pair_told f_law_pair_told fd_law_pair_told
  m_law_pair_told : mg "_law_pair_told" = some (.ref f_law_pair_told)
  b_law_pair_told : Binds K fd_law_pair_told ["a", "b"] []
  f_law_shared_told : Addr
  fd_law_shared_told : FuncData
  F_law_shared_told : Fun K "_law_shared_told" "_law_shared_told" s_law_shared_told f_law_shared_told fd_law_shared_told
  m_law_shared_told : mg "_law_shared_told" = some (.ref f_law_shared_told)
  b_law_shared_told : Binds K fd_law_shared_told ["row"] []
  f_law_row_told : Addr
  fd_law_row_told : FuncData
  F_law_row_told : Fun K "_law_row_told" "_law_row_told" s_law_row_told f_law_row_told fd_law_row_told
  m_law_row_told : mg "_law_row_told" = some (.ref f_law_row_told)
  b_law_row_told : Binds K fd_law_row_told ["row"] []
  f_law_things : Addr
  fd_law_things : FuncData
  F_law_things : Fun K "_law_things" "_law_things" s_law_things f_law_things fd_law_things
  m_law_things : mg "_law_things" = some (.ref f_law_things)
  b_law_things : Binds K fd_law_things ["d", "one"] []
  f_law_thing_told : Addr
  fd_law_thing_told : FuncData
  F_law_thing_told : Fun K "_law_thing_told" "_law_thing_told" s_law_thing_told f_law_thing_told fd_law_thing_told
  m_law_thing_told : mg "_law_thing_told" = some (.ref f_law_thing_told)
  b_law_thing_told : Binds K fd_law_thing_told ["thing"] []
  f_law : Addr
  fd_law : FuncData
  F_law : Fun K "law" "law" s_law f_law fd_law
  m_law : mg "law" = some (.ref f_law)
  b_law : Binds K fd_law ["script"] []
  z_ValueError : mg "ValueError" = none
  z_abs : mg "abs" = none
  z_all : mg "all" = none
  z_bool : mg "bool" = none
  g_gcd : mg "gcd" = some (.builtin "math.gcd")
  z_int : mg "int" = none
  z_isinstance : mg "isinstance" = none
  z_len : mg "len" = none
  z_list : mg "list" = none
  z_range : mg "range" = none
  z_sum : mg "sum" = none
  z_tuple : mg "tuple" = none
section
variable {P : Program} {w : World} {K : PySem.W.Frag} {mg : Str → Option Value} {base : Heap}
theorem sc_is_whole : FnScope ["thing"] ["thing"] (defScope s_is_whole) := ⟨rfl, rfl, rfl, by decide +kernel, rfl, by decide +kernel, by decide +kernel⟩
theorem ok_is_whole (T : Txt P K mg) {S : SpD} (len : ∀ ds st R Rx, S ds st R Rx → ds.length = 1) (read : ∀ ds st R Rx, S ds st R Rx → wb_is_whole (bodyEd R Rx) (startD 1 ds) st) : FnD P w K mg base 1 T.f_is_whole T.fd_is_whole ["thing"] S :=
  fn_D T.F_is_whole sc_is_whole len (fun cdv A outer s H E hr tk hp => have nd : (["thing"] : List Str).Nodup := sc_is_whole.nd
    (jss_one (js_ret (je_and (j_isi .int T.z_isinstance T.z_int (by decide +kernel) (jv 0)) (je_one (je_not (j_isi .bool T.z_isinstance T.z_bool (by decide +kernel) (jv 0)))))))) read
theorem sc_is_fraction : FnScope ["thing"] ["thing"] (defScope s_is_fraction) := ⟨rfl, rfl, rfl, by decide +kernel, rfl, by decide +kernel, by decide +kernel⟩
theorem ok_is_fraction (T : Txt P K mg) {sp_is_whole : SpD} (h_is_whole : FnD P w K mg base 1 T.f_is_whole T.fd_is_whole ["thing"] sp_is_whole) {S : SpD} (len : ∀ ds st R Rx, S ds st R Rx → ds.length = 1) (read : ∀ ds st R Rx, S ds st R Rx → wb_is_fraction sp_is_whole (bodyEd R Rx) (startD 1 ds) st) : FnD P w K mg base 2 T.f_is_fraction T.fd_is_fraction ["thing"] S :=
  fn_D T.F_is_fraction sc_is_fraction len (fun cdv A outer s H E hr tk hp => have nd : (["thing"] : List Str).Nodup := sc_is_fraction.nd
    (jss_cons (js_if (jw_t (jw_or (jt_not (jt_val (j_isi .tup T.z_isinstance T.z_tuple (by decide +kernel) (jv 0)))) (jw_or1 (jt_ne hr (j_len T.z_len (ja_cons (jv 0) ja_nil)) ji)))) (jss_one (js_ret jb)) jss_nil)
    (jss_cons (js_if (jw_t (jw_or (jt_not (jt_val (j_call h_is_whole (hr.mono (by decide)) T.m_is_whole T.F_is_whole.kp T.b_is_whole tk (ja_cons (j_ix (jv 0) ji) ja_nil)))) (jw_or1 (jt_not (jt_val (j_call h_is_whole (hr.mono (by decide)) T.m_is_whole T.F_is_whole.kp T.b_is_whole tk (ja_cons (j_ix (jv 0) ji) ja_nil))))))) (jss_one (js_ret jb)) jss_nil)
    (jss_one (js_ret (je_and (jc_ge (j_ix (jv 0) ji) ji) (je_one (jc_eq hr (j_gcd T.g_gcd (ja_cons (j_ix (jv 0) ji) (ja_cons (j_ix (jv 0) ji) ja_nil))) ji)))))))) read
theorem sc_fraction : FnScope ["n", "d", "common"] ["n", "d"] (defScope s_fraction) := ⟨rfl, rfl, rfl, by decide +kernel, rfl, by decide +kernel, by decide +kernel⟩
theorem ok_fraction (T : Txt P K mg) {S : SpD} (len : ∀ ds st R Rx, S ds st R Rx → ds.length = 2) (read : ∀ ds st R Rx, S ds st R Rx → wb_fraction T.c_BadFraction (bodyEd R Rx) (startD 3 ds) st) : FnD P w K mg base 2 T.f_fraction T.fd_fraction ["n", "d"] S :=
  fn_D T.F_fraction sc_fraction len (fun cdv A outer s H E hr tk hp => have nd : (["n", "d", "common"] : List Str).Nodup := sc_fraction.nd
    (jss_cons (js_if (jt_eq hr (jv 1) ji) (jss_one (js_raise0 (k := 0) tk T.x_BadFraction (hr.mono (by decide)))) jss_nil)
    (jss_cons (js_if (jt_lt (jv 1) ji) (jss_one (js_par (i := 0) (j := 1) nd (je_neg (jv 0)) (je_neg (jv 1)))) jss_nil)
    (jss_cons (js_set (i := 2) nd (j_gcd T.g_gcd (ja_cons (jv 0) (ja_cons (jv 1) ja_nil))))
    (jss_one (js_ret (je_tup (ja_cons (j_div (jv 0) (jv 2)) (ja_cons (j_div (jv 1) (jv 2)) ja_nil))))))))) read
theorem sc_plus : FnScope ["a", "b"] ["a", "b"] (defScope s_plus) := ⟨rfl, rfl, rfl, by decide +kernel, rfl, by decide +kernel, by decide +kernel⟩
theorem ok_plus (T : Txt P K mg) {sp_fraction : SpD} (h_fraction : FnD P w K mg base 2 T.f_fraction T.fd_fraction ["n", "d"] sp_fraction) {S : SpD} (len : ∀ ds st R Rx, S ds st R Rx → ds.length = 2) (read : ∀ ds st R Rx, S ds st R Rx → wb_plus sp_fraction (bodyEd R Rx) (startD 2 ds) st) : FnD P w K mg base 3 T.f_plus T.fd_plus ["a", "b"] S :=
  fn_D T.F_plus sc_plus len (fun cdv A outer s H E hr tk hp => have nd : (["a", "b"] : List Str).Nodup := sc_plus.nd
    (jss_one (js_ret (j_call h_fraction (hr.mono (by decide)) T.m_fraction T.F_fraction.kp T.b_fraction tk (ja_cons (j_add (j_mul (j_ix (jv 0) ji) (j_ix (jv 1) ji)) (j_mul (j_ix (jv 1) ji) (j_ix (jv 0) ji))) (ja_cons (j_mul (j_ix (jv 0) ji) (j_ix (jv 1) ji)) ja_nil)))))) read
theorem sc_minus : FnScope ["a", "b"] ["a", "b"] (defScope s_minus) := ⟨rfl, rfl, rfl, by decide +kernel, rfl, by decide +kernel, by decide +kernel⟩
theorem ok_minus (T : Txt P K mg) {sp_fraction : SpD} (h_fraction : FnD P w K mg base 2 T.f_fraction T.fd_fraction ["n", "d"] sp_fraction) {S : SpD} (len : ∀ ds st R Rx, S ds st R Rx → ds.length = 2) (read : ∀ ds st R Rx, S ds st R Rx → wb_minus sp_fraction (bodyEd R Rx) (startD 2 ds) st) : FnD P w K mg base 3 T.f_minus T.fd_minus ["a", "b"] S :=
  fn_D T.F_minus sc_minus len (fun cdv A outer s H E hr tk hp => have nd : (["a", "b"] : List Str).Nodup := sc_minus.nd
    (jss_one (js_ret (j_call h_fraction (hr.mono (by decide)) T.m_fraction T.F_fraction.kp T.b_fraction tk (ja_cons (j_sub (j_mul (j_ix (jv 0) ji) (j_ix (jv 1) ji)) (j_mul (j_ix (jv 1) ji) (j_ix (jv 0) ji))) (ja_cons (j_mul (j_ix (jv 0) ji) (j_ix (jv 1) ji)) ja_nil)))))) read
theorem sc_times : FnScope ["a", "b"] ["a", "b"] (defScope s_times) := ⟨rfl, rfl, rfl, by decide +kernel, rfl, by decide +kernel, by decide +kernel⟩
theorem ok_times (T : Txt P K mg) {sp_fraction : SpD} (h_fraction : FnD P w K mg base 2 T.f_fraction T.fd_fraction ["n", "d"] sp_fraction) {S : SpD} (len : ∀ ds st R Rx, S ds st R Rx → ds.length = 2) (read : ∀ ds st R Rx, S ds st R Rx → wb_times sp_fraction (bodyEd R Rx) (startD 2 ds) st) : FnD P w K mg base 3 T.f_times T.fd_times ["a", "b"] S :=
  fn_D T.F_times sc_times len (fun cdv A outer s H E hr tk hp => have nd : (["a", "b"] : List Str).Nodup := sc_times.nd
    (jss_one (js_ret (j_call h_fraction (hr.mono (by decide)) T.m_fraction T.F_fraction.kp T.b_fraction tk (ja_cons (j_mul (j_ix (jv 0) ji) (j_ix (jv 1) ji)) (ja_cons (j_mul (j_ix (jv 0) ji) (j_ix (jv 1) ji)) ja_nil)))))) read
theorem sc_over : FnScope ["a", "b"] ["a", "b"] (defScope s_over) := ⟨rfl, rfl, rfl, by decide +kernel, rfl, by decide +kernel, by decide +kernel⟩
theorem ok_over (T : Txt P K mg) {sp_fraction : SpD} (h_fraction : FnD P w K mg base 2 T.f_fraction T.fd_fraction ["n", "d"] sp_fraction) {S : SpD} (len : ∀ ds st R Rx, S ds st R Rx → ds.length = 2) (read : ∀ ds st R Rx, S ds st R Rx → wb_over sp_fraction (bodyEd R Rx) (startD 2 ds) st) : FnD P w K mg base 3 T.f_over T.fd_over ["a", "b"] S :=
  fn_D T.F_over sc_over len (fun cdv A outer s H E hr tk hp => have nd : (["a", "b"] : List Str).Nodup := sc_over.nd
    (jss_one (js_ret (j_call h_fraction (hr.mono (by decide)) T.m_fraction T.F_fraction.kp T.b_fraction tk (ja_cons (j_mul (j_ix (jv 0) ji) (j_ix (jv 1) ji)) (ja_cons (j_mul (j_ix (jv 0) ji) (j_ix (jv 1) ji)) ja_nil)))))) read
theorem sc_less : FnScope ["a", "b"] ["a", "b"] (defScope s_less) := ⟨rfl, rfl, rfl, by decide +kernel, rfl, by decide +kernel, by decide +kernel⟩
theorem ok_less (T : Txt P K mg) {S : SpD} (len : ∀ ds st R Rx, S ds st R Rx → ds.length = 2) (read : ∀ ds st R Rx, S ds st R Rx → wb_less (bodyEd R Rx) (startD 2 ds) st) : FnD P w K mg base 1 T.f_less T.fd_less ["a", "b"] S :=
  fn_D T.F_less sc_less len (fun cdv A outer s H E hr tk hp => have nd : (["a", "b"] : List Str).Nodup := sc_less.nd
    (jss_one (js_ret (jc_lt (j_mul (j_ix (jv 0) ji) (j_ix (jv 1) ji)) (j_mul (j_ix (jv 1) ji) (j_ix (jv 0) ji)))))) read
theorem sc_at_most : FnScope ["a", "b"] ["a", "b"] (defScope s_at_most) := ⟨rfl, rfl, rfl, by decide +kernel, rfl, by decide +kernel, by decide +kernel⟩
theorem ok_at_most (T : Txt P K mg) {S : SpD} (len : ∀ ds st R Rx, S ds st R Rx → ds.length = 2) (read : ∀ ds st R Rx, S ds st R Rx → wb_at_most (bodyEd R Rx) (startD 2 ds) st) : FnD P w K mg base 1 T.f_at_most T.fd_at_most ["a", "b"] S :=
  fn_D T.F_at_most sc_at_most len (fun cdv A outer s H E hr tk hp => have nd : (["a", "b"] : List Str).Nodup := sc_at_most.nd
    (jss_one (js_ret (jc_le (j_mul (j_ix (jv 0) ji) (j_ix (jv 1) ji)) (j_mul (j_ix (jv 1) ji) (j_ix (jv 0) ji)))))) read
theorem sc_shared : FnScope ["row", "bottom", "top", "under"] ["row"] (defScope s_shared) := ⟨rfl, rfl, rfl, by decide +kernel, rfl, by decide +kernel, by decide +kernel⟩
theorem ok_shared (T : Txt P K mg) {S : SpD} (len : ∀ ds st R Rx, S ds st R Rx → ds.length = 1) (read : ∀ ds st R Rx, S ds st R Rx → wb_shared (bodyEd R Rx) (startD 4 ds) st) : FnD P w K mg base 1 T.f_shared T.fd_shared ["row"] S :=
  fn_D T.F_shared sc_shared len (fun cdv A outer s H E hr tk hp => have nd : (["row", "bottom", "top", "under"] : List Str).Nodup := sc_shared.nd
    (jss_cons (js_set (i := 1) nd ji)
    (jss_cons (js_for hp (jit (jv 0)) (jg_tup (jgs_cons (jg_name (i := 2) nd) (jgs_cons (jg_name (i := 3) nd) jgs_nil))) (jss_one (js_set (i := 1) nd (j_mul (j_div (jv 1) (j_gcd T.g_gcd (ja_cons (jv 1) (ja_cons (jv 3) ja_nil)))) (jv 3)))))
    (jss_one (js_ret (je_tup (ja_cons (j_tuple T.z_tuple (ja_cons (je_lc (own := [("top", 2), ("under", 3)]) nd (jit (jv 0)) (by kernel_rfl) (bind_tup (is := [2, 3]) (by decide)) (fun _ _ _ _ _ => pg_tup rfl (pgs_cons (pg_name (i := 2) nd rfl (by first | exact Or.inl rfl | exact Or.inr rfl)) (pgs_cons (pg_name (i := 3) nd rfl (by first | exact Or.inl rfl | exact Or.inr rfl)) pgs_nil))) (fun _ _ _ _ _ => jts_nil) (fun _ _ _ _ _ => (j_mul (jv 2) (j_div (jv 1) (jv 3))))) ja_nil)) (ja_cons (jv 1) ja_nil)))))))) read
theorem sc_total : FnScope ["row", "tops", "bottom"] ["row"] (defScope s_total) := ⟨rfl, rfl, rfl, by decide +kernel, rfl, by decide +kernel, by decide +kernel⟩
theorem ok_total (T : Txt P K mg) {sp_shared : SpD} (h_shared : FnD P w K mg base 1 T.f_shared T.fd_shared ["row"] sp_shared) {sp_fraction : SpD} (h_fraction : FnD P w K mg base 2 T.f_fraction T.fd_fraction ["n", "d"] sp_fraction) {S : SpD} (len : ∀ ds st R Rx, S ds st R Rx → ds.length = 1) (read : ∀ ds st R Rx, S ds st R Rx → wb_total sp_shared sp_fraction (bodyEd R Rx) (startD 3 ds) st) : FnD P w K mg base 3 T.f_total T.fd_total ["row"] S :=
  fn_D T.F_total sc_total len (fun cdv A outer s H E hr tk hp => have nd : (["row", "tops", "bottom"] : List Str).Nodup := sc_total.nd
    (jss_cons (js_asg (j_call h_shared (hr.mono (by decide)) T.m_shared T.F_shared.kp T.b_shared tk (ja_cons (jv 0) ja_nil)) (jg_tup (jgs_cons (jg_name (i := 1) nd) (jgs_cons (jg_name (i := 2) nd) jgs_nil))))
    (jss_one (js_ret (j_call h_fraction (hr.mono (by decide)) T.m_fraction T.F_fraction.kp T.b_fraction tk (ja_cons (j_sumA T.z_sum (ja_cons (jv 1) ja_nil)) (ja_cons (jv 2) ja_nil))))))) read
theorem sc_greatest_of : FnScope ["row", "best", "one"] ["row"] (defScope s_greatest_of) := ⟨rfl, rfl, rfl, by decide +kernel, rfl, by decide +kernel, by decide +kernel⟩
theorem ok_greatest_of (T : Txt P K mg) {sp_less : SpD} (h_less : FnD P w K mg base 1 T.f_less T.fd_less ["a", "b"] sp_less) {S : SpD} (len : ∀ ds st R Rx, S ds st R Rx → ds.length = 1) (read : ∀ ds st R Rx, S ds st R Rx → wb_greatest_of sp_less (bodyEd R Rx) (startD 3 ds) st) : FnD P w K mg base 2 T.f_greatest_of T.fd_greatest_of ["row"] S :=
  fn_D T.F_greatest_of sc_greatest_of len (fun cdv A outer s H E hr tk hp => have nd : (["row", "best", "one"] : List Str).Nodup := sc_greatest_of.nd
    (jss_cons (js_set (i := 1) nd (j_ix (jv 0) ji))
    (jss_cons (js_for hp (jit (jv 0)) (jg_name (i := 2) nd) (jss_one (js_if (jt_val (j_call h_less (hr.mono (by decide)) T.m_less T.F_less.kp T.b_less tk (ja_cons (jv 1) (ja_cons (jv 2) ja_nil)))) (jss_one (js_set (i := 1) nd (jv 2))) jss_nil)))
    (jss_one (js_ret (jv 1)))))) read
theorem sc_least_of_all : FnScope ["row", "best", "one"] ["row"] (defScope s_least_of_all) := ⟨rfl, rfl, rfl, by decide +kernel, rfl, by decide +kernel, by decide +kernel⟩
theorem ok_least_of_all (T : Txt P K mg) {sp_less : SpD} (h_less : FnD P w K mg base 1 T.f_less T.fd_less ["a", "b"] sp_less) {S : SpD} (len : ∀ ds st R Rx, S ds st R Rx → ds.length = 1) (read : ∀ ds st R Rx, S ds st R Rx → wb_least_of_all sp_less (bodyEd R Rx) (startD 3 ds) st) : FnD P w K mg base 2 T.f_least_of_all T.fd_least_of_all ["row"] S :=
  fn_D T.F_least_of_all sc_least_of_all len (fun cdv A outer s H E hr tk hp => have nd : (["row", "best", "one"] : List Str).Nodup := sc_least_of_all.nd
    (jss_cons (js_set (i := 1) nd (j_ix (jv 0) ji))
    (jss_cons (js_for hp (jit (jv 0)) (jg_name (i := 2) nd) (jss_one (js_if (jt_val (j_call h_less (hr.mono (by decide)) T.m_less T.F_less.kp T.b_less tk (ja_cons (jv 2) (ja_cons (jv 1) ja_nil)))) (jss_one (js_set (i := 1) nd (jv 2))) jss_nil)))
    (jss_one (js_ret (jv 1)))))) read
theorem sc_law_begin : FnScope ["script", "cell"] ["script"] (defScope s_law_begin) := ⟨rfl, rfl, rfl, by decide +kernel, rfl, by decide +kernel, by decide +kernel⟩
theorem ok_law_begin (T : Txt P K mg) {S : SpD} (len : ∀ ds st R Rx, S ds st R Rx → ds.length = 1) (read : ∀ ds st R Rx, S ds st R Rx → wb_law_begin (bodyEd R Rx) (startD 2 ds) st) : FnD P w K mg base 1 T.f_law_begin T.fd_law_begin ["script"] S :=
  fn_D T.F_law_begin sc_law_begin len (fun cdv A outer s H E hr tk hp => have nd : (["script", "cell"] : List Str).Nodup := sc_law_begin.nd
    (jss_one (js_ret (je_lst (ja_cons (je_lc (own := [("cell", 1)]) nd (jit (jv 0)) (by kernel_rfl) (bind_name (i := 1) (by decide)) (fun _ _ _ _ _ => pg_name (i := 1) nd rfl (by first | exact Or.inl rfl | exact Or.inr rfl)) (fun _ _ _ _ _ => jts_nil) (fun _ _ _ _ _ => (j_int T.z_int (ja_cons (jv 1) ja_nil)))) (ja_cons ji (ja_cons ji (ja_cons ji ja_nil)))))))) read
theorem sc_law_draw : FnScope ["d", "many", "found", "size", "cell"] ["d", "many"] (defScope s_law_draw) := ⟨rfl, rfl, rfl, by decide +kernel, rfl, by decide +kernel, by decide +kernel⟩
theorem ok_law_draw (T : Txt P K mg) {S : SpD} (len : ∀ ds st R Rx, S ds st R Rx → ds.length = 2) (read : ∀ ds st R Rx, S ds st R Rx → wb_law_draw (bodyEd R Rx) (startD 5 ds) st) : FnD P w K mg base 1 T.f_law_draw T.fd_law_draw ["d", "many"] S :=
  fn_D T.F_law_draw sc_law_draw len (fun cdv A outer s H E hr tk hp => have nd : (["d", "many", "found", "size", "cell"] : List Str).Nodup := sc_law_draw.nd
    (jss_cons (js_if (jt_gt (j_ix (jv 0) ji) ji) (jss_cons (js_set (i := 2) nd (j_ix (jv 0) ji))
    (jss_cons (js_asg (j_div (jv 2) (jv 1)) (jg_ix (jv 0) ji))
    (jss_one (js_ret (j_mod (j_int T.z_int (ja_cons (jv 2) ja_nil)) (jv 1)))))) jss_nil)
    (jss_cons (js_set (i := 3) nd ji)
    (jss_cons (js_if (jt_lt (j_ix (jv 0) ji) (j_len T.z_len (ja_cons (j_ix (jv 0) ji) ja_nil))) (jss_cons (js_set (i := 4) nd (j_ix (j_ix (jv 0) ji) (j_ix (jv 0) ji)))
    (jss_one (js_set (i := 3) nd (j_add (j_mul ji (j_abs T.z_abs (ja_cons (jv 4) ja_nil))) (j_int T.z_int (ja_cons (jc_lt (jv 4) ji) ja_nil)))))) jss_nil)
    (jss_cons (js_augix (jv 0) ji iop_addA sim_iadd ji)
    (jss_cons (js_if (jt_ge (jv 3) (j_mul ji (j_pow ji ji))) (jss_cons (js_set (i := 2) nd (j_mod (j_int T.z_int (ja_cons (j_div (jv 3) ji) ja_nil)) (j_shl ji ji)))
    (jss_cons (js_asg (j_div (jv 2) (jv 1)) (jg_ix (jv 0) ji))
    (jss_one (js_ret (j_mod (j_int T.z_int (ja_cons (jv 2) ja_nil)) (jv 1)))))) jss_nil)
    (jss_cons (js_asg (j_mod (j_int T.z_int (ja_cons (j_add (j_add (j_add (j_mul (j_ix (jv 0) ji) ji) (j_mul (j_mod (j_int T.z_int (ja_cons (jv 3) ja_nil)) ji) ji)) (j_mul (j_ix (jv 0) ji) ji)) ji) ja_nil)) ji) (jg_ix (jv 0) ji))
    (jss_one (js_ret (j_mod (j_int T.z_int (ja_cons (j_div (j_ix (jv 0) ji) ji) ja_nil)) (jv 1))))))))))) read
theorem sc_law_pick : FnScope ["d", "row"] ["d", "row"] (defScope s_law_pick) := ⟨rfl, rfl, rfl, by decide +kernel, rfl, by decide +kernel, by decide +kernel⟩
theorem ok_law_pick (T : Txt P K mg) {sp_law_draw : SpD} (h_law_draw : FnD P w K mg base 1 T.f_law_draw T.fd_law_draw ["d", "many"] sp_law_draw) {S : SpD} (len : ∀ ds st R Rx, S ds st R Rx → ds.length = 2) (read : ∀ ds st R Rx, S ds st R Rx → wb_law_pick sp_law_draw (bodyEd R Rx) (startD 2 ds) st) : FnD P w K mg base 2 T.f_law_pick T.fd_law_pick ["d", "row"] S :=
  fn_D T.F_law_pick sc_law_pick len (fun cdv A outer s H E hr tk hp => have nd : (["d", "row"] : List Str).Nodup := sc_law_pick.nd
    (jss_one (js_ret (j_ix (jv 1) (j_call h_law_draw (hr.mono (by decide)) T.m_law_draw T.F_law_draw.kp T.b_law_draw tk (ja_cons (jv 0) (ja_cons (j_len T.z_len (ja_cons (jv 1) ja_nil)) ja_nil))))))) read
theorem sc_law_rare : FnScope ["d", "many"] ["d", "many"] (defScope s_law_rare) := ⟨rfl, rfl, rfl, by decide +kernel, rfl, by decide +kernel, by decide +kernel⟩
theorem ok_law_rare (T : Txt P K mg) {sp_law_draw : SpD} (h_law_draw : FnD P w K mg base 1 T.f_law_draw T.fd_law_draw ["d", "many"] sp_law_draw) {S : SpD} (len : ∀ ds st R Rx, S ds st R Rx → ds.length = 2) (read : ∀ ds st R Rx, S ds st R Rx → wb_law_rare sp_law_draw (bodyEd R Rx) (startD 2 ds) st) : FnD P w K mg base 2 T.f_law_rare T.fd_law_rare ["d", "many"] S :=
  fn_D T.F_law_rare sc_law_rare len (fun cdv A outer s H E hr tk hp => have nd : (["d", "many"] : List Str).Nodup := sc_law_rare.nd
    (jss_one (js_ret (jc_eq hr (j_call h_law_draw (hr.mono (by decide)) T.m_law_draw T.F_law_draw.kp T.b_law_draw tk (ja_cons (jv 0) (ja_cons (jv 1) ja_nil))) (j_div (jv 1) ji))))) read
theorem sc_law_shuffled : FnScope ["d", "row", "left", "found", "k"] ["d", "row"] (defScope s_law_shuffled) := ⟨rfl, rfl, rfl, by decide +kernel, rfl, by decide +kernel, by decide +kernel⟩
theorem ok_law_shuffled (T : Txt P K mg) {sp_law_draw : SpD} (h_law_draw : FnD P w K mg base 1 T.f_law_draw T.fd_law_draw ["d", "many"] sp_law_draw) {S : SpD} (len : ∀ ds st R Rx, S ds st R Rx → ds.length = 2) (read : ∀ ds st R Rx, S ds st R Rx → wb_law_shuffled sp_law_draw (bodyEd R Rx) (startD 5 ds) st) : FnD P w K mg base 2 T.f_law_shuffled T.fd_law_shuffled ["d", "row"] S :=
  fn_D T.F_law_shuffled sc_law_shuffled len (fun cdv A outer s H E hr tk hp => have nd : (["d", "row", "left", "found", "k"] : List Str).Nodup := sc_law_shuffled.nd
    (jss_cons (js_set (i := 2) nd (j_list T.z_list (ja_cons (jv 1) ja_nil)))
    (jss_cons (js_set (i := 3) nd (je_lst ja_nil))
    (jss_cons (js_for hp (jir1 T.z_range (ja_cons (j_len T.z_len (ja_cons (jv 2) ja_nil)) ja_nil)) (jg_name (i := 4) nd) (jss_one (js_expr (j_append (jv 3) (ja_cons (j_popAt (jv 2) (ja_cons (j_call h_law_draw (hr.mono (by decide)) T.m_law_draw T.F_law_draw.kp T.b_law_draw tk (ja_cons (jv 0) (ja_cons (j_len T.z_len (ja_cons (jv 2) ja_nil)) ja_nil))) ja_nil)) ja_nil)))))
    (jss_one (js_ret (jv 3))))))) read
theorem sc_law_is_int : FnScope ["thing"] ["thing"] (defScope s_law_is_int) := ⟨rfl, rfl, rfl, by decide +kernel, rfl, by decide +kernel, by decide +kernel⟩
theorem ok_law_is_int (T : Txt P K mg) {S : SpD} (len : ∀ ds st R Rx, S ds st R Rx → ds.length = 1) (read : ∀ ds st R Rx, S ds st R Rx → wb_law_is_int (bodyEd R Rx) (startD 1 ds) st) : FnD P w K mg base 1 T.f_law_is_int T.fd_law_is_int ["thing"] S :=
  fn_D T.F_law_is_int sc_law_is_int len (fun cdv A outer s H E hr tk hp => have nd : (["thing"] : List Str).Nodup := sc_law_is_int.nd
    (jss_one (js_ret (je_and (j_isi .int T.z_isinstance T.z_int (by decide +kernel) (jv 0)) (je_one (je_not (j_isi .bool T.z_isinstance T.z_bool (by decide +kernel) (jv 0)))))))) read
theorem sc_law_gcd : FnScope ["a", "b"] ["a", "b"] (defScope s_law_gcd) := ⟨rfl, rfl, rfl, by decide +kernel, rfl, by decide +kernel, by decide +kernel⟩
theorem ok_law_gcd (T : Txt P K mg) {S : SpD} (len : ∀ ds st R Rx, S ds st R Rx → ds.length = 2) (read : ∀ ds st R Rx, S ds st R Rx → wb_law_gcd (bodyEd R Rx) (startD 2 ds) st) : FnD P w K mg base 1 T.f_law_gcd T.fd_law_gcd ["a", "b"] S :=
  fn_D T.F_law_gcd sc_law_gcd len (fun cdv A outer s H E hr tk hp => have nd : (["a", "b"] : List Str).Nodup := sc_law_gcd.nd
    (jss_cons (js_par (i := 0) (j := 1) nd (j_abs T.z_abs (ja_cons (jv 0) ja_nil)) (j_abs T.z_abs (ja_cons (jv 1) ja_nil)))
    (jss_cons (js_while hp (jt_ne hr (jv 1) ji) (jss_one (js_par (i := 0) (j := 1) nd (jv 1) (j_mod (j_int T.z_int (ja_cons (jv 0) ja_nil)) (jv 1)))))
    (jss_one (js_ret (jv 0)))))) read
theorem sc_law_frac : FnScope ["n", "d", "common"] ["n", "d"] (defScope s_law_frac) := ⟨rfl, rfl, rfl, by decide +kernel, rfl, by decide +kernel, by decide +kernel⟩
theorem ok_law_frac (T : Txt P K mg) {sp_law_gcd : SpD} (h_law_gcd : FnD P w K mg base 1 T.f_law_gcd T.fd_law_gcd ["a", "b"] sp_law_gcd) {S : SpD} (len : ∀ ds st R Rx, S ds st R Rx → ds.length = 2) (read : ∀ ds st R Rx, S ds st R Rx → wb_law_frac sp_law_gcd (bodyEd R Rx) (startD 3 ds) st) : FnD P w K mg base 2 T.f_law_frac T.fd_law_frac ["n", "d"] S :=
  fn_D T.F_law_frac sc_law_frac len (fun cdv A outer s H E hr tk hp => have nd : (["n", "d", "common"] : List Str).Nodup := sc_law_frac.nd
    (jss_cons (js_if (jt_lt (jv 1) ji) (jss_one (js_par (i := 0) (j := 1) nd (je_neg (jv 0)) (je_neg (jv 1)))) jss_nil)
    (jss_cons (js_set (i := 2) nd (j_call h_law_gcd (hr.mono (by decide)) T.m_law_gcd T.F_law_gcd.kp T.b_law_gcd tk (ja_cons (jv 0) (ja_cons (jv 1) ja_nil))))
    (jss_one (js_ret (je_tup (ja_cons (j_div (jv 0) (jv 2)) (ja_cons (j_div (jv 1) (jv 2)) ja_nil)))))))) read
theorem sc_law_is_frac : FnScope ["thing"] ["thing"] (defScope s_law_is_frac) := ⟨rfl, rfl, rfl, by decide +kernel, rfl, by decide +kernel, by decide +kernel⟩
theorem ok_law_is_frac (T : Txt P K mg) {sp_law_is_int : SpD} (h_law_is_int : FnD P w K mg base 1 T.f_law_is_int T.fd_law_is_int ["thing"] sp_law_is_int) {sp_law_gcd : SpD} (h_law_gcd : FnD P w K mg base 1 T.f_law_gcd T.fd_law_gcd ["a", "b"] sp_law_gcd) {S : SpD} (len : ∀ ds st R Rx, S ds st R Rx → ds.length = 1) (read : ∀ ds st R Rx, S ds st R Rx → wb_law_is_frac sp_law_is_int sp_law_gcd (bodyEd R Rx) (startD 1 ds) st) : FnD P w K mg base 2 T.f_law_is_frac T.fd_law_is_frac ["thing"] S :=
  fn_D T.F_law_is_frac sc_law_is_frac len (fun cdv A outer s H E hr tk hp => have nd : (["thing"] : List Str).Nodup := sc_law_is_frac.nd
    (jss_cons (js_if (jw_t (jw_or (jt_not (jt_val (j_isi .tup T.z_isinstance T.z_tuple (by decide +kernel) (jv 0)))) (jw_or1 (jt_ne hr (j_len T.z_len (ja_cons (jv 0) ja_nil)) ji)))) (jss_one (js_ret jb)) jss_nil)
    (jss_cons (js_if (jt_not (jw_t (jw_and (jt_val (j_call h_law_is_int (hr.mono (by decide)) T.m_law_is_int T.F_law_is_int.kp T.b_law_is_int tk (ja_cons (j_ix (jv 0) ji) ja_nil))) (jw_and1 (jt_val (j_call h_law_is_int (hr.mono (by decide)) T.m_law_is_int T.F_law_is_int.kp T.b_law_is_int tk (ja_cons (j_ix (jv 0) ji) ja_nil))))))) (jss_one (js_ret jb)) jss_nil)
    (jss_one (js_ret (je_and (jc_ge (j_ix (jv 0) ji) ji) (je_one (jc_eq hr (j_call h_law_gcd (hr.mono (by decide)) T.m_law_gcd T.F_law_gcd.kp T.b_law_gcd tk (ja_cons (j_ix (jv 0) ji) (ja_cons (j_ix (jv 0) ji) ja_nil))) ji)))))))) read
theorem sc_law_plus : FnScope ["a", "b"] ["a", "b"] (defScope s_law_plus) := ⟨rfl, rfl, rfl, by decide +kernel, rfl, by decide +kernel, by decide +kernel⟩
theorem ok_law_plus (T : Txt P K mg) {sp_law_frac : SpD} (h_law_frac : FnD P w K mg base 2 T.f_law_frac T.fd_law_frac ["n", "d"] sp_law_frac) {S : SpD} (len : ∀ ds st R Rx, S ds st R Rx → ds.length = 2) (read : ∀ ds st R Rx, S ds st R Rx → wb_law_plus sp_law_frac (bodyEd R Rx) (startD 2 ds) st) : FnD P w K mg base 3 T.f_law_plus T.fd_law_plus ["a", "b"] S :=
  fn_D T.F_law_plus sc_law_plus len (fun cdv A outer s H E hr tk hp => have nd : (["a", "b"] : List Str).Nodup := sc_law_plus.nd
    (jss_one (js_ret (j_call h_law_frac (hr.mono (by decide)) T.m_law_frac T.F_law_frac.kp T.b_law_frac tk (ja_cons (j_add (j_mul (j_ix (jv 0) ji) (j_ix (jv 1) ji)) (j_mul (j_ix (jv 1) ji) (j_ix (jv 0) ji))) (ja_cons (j_mul (j_ix (jv 0) ji) (j_ix (jv 1) ji)) ja_nil)))))) read
theorem sc_law_less : FnScope ["a", "b"] ["a", "b"] (defScope s_law_less) := ⟨rfl, rfl, rfl, by decide +kernel, rfl, by decide +kernel, by decide +kernel⟩
theorem ok_law_less (T : Txt P K mg) {S : SpD} (len : ∀ ds st R Rx, S ds st R Rx → ds.length = 2) (read : ∀ ds st R Rx, S ds st R Rx → wb_law_less (bodyEd R Rx) (startD 2 ds) st) : FnD P w K mg base 1 T.f_law_less T.fd_law_less ["a", "b"] S :=
  fn_D T.F_law_less sc_law_less len (fun cdv A outer s H E hr tk hp => have nd : (["a", "b"] : List Str).Nodup := sc_law_less.nd
    (jss_one (js_ret (jc_lt (j_mul (j_ix (jv 0) ji) (j_ix (jv 1) ji)) (j_mul (j_ix (jv 1) ji) (j_ix (jv 0) ji)))))) read
theorem sc_law_sum : FnScope ["row", "top", "bottom", "n", "d", "common"] ["row"] (defScope s_law_sum) := ⟨rfl, rfl, rfl, by decide +kernel, rfl, by decide +kernel, by decide +kernel⟩
theorem ok_law_sum (T : Txt P K mg) {sp_law_gcd : SpD} (h_law_gcd : FnD P w K mg base 1 T.f_law_gcd T.fd_law_gcd ["a", "b"] sp_law_gcd) {sp_law_frac : SpD} (h_law_frac : FnD P w K mg base 2 T.f_law_frac T.fd_law_frac ["n", "d"] sp_law_frac) {S : SpD} (len : ∀ ds st R Rx, S ds st R Rx → ds.length = 1) (read : ∀ ds st R Rx, S ds st R Rx → wb_law_sum sp_law_gcd sp_law_frac (bodyEd R Rx) (startD 6 ds) st) : FnD P w K mg base 3 T.f_law_sum T.fd_law_sum ["row"] S :=
  fn_D T.F_law_sum sc_law_sum len (fun cdv A outer s H E hr tk hp => have nd : (["row", "top", "bottom", "n", "d", "common"] : List Str).Nodup := sc_law_sum.nd
    (jss_cons (js_asg (je_tup (ja_cons ji (ja_cons ji ja_nil))) (jg_tup (jgs_cons (jg_name (i := 1) nd) (jgs_cons (jg_name (i := 2) nd) jgs_nil))))
    (jss_cons (js_for hp (jit (jv 0)) (jg_tup (jgs_cons (jg_name (i := 3) nd) (jgs_cons (jg_name (i := 4) nd) jgs_nil))) (jss_cons (js_set (i := 5) nd (j_call h_law_gcd (hr.mono (by decide)) T.m_law_gcd T.F_law_gcd.kp T.b_law_gcd tk (ja_cons (jv 2) (ja_cons (jv 4) ja_nil))))
    (jss_one (js_par (i := 1) (j := 2) nd (j_add (j_mul (jv 1) (j_div (jv 4) (jv 5))) (j_mul (jv 3) (j_div (jv 2) (jv 5)))) (j_mul (jv 2) (j_div (jv 4) (jv 5)))))))
    (jss_one (js_ret (j_call h_law_frac (hr.mono (by decide)) T.m_law_frac T.F_law_frac.kp T.b_law_frac tk (ja_cons (jv 1) (ja_cons (jv 2) ja_nil)))))))) read
theorem sc_law_greatest : FnScope ["row", "best", "one"] ["row"] (defScope s_law_greatest) := ⟨rfl, rfl, rfl, by decide +kernel, rfl, by decide +kernel, by decide +kernel⟩
theorem ok_law_greatest (T : Txt P K mg) {sp_law_less : SpD} (h_law_less : FnD P w K mg base 1 T.f_law_less T.fd_law_less ["a", "b"] sp_law_less) {S : SpD} (len : ∀ ds st R Rx, S ds st R Rx → ds.length = 1) (read : ∀ ds st R Rx, S ds st R Rx → wb_law_greatest sp_law_less (bodyEd R Rx) (startD 3 ds) st) : FnD P w K mg base 2 T.f_law_greatest T.fd_law_greatest ["row"] S :=
  fn_D T.F_law_greatest sc_law_greatest len (fun cdv A outer s H E hr tk hp => have nd : (["row", "best", "one"] : List Str).Nodup := sc_law_greatest.nd
    (jss_cons (js_set (i := 1) nd (j_ix (jv 0) ji))
    (jss_cons (js_for hp (jit (jv 0)) (jg_name (i := 2) nd) (jss_one (js_if (jt_val (j_call h_law_less (hr.mono (by decide)) T.m_law_less T.F_law_less.kp T.b_law_less tk (ja_cons (jv 1) (ja_cons (jv 2) ja_nil)))) (jss_one (js_set (i := 1) nd (jv 2))) jss_nil)))
    (jss_one (js_ret (jv 1)))))) read
theorem sc_law_least : FnScope ["row", "best", "one"] ["row"] (defScope s_law_least) := ⟨rfl, rfl, rfl, by decide +kernel, rfl, by decide +kernel, by decide +kernel⟩
theorem ok_law_least (T : Txt P K mg) {sp_law_less : SpD} (h_law_less : FnD P w K mg base 1 T.f_law_less T.fd_law_less ["a", "b"] sp_law_less) {S : SpD} (len : ∀ ds st R Rx, S ds st R Rx → ds.length = 1) (read : ∀ ds st R Rx, S ds st R Rx → wb_law_least sp_law_less (bodyEd R Rx) (startD 3 ds) st) : FnD P w K mg base 2 T.f_law_least T.fd_law_least ["row"] S :=
  fn_D T.F_law_least sc_law_least len (fun cdv A outer s H E hr tk hp => have nd : (["row", "best", "one"] : List Str).Nodup := sc_law_least.nd
    (jss_cons (js_set (i := 1) nd (j_ix (jv 0) ji))
    (jss_cons (js_for hp (jit (jv 0)) (jg_name (i := 2) nd) (jss_one (js_if (jt_val (j_call h_law_less (hr.mono (by decide)) T.m_law_less T.F_law_less.kp T.b_law_less tk (ja_cons (jv 2) (ja_cons (jv 1) ja_nil)))) (jss_one (js_set (i := 1) nd (jv 2))) jss_nil)))
    (jss_one (js_ret (jv 1)))))) read
theorem sc_law_number : FnScope ["d", "kind", "found", "k"] ["d"] (defScope s_law_number) := ⟨rfl, rfl, rfl, by decide +kernel, rfl, by decide +kernel, by decide +kernel⟩
theorem ok_law_number (T : Txt P K mg) {sp_law_draw : SpD} (h_law_draw : FnD P w K mg base 1 T.f_law_draw T.fd_law_draw ["d", "many"] sp_law_draw) {S : SpD} (len : ∀ ds st R Rx, S ds st R Rx → ds.length = 1) (read : ∀ ds st R Rx, S ds st R Rx → wb_law_number sp_law_draw (bodyEd R Rx) (startD 4 ds) st) : FnD P w K mg base 2 T.f_law_number T.fd_law_number ["d"] S :=
  fn_D T.F_law_number sc_law_number len (fun cdv A outer s H E hr tk hp => have nd : (["d", "kind", "found", "k"] : List Str).Nodup := sc_law_number.nd
    (jss_cons (js_set (i := 1) nd (j_call h_law_draw (hr.mono (by decide)) T.m_law_draw T.F_law_draw.kp T.b_law_draw tk (ja_cons (jv 0) (ja_cons ji ja_nil))))
    (jss_cons (js_if (jt_eq hr (jv 1) ji) (jss_one (js_ret (j_sub (j_call h_law_draw (hr.mono (by decide)) T.m_law_draw T.F_law_draw.kp T.b_law_draw tk (ja_cons (jv 0) (ja_cons ji ja_nil))) ji))) jss_nil)
    (jss_cons (js_if (jt_eq hr (jv 1) ji) (jss_cons (js_set (i := 2) nd ji)
    (jss_cons (js_for hp (jir1 T.z_range (ja_cons (j_add ji (j_call h_law_draw (hr.mono (by decide)) T.m_law_draw T.F_law_draw.kp T.b_law_draw tk (ja_cons (jv 0) (ja_cons ji ja_nil)))) ja_nil)) (jg_name (i := 3) nd) (jss_one (js_set (i := 2) nd (j_add (j_mul (jv 2) (j_pow ji ji)) (j_call h_law_draw (hr.mono (by decide)) T.m_law_draw T.F_law_draw.kp T.b_law_draw tk (ja_cons (jv 0) (ja_cons (j_pow ji ji) ja_nil)))))))
    (jss_one (js_ret (je_if (jt_eq hr (j_call h_law_draw (hr.mono (by decide)) T.m_law_draw T.F_law_draw.kp T.b_law_draw tk (ja_cons (jv 0) (ja_cons ji ja_nil))) ji) (jv 2) (je_neg (jv 2))))))) jss_nil)
    (jss_one (js_ret (j_sub (j_call h_law_draw (hr.mono (by decide)) T.m_law_draw T.F_law_draw.kp T.b_law_draw tk (ja_cons (jv 0) (ja_cons ji ja_nil))) ji))))))) read
theorem sc_law_some : FnScope ["d", "row", "kind", "one", "under"] ["d", "row"] (defScope s_law_some) := ⟨rfl, rfl, rfl, by decide +kernel, rfl, by decide +kernel, by decide +kernel⟩
theorem ok_law_some (T : Txt P K mg) {sp_law_draw : SpD} (h_law_draw : FnD P w K mg base 1 T.f_law_draw T.fd_law_draw ["d", "many"] sp_law_draw) {sp_law_pick : SpD} (h_law_pick : FnD P w K mg base 2 T.f_law_pick T.fd_law_pick ["d", "row"] sp_law_pick) {sp_law_plus : SpD} (h_law_plus : FnD P w K mg base 3 T.f_law_plus T.fd_law_plus ["a", "b"] sp_law_plus) {sp_law_number : SpD} (h_law_number : FnD P w K mg base 2 T.f_law_number T.fd_law_number ["d"] sp_law_number) {sp_law_frac : SpD} (h_law_frac : FnD P w K mg base 2 T.f_law_frac T.fd_law_frac ["n", "d"] sp_law_frac) {S : SpD} (len : ∀ ds st R Rx, S ds st R Rx → ds.length = 2) (read : ∀ ds st R Rx, S ds st R Rx → wb_law_some sp_law_draw sp_law_pick sp_law_plus sp_law_number sp_law_frac (bodyEd R Rx) (startD 5 ds) st) : FnD P w K mg base 4 T.f_law_some T.fd_law_some ["d", "row"] S :=
  fn_D T.F_law_some sc_law_some len (fun cdv A outer s H E hr tk hp => have nd : (["d", "row", "kind", "one", "under"] : List Str).Nodup := sc_law_some.nd
    (jss_cons (js_set (i := 2) nd (j_call h_law_draw (hr.mono (by decide)) T.m_law_draw T.F_law_draw.kp T.b_law_draw tk (ja_cons (jv 0) (ja_cons ji ja_nil))))
    (jss_cons (js_if (jw_t (jw_and (jt_lt (jv 2) ji) (jw_and1 (jt_gt (j_len T.z_len (ja_cons (jv 1) ja_nil)) ji)))) (jss_cons (js_set (i := 3) nd (j_call h_law_pick (hr.mono (by decide)) T.m_law_pick T.F_law_pick.kp T.b_law_pick tk (ja_cons (jv 0) (ja_cons (jv 1) ja_nil))))
    (jss_one (js_ret (je_if (jt_eq hr (jv 2) ji) (jv 3) (je_tup (ja_cons (je_neg (j_ix (jv 3) ji)) (ja_cons (j_ix (jv 3) ji) ja_nil))))))) jss_nil)
    (jss_cons (js_if (jw_t (jw_and (jt_eq hr (jv 2) ji) (jw_and1 (jt_gt (j_len T.z_len (ja_cons (jv 1) ja_nil)) ji)))) (jss_one (js_ret (j_call h_law_plus (hr.mono (by decide)) T.m_law_plus T.F_law_plus.kp T.b_law_plus tk (ja_cons (j_ix (jv 1) ji) (ja_cons (je_tup (ja_cons (j_sub ji (j_mul ji (j_call h_law_draw (hr.mono (by decide)) T.m_law_draw T.F_law_draw.kp T.b_law_draw tk (ja_cons (jv 0) (ja_cons ji ja_nil))))) (ja_cons (j_add (j_pow ji ji) (j_call h_law_draw (hr.mono (by decide)) T.m_law_draw T.F_law_draw.kp T.b_law_draw tk (ja_cons (jv 0) (ja_cons (j_pow ji ji) ja_nil)))) ja_nil))) ja_nil))))) jss_nil)
    (jss_cons (js_set (i := 4) nd (j_call h_law_number (hr.mono (by decide)) T.m_law_number T.F_law_number.kp T.b_law_number tk (ja_cons (jv 0) ja_nil)))
    (jss_one (js_ret (j_call h_law_frac (hr.mono (by decide)) T.m_law_frac T.F_law_frac.kp T.b_law_frac tk (ja_cons (j_call h_law_number (hr.mono (by decide)) T.m_law_number T.F_law_number.kp T.b_law_number tk (ja_cons (jv 0) ja_nil)) (ja_cons (je_if (jt_ne hr (jv 4) ji) (jv 4) ji) ja_nil)))))))))) read
theorem sc_law_asked : FnScope ["is_over", "a", "b", "e"] ["is_over", "a", "b"] (defScope s_law_asked) := ⟨rfl, rfl, rfl, by decide +kernel, rfl, by decide +kernel, by decide +kernel⟩
theorem ok_law_asked (T : Txt P K mg) {sp_over : SpD} (h_over : FnD P w K mg base 3 T.f_over T.fd_over ["a", "b"] sp_over) {sp_fraction : SpD} (h_fraction : FnD P w K mg base 2 T.f_fraction T.fd_fraction ["n", "d"] sp_fraction) {S : SpD} (len : ∀ ds st R Rx, S ds st R Rx → ds.length = 3) (read : ∀ ds st R Rx, S ds st R Rx → wb_law_asked sp_over sp_fraction (EmR K (.ref T.c_StakesError) (pr_law_asked_0 K)) (fun D => PySem.W.kitOne K (.ref D) (.ref T.c_BadFraction)) (fun D => PySem.W.kitOne K (.ref D) (.type "ValueError")) (fun D => PySem.W.kitAny K (.ref D) [.ref T.c_AskedTwice, .ref T.c_BadSign, .ref T.c_BadText, .ref T.c_NotAsked, .ref T.c_NotNamed]) (fun D => PySem.W.kitAny K (.ref D) [.ref T.c_Overspent, .ref T.c_TooDear, .ref T.c_TooMany, .ref T.c_Unfit, .ref T.c_Unkept]) (bodyEd R Rx) (startD 4 ds) st) : FnD P w K mg base 4 T.f_law_asked T.fd_law_asked ["is_over", "a", "b"] S :=
  fn_D T.F_law_asked sc_law_asked len (fun cdv A outer s H E hr tk hp => have nd : (["is_over", "a", "b", "e"] : List Str).Nodup := sc_law_asked.nd
    (jss_one (js_try_as (i := 3) (P := pr_law_asked_0 K) nd (names_g T.m_StakesError) tk (fun W pn xe tk hp => (jss_one (js_ret (je_lst (ja_cons jstr (ja_cons (je_if (jt_val (jv 0)) (j_call h_over (hr.mono (by decide)) T.m_over T.F_over.kp T.b_over tk (ja_cons (jv 1) (ja_cons (jv 2) ja_nil))) (j_call h_fraction (hr.mono (by decide)) T.m_fraction T.F_fraction.kp T.b_fraction tk (ja_cons (jv 1) (ja_cons (jv 2) ja_nil)))) ja_nil))))))
    (fun a oe D d pn hz hfl hec => (jss_cons (js_if (jw_t (jw_or (jt_not (jt_val (j_isE hec.1 hz hfl T.z_isinstance (jv 3) (cls_g T.m_BadFraction)))) (jw_or1 (jt_not (jt_val (j_isE hec.1 hz hfl T.z_isinstance (jv 3) (cls_b T.z_ValueError PyProof.Rows.Boot.«ValueError»))))))) (jss_one (js_ret (je_lst (ja_cons jstr ja_nil)))) jss_nil)
    (jss_cons (js_if (jt_val (j_isEs hec.1 hz hfl T.z_isinstance (jv 3) (cls_cons (cls_g T.m_AskedTwice) (cls_cons (cls_g T.m_BadSign) (cls_cons (cls_g T.m_BadText) (cls_cons (cls_g T.m_NotAsked) (cls_cons (cls_g T.m_NotNamed) cls_nil))))) (hlen := show 5 ≤ 2 ^ 24 by decide))) (jss_one (js_ret (je_lst (ja_cons jstr ja_nil)))) jss_nil)
    (jss_one (js_ret (je_if (jt_val (j_isEs hec.1 hz hfl T.z_isinstance (jv 3) (cls_cons (cls_g T.m_Overspent) (cls_cons (cls_g T.m_TooDear) (cls_cons (cls_g T.m_TooMany) (cls_cons (cls_g T.m_Unfit) (cls_cons (cls_g T.m_Unkept) cls_nil))))) (hlen := show 5 ≤ 2 ^ 24 by decide))) (je_lst (ja_cons jstr ja_nil)) (je_lst (ja_cons jstr ja_nil))))))))))) read
theorem sc_law_is : FnScope ["told", "n", "under"] ["told", "n", "under"] (defScope s_law_is) := ⟨rfl, rfl, rfl, by decide +kernel, rfl, by decide +kernel, by decide +kernel⟩
theorem ok_law_is (T : Txt P K mg) {sp_law_is_frac : SpD} (h_law_is_frac : FnD P w K mg base 2 T.f_law_is_frac T.fd_law_is_frac ["thing"] sp_law_is_frac) {S : SpD} (len : ∀ ds st R Rx, S ds st R Rx → ds.length = 3) (read : ∀ ds st R Rx, S ds st R Rx → wb_law_is sp_law_is_frac (bodyEd R Rx) (startD 3 ds) st) : FnD P w K mg base 3 T.f_law_is T.fd_law_is ["told", "n", "under"] S :=
  fn_D T.F_law_is sc_law_is len (fun cdv A outer s H E hr tk hp => have nd : (["told", "n", "under"] : List Str).Nodup := sc_law_is.nd
    (jss_one (js_ret (je_and (j_call h_law_is_frac (hr.mono (by decide)) T.m_law_is_frac T.F_law_is_frac.kp T.b_law_is_frac tk (ja_cons (jv 0) ja_nil)) (je_one (jc_eq hr (j_mul (j_ix (jv 0) ji) (jv 2)) (j_mul (jv 1) (j_ix (jv 0) ji)))))))) read
theorem sc_law_is_quotient : FnScope ["is_over", "a", "b", "n", "under", "told"] ["is_over", "a", "b", "n", "under"] (defScope s_law_is_quotient) := ⟨rfl, rfl, rfl, by decide +kernel, rfl, by decide +kernel, by decide +kernel⟩
theorem ok_law_is_quotient (T : Txt P K mg) {sp_law_asked : SpD} (h_law_asked : FnD P w K mg base 4 T.f_law_asked T.fd_law_asked ["is_over", "a", "b"] sp_law_asked) {sp_law_is : SpD} (h_law_is : FnD P w K mg base 3 T.f_law_is T.fd_law_is ["told", "n", "under"] sp_law_is) {S : SpD} (len : ∀ ds st R Rx, S ds st R Rx → ds.length = 5) (read : ∀ ds st R Rx, S ds st R Rx → wb_law_is_quotient sp_law_asked sp_law_is (bodyEd R Rx) (startD 6 ds) st) : FnD P w K mg base 5 T.f_law_is_quotient T.fd_law_is_quotient ["is_over", "a", "b", "n", "under"] S :=
  fn_D T.F_law_is_quotient sc_law_is_quotient len (fun cdv A outer s H E hr tk hp => have nd : (["is_over", "a", "b", "n", "under", "told"] : List Str).Nodup := sc_law_is_quotient.nd
    (jss_cons (js_set (i := 5) nd (j_call h_law_asked (hr.mono (by decide)) T.m_law_asked T.F_law_asked.kp T.b_law_asked tk (ja_cons (jv 0) (ja_cons (jv 1) (ja_cons (jv 2) ja_nil)))))
    (jss_cons (js_if (jt_eq hr (jv 4) ji) (jss_one (js_ret (jc_eq hr (jv 5) (je_lst (ja_cons jstr ja_nil))))) jss_nil)
    (jss_one (js_ret (je_and (jc_eq hr (j_ix (jv 5) ji) jstr) (je_one (j_call h_law_is (hr.mono (by decide)) T.m_law_is T.F_law_is.kp T.b_law_is tk (ja_cons (j_ix (jv 5) ji) (ja_cons (jv 3) (ja_cons (jv 4) ja_nil))))))))))) read
theorem sc_law_pair_told : FnScope ["a", "b", "is_less", "is_no_more"] ["a", "b"] (defScope s_law_pair_told) := ⟨rfl, rfl, rfl, by decide +kernel, rfl, by decide +kernel, by decide +kernel⟩
theorem ok_law_pair_told (T : Txt P K mg) {sp_law_is : SpD} (h_law_is : FnD P w K mg base 3 T.f_law_is T.fd_law_is ["told", "n", "under"] sp_law_is) {sp_plus : SpD} (h_plus : FnD P w K mg base 3 T.f_plus T.fd_plus ["a", "b"] sp_plus) {sp_minus : SpD} (h_minus : FnD P w K mg base 3 T.f_minus T.fd_minus ["a", "b"] sp_minus) {sp_times : SpD} (h_times : FnD P w K mg base 3 T.f_times T.fd_times ["a", "b"] sp_times) {sp_law_is_quotient : SpD} (h_law_is_quotient : FnD P w K mg base 5 T.f_law_is_quotient T.fd_law_is_quotient ["is_over", "a", "b", "n", "under"] sp_law_is_quotient) {sp_less : SpD} (h_less : FnD P w K mg base 1 T.f_less T.fd_less ["a", "b"] sp_less) {sp_at_most : SpD} (h_at_most : FnD P w K mg base 1 T.f_at_most T.fd_at_most ["a", "b"] sp_at_most) {S : SpD} (len : ∀ ds st R Rx, S ds st R Rx → ds.length = 2) (read : ∀ ds st R Rx, S ds st R Rx → wb_law_pair_told sp_law_is sp_plus sp_minus sp_times sp_law_is_quotient sp_less sp_at_most (bodyEd R Rx) (startD 4 ds) st) : FnD P w K mg base 6 T.f_law_pair_told T.fd_law_pair_told ["a", "b"] S :=
  fn_D T.F_law_pair_told sc_law_pair_told len (fun cdv A outer s H E hr tk hp => have nd : (["a", "b", "is_less", "is_no_more"] : List Str).Nodup := sc_law_pair_told.nd
    (jss_cons (js_if (jt_not (jt_val (j_call h_law_is (hr.mono (by decide)) T.m_law_is T.F_law_is.kp T.b_law_is tk (ja_cons (j_call h_plus (hr.mono (by decide)) T.m_plus T.F_plus.kp T.b_plus tk (ja_cons (jv 0) (ja_cons (jv 1) ja_nil))) (ja_cons (j_add (j_mul (j_ix (jv 0) ji) (j_ix (jv 1) ji)) (j_mul (j_ix (jv 1) ji) (j_ix (jv 0) ji))) (ja_cons (j_mul (j_ix (jv 0) ji) (j_ix (jv 1) ji)) ja_nil)))))) (jss_one (js_ret jb)) jss_nil)
    (jss_cons (js_if (jt_not (jt_val (j_call h_law_is (hr.mono (by decide)) T.m_law_is T.F_law_is.kp T.b_law_is tk (ja_cons (j_call h_minus (hr.mono (by decide)) T.m_minus T.F_minus.kp T.b_minus tk (ja_cons (jv 0) (ja_cons (jv 1) ja_nil))) (ja_cons (j_sub (j_mul (j_ix (jv 0) ji) (j_ix (jv 1) ji)) (j_mul (j_ix (jv 1) ji) (j_ix (jv 0) ji))) (ja_cons (j_mul (j_ix (jv 0) ji) (j_ix (jv 1) ji)) ja_nil)))))) (jss_one (js_ret jb)) jss_nil)
    (jss_cons (js_if (jt_not (jt_val (j_call h_law_is (hr.mono (by decide)) T.m_law_is T.F_law_is.kp T.b_law_is tk (ja_cons (j_call h_times (hr.mono (by decide)) T.m_times T.F_times.kp T.b_times tk (ja_cons (jv 0) (ja_cons (jv 1) ja_nil))) (ja_cons (j_mul (j_ix (jv 0) ji) (j_ix (jv 1) ji)) (ja_cons (j_mul (j_ix (jv 0) ji) (j_ix (jv 1) ji)) ja_nil)))))) (jss_one (js_ret jb)) jss_nil)
    (jss_cons (js_if (jt_not (jt_val (j_call h_law_is_quotient (hr.mono (by decide)) T.m_law_is_quotient T.F_law_is_quotient.kp T.b_law_is_quotient tk (ja_cons jb (ja_cons (jv 0) (ja_cons (jv 1) (ja_cons (j_mul (j_ix (jv 0) ji) (j_ix (jv 1) ji)) (ja_cons (j_mul (j_ix (jv 0) ji) (j_ix (jv 1) ji)) ja_nil)))))))) (jss_one (js_ret jb)) jss_nil)
    (jss_cons (js_par (i := 2) (j := 3) nd (j_call h_less (hr.mono (by decide)) T.m_less T.F_less.kp T.b_less tk (ja_cons (jv 0) (ja_cons (jv 1) ja_nil))) (j_call h_at_most (hr.mono (by decide)) T.m_at_most T.F_at_most.kp T.b_at_most tk (ja_cons (jv 0) (ja_cons (jv 1) ja_nil))))
    (jss_cons (js_if (jw_t (jw_or (jt_not (jt_val (j_isi .bool T.z_isinstance T.z_bool (by decide +kernel) (jv 2)))) (jw_or1 (jt_not (jt_val (j_isi .bool T.z_isinstance T.z_bool (by decide +kernel) (jv 3))))))) (jss_one (js_ret jb)) jss_nil)
    (jss_one (js_ret (je_and (jc_eq hr (jv 2) (jc_lt (j_mul (j_ix (jv 0) ji) (j_ix (jv 1) ji)) (j_mul (j_ix (jv 1) ji) (j_ix (jv 0) ji)))) (je_one (jc_eq hr (jv 3) (jc_le (j_mul (j_ix (jv 0) ji) (j_ix (jv 1) ji)) (j_mul (j_ix (jv 1) ji) (j_ix (jv 0) ji))))))))))))))) read
theorem sc_law_shared_told : FnScope ["row", "told", "tops", "bottom", "due", "one", "top"] ["row"] (defScope s_law_shared_told) := ⟨rfl, rfl, rfl, by decide +kernel, rfl, by decide +kernel, by decide +kernel⟩
theorem ok_law_shared_told (T : Txt P K mg) {sp_shared : SpD} (h_shared : FnD P w K mg base 1 T.f_shared T.fd_shared ["row"] sp_shared) {sp_law_is_int : SpD} (h_law_is_int : FnD P w K mg base 1 T.f_law_is_int T.fd_law_is_int ["thing"] sp_law_is_int) {sp_law_gcd : SpD} (h_law_gcd : FnD P w K mg base 1 T.f_law_gcd T.fd_law_gcd ["a", "b"] sp_law_gcd) {S : SpD} (len : ∀ ds st R Rx, S ds st R Rx → ds.length = 1) (read : ∀ ds st R Rx, S ds st R Rx → wb_law_shared_told sp_shared sp_law_is_int sp_law_gcd (bodyEd R Rx) (startD 7 ds) st) : FnD P w K mg base 2 T.f_law_shared_told T.fd_law_shared_told ["row"] S :=
  fn_D T.F_law_shared_told sc_law_shared_told len (fun cdv A outer s H E hr tk hp => have nd : (["row", "told", "tops", "bottom", "due", "one", "top"] : List Str).Nodup := sc_law_shared_told.nd
    (jss_cons (js_set (i := 1) nd (j_call h_shared (hr.mono (by decide)) T.m_shared T.F_shared.kp T.b_shared tk (ja_cons (j_tuple T.z_tuple (ja_cons (jv 0) ja_nil)) ja_nil)))
    (jss_cons (js_if (jw_t (jw_or (jt_not (jt_val (j_isi .tup T.z_isinstance T.z_tuple (by decide +kernel) (jv 1)))) (jw_or1 (jt_ne hr (j_len T.z_len (ja_cons (jv 1) ja_nil)) ji)))) (jss_one (js_ret jb)) jss_nil)
    (jss_cons (js_asg (jv 1) (jg_tup (jgs_cons (jg_name (i := 2) nd) (jgs_cons (jg_name (i := 3) nd) jgs_nil))))
    (jss_cons (js_if (jw_t (jw_or (jt_not (jt_val (j_isi .tup T.z_isinstance T.z_tuple (by decide +kernel) (jv 2)))) (jw_or (jt_not (jt_val (j_all T.z_all (ja_cons (je_lc (own := [("top", 6)]) nd (jit (jv 2)) (by kernel_rfl) (bind_name (i := 6) (by decide)) (fun _ _ _ _ _ => pg_name (i := 6) nd rfl (by first | exact Or.inl rfl | exact Or.inr rfl)) (fun _ _ _ _ _ => jts_nil) (fun _ _ _ _ _ => (j_call h_law_is_int (hr.mono (by decide)) T.m_law_is_int T.F_law_is_int.kp T.b_law_is_int takes_no (ja_cons (jv 6) ja_nil)))) ja_nil)))) (jw_or1 (jt_not (jt_val (j_call h_law_is_int (hr.mono (by decide)) T.m_law_is_int T.F_law_is_int.kp T.b_law_is_int tk (ja_cons (jv 3) ja_nil)))))))) (jss_one (js_ret jb)) jss_nil)
    (jss_cons (js_set (i := 4) nd ji)
    (jss_cons (js_for hp (jit (jv 0)) (jg_name (i := 5) nd) (jss_one (js_set (i := 4) nd (j_mul (j_div (jv 4) (j_call h_law_gcd (hr.mono (by decide)) T.m_law_gcd T.F_law_gcd.kp T.b_law_gcd tk (ja_cons (jv 4) (ja_cons (j_ix (jv 5) ji) ja_nil)))) (j_ix (jv 5) ji)))))
    (jss_one (js_ret (je_and (jc_eq hr (jv 3) (jv 4)) (je_one (jc_eq hr (j_list T.z_list (ja_cons (jv 2) ja_nil)) (je_lc (own := [("one", 5)]) nd (jit (jv 0)) (by kernel_rfl) (bind_name (i := 5) (by decide)) (fun _ _ _ _ _ => pg_name (i := 5) nd rfl (by first | exact Or.inl rfl | exact Or.inr rfl)) (fun _ _ _ _ _ => jts_nil) (fun _ _ _ _ _ => (j_mul (j_ix (jv 5) ji) (j_div (jv 4) (j_ix (jv 5) ji))))))))))))))))) read
theorem sc_law_row_told : FnScope ["row", "told", "high", "low"] ["row"] (defScope s_law_row_told) := ⟨rfl, rfl, rfl, by decide +kernel, rfl, by decide +kernel, by decide +kernel⟩
theorem ok_law_row_told (T : Txt P K mg) {sp_total : SpD} (h_total : FnD P w K mg base 3 T.f_total T.fd_total ["row"] sp_total) {sp_law_is_frac : SpD} (h_law_is_frac : FnD P w K mg base 2 T.f_law_is_frac T.fd_law_is_frac ["thing"] sp_law_is_frac) {sp_law_sum : SpD} (h_law_sum : FnD P w K mg base 3 T.f_law_sum T.fd_law_sum ["row"] sp_law_sum) {sp_law_shared_told : SpD} (h_law_shared_told : FnD P w K mg base 2 T.f_law_shared_told T.fd_law_shared_told ["row"] sp_law_shared_told) {sp_greatest_of : SpD} (h_greatest_of : FnD P w K mg base 2 T.f_greatest_of T.fd_greatest_of ["row"] sp_greatest_of) {sp_least_of_all : SpD} (h_least_of_all : FnD P w K mg base 2 T.f_least_of_all T.fd_least_of_all ["row"] sp_least_of_all) {sp_law_greatest : SpD} (h_law_greatest : FnD P w K mg base 2 T.f_law_greatest T.fd_law_greatest ["row"] sp_law_greatest) {sp_law_least : SpD} (h_law_least : FnD P w K mg base 2 T.f_law_least T.fd_law_least ["row"] sp_law_least) {S : SpD} (len : ∀ ds st R Rx, S ds st R Rx → ds.length = 1) (read : ∀ ds st R Rx, S ds st R Rx → wb_law_row_told sp_total sp_law_is_frac sp_law_sum sp_law_shared_told sp_greatest_of sp_least_of_all sp_law_greatest sp_law_least (bodyEd R Rx) (startD 4 ds) st) : FnD P w K mg base 4 T.f_law_row_told T.fd_law_row_told ["row"] S :=
  fn_D T.F_law_row_told sc_law_row_told len (fun cdv A outer s H E hr tk hp => have nd : (["row", "told", "high", "low"] : List Str).Nodup := sc_law_row_told.nd
    (jss_cons (js_set (i := 1) nd (j_call h_total (hr.mono (by decide)) T.m_total T.F_total.kp T.b_total tk (ja_cons (j_tuple T.z_tuple (ja_cons (jv 0) ja_nil)) ja_nil)))
    (jss_cons (js_if (jw_t (jw_or (jt_not (jt_val (j_call h_law_is_frac (hr.mono (by decide)) T.m_law_is_frac T.F_law_is_frac.kp T.b_law_is_frac tk (ja_cons (jv 1) ja_nil)))) (jw_or (jt_ne hr (jv 1) (j_call h_law_sum (hr.mono (by decide)) T.m_law_sum T.F_law_sum.kp T.b_law_sum tk (ja_cons (jv 0) ja_nil))) (jw_or1 (jt_not (jt_val (j_call h_law_shared_told (hr.mono (by decide)) T.m_law_shared_told T.F_law_shared_told.kp T.b_law_shared_told tk (ja_cons (jv 0) ja_nil)))))))) (jss_one (js_ret jb)) jss_nil)
    (jss_cons (js_if (jt_eq hr (j_len T.z_len (ja_cons (jv 0) ja_nil)) ji) (jss_one (js_ret jb)) jss_nil)
    (jss_cons (js_par (i := 2) (j := 3) nd (j_call h_greatest_of (hr.mono (by decide)) T.m_greatest_of T.F_greatest_of.kp T.b_greatest_of tk (ja_cons (j_tuple T.z_tuple (ja_cons (jv 0) ja_nil)) ja_nil)) (j_call h_least_of_all (hr.mono (by decide)) T.m_least_of_all T.F_least_of_all.kp T.b_least_of_all tk (ja_cons (j_tuple T.z_tuple (ja_cons (jv 0) ja_nil)) ja_nil)))
    (jss_cons (js_if (jw_t (jw_or (jt_not (jt_val (j_call h_law_is_frac (hr.mono (by decide)) T.m_law_is_frac T.F_law_is_frac.kp T.b_law_is_frac tk (ja_cons (jv 2) ja_nil)))) (jw_or1 (jt_not (jt_val (j_call h_law_is_frac (hr.mono (by decide)) T.m_law_is_frac T.F_law_is_frac.kp T.b_law_is_frac tk (ja_cons (jv 3) ja_nil))))))) (jss_one (js_ret jb)) jss_nil)
    (jss_one (js_ret (je_and (jc_eq hr (jv 2) (j_call h_law_greatest (hr.mono (by decide)) T.m_law_greatest T.F_law_greatest.kp T.b_law_greatest tk (ja_cons (jv 0) ja_nil))) (je_one (jc_eq hr (jv 3) (j_call h_law_least (hr.mono (by decide)) T.m_law_least T.F_law_least.kp T.b_law_least tk (ja_cons (jv 0) ja_nil))))))))))))) read
theorem sc_law_things : FnScope ["d", "one", "n", "under", "factor", "found"] ["d", "one"] (defScope s_law_things) := ⟨rfl, rfl, rfl, by decide +kernel, rfl, by decide +kernel, by decide +kernel⟩
theorem ok_law_things (T : Txt P K mg) {sp_law_draw : SpD} (h_law_draw : FnD P w K mg base 1 T.f_law_draw T.fd_law_draw ["d", "many"] sp_law_draw) {sp_law_shuffled : SpD} (h_law_shuffled : FnD P w K mg base 2 T.f_law_shuffled T.fd_law_shuffled ["d", "row"] sp_law_shuffled) {S : SpD} (len : ∀ ds st R Rx, S ds st R Rx → ds.length = 2) (read : ∀ ds st R Rx, S ds st R Rx → wb_law_things sp_law_draw sp_law_shuffled (bodyEd R Rx) (startD 6 ds) st) : FnD P w K mg base 3 T.f_law_things T.fd_law_things ["d", "one"] S :=
  fn_D T.F_law_things sc_law_things len (fun cdv A outer s H E hr tk hp => have nd : (["d", "one", "n", "under", "factor", "found"] : List Str).Nodup := sc_law_things.nd
    (jss_cons (js_asg (jv 1) (jg_tup (jgs_cons (jg_name (i := 2) nd) (jgs_cons (jg_name (i := 3) nd) jgs_nil))))
    (jss_cons (js_set (i := 4) nd (j_add ji (j_call h_law_draw (hr.mono (by decide)) T.m_law_draw T.F_law_draw.kp T.b_law_draw tk (ja_cons (jv 0) (ja_cons ji ja_nil)))))
    (jss_cons (js_set (i := 5) nd (je_lst (ja_cons (jv 1) (ja_cons (je_tup (ja_cons (j_mul (jv 2) (jv 4)) (ja_cons (j_mul (jv 3) (jv 4)) ja_nil))) (ja_cons (je_tup (ja_cons (jv 2) (ja_cons (je_neg (jv 3)) ja_nil))) (ja_cons (je_tup (ja_cons (je_neg (jv 2)) (ja_cons (je_neg (jv 3)) ja_nil))) (ja_cons (je_tup (ja_cons (jv 2) (ja_cons ji ja_nil))) (ja_cons (je_tup (ja_cons ji (ja_cons (jv 3) ja_nil))) (ja_cons (je_tup (ja_cons ji (ja_cons ji ja_nil))) (ja_cons (je_tup (ja_cons ji (ja_cons ji ja_nil))) ja_nil))))))))))
    (jss_cons (js_expr (j_extend (jv 5) (ja_cons (je_lst (ja_cons (je_tup (ja_cons (jv 2) (ja_cons (jv 3) (ja_cons ji ja_nil)))) (ja_cons (je_tup (ja_cons (jv 2) ja_nil)) (ja_cons (je_tup ja_nil) (ja_cons (je_tup (ja_cons (jv 1) (ja_cons (jv 1) ja_nil))) (ja_cons (je_tup (ja_cons (jv 2) (ja_cons jn ja_nil))) (ja_cons (je_tup (ja_cons jn (ja_cons (jv 3) ja_nil))) (ja_cons (je_tup (ja_cons jstr (ja_cons ji ja_nil))) (ja_cons (je_tup (ja_cons (jv 2) (ja_cons jstr ja_nil))) (ja_cons (jv 2) (ja_cons jn (ja_cons jstr ja_nil)))))))))))) ja_nil)))
    (jss_cons (js_expr (j_extend (jv 5) (ja_cons (je_lst (ja_cons (je_tup (ja_cons ji (ja_cons ji ja_nil))) (ja_cons (je_tup (ja_cons jb (ja_cons ji ja_nil))) (ja_cons (je_tup (ja_cons ji (ja_cons jb ja_nil))) (ja_cons (je_tup (ja_cons ji (ja_cons ji ja_nil))) (ja_cons (je_tup (ja_cons jb (ja_cons ji ja_nil))) (ja_cons (je_tup (ja_cons jb (ja_cons jb ja_nil))) (ja_cons (je_tup (ja_cons (je_neg ji) (ja_cons ji ja_nil))) (ja_cons (je_tup (ja_cons ji (ja_cons (je_neg ji) ja_nil))) (ja_cons (je_tup (ja_cons ji (ja_cons ji ja_nil))) ja_nil)))))))))) ja_nil)))
    (jss_one (js_ret (j_call h_law_shuffled (hr.mono (by decide)) T.m_law_shuffled T.F_law_shuffled.kp T.b_law_shuffled tk (ja_cons (jv 0) (ja_cons (jv 5) ja_nil))))))))))) read
theorem sc_law_thing_told : FnScope ["thing", "told"] ["thing"] (defScope s_law_thing_told) := ⟨rfl, rfl, rfl, by decide +kernel, rfl, by decide +kernel, by decide +kernel⟩
theorem ok_law_thing_told (T : Txt P K mg) {sp_is_fraction : SpD} (h_is_fraction : FnD P w K mg base 2 T.f_is_fraction T.fd_is_fraction ["thing"] sp_is_fraction) {sp_law_is_frac : SpD} (h_law_is_frac : FnD P w K mg base 2 T.f_law_is_frac T.fd_law_is_frac ["thing"] sp_law_is_frac) {S : SpD} (len : ∀ ds st R Rx, S ds st R Rx → ds.length = 1) (read : ∀ ds st R Rx, S ds st R Rx → wb_law_thing_told sp_is_fraction sp_law_is_frac (bodyEd R Rx) (startD 2 ds) st) : FnD P w K mg base 3 T.f_law_thing_told T.fd_law_thing_told ["thing"] S :=
  fn_D T.F_law_thing_told sc_law_thing_told len (fun cdv A outer s H E hr tk hp => have nd : (["thing", "told"] : List Str).Nodup := sc_law_thing_told.nd
    (jss_cons (js_set (i := 1) nd (j_call h_is_fraction (hr.mono (by decide)) T.m_is_fraction T.F_is_fraction.kp T.b_is_fraction tk (ja_cons (jv 0) ja_nil)))
    (jss_one (js_ret (je_and (j_isi .bool T.z_isinstance T.z_bool (by decide +kernel) (jv 1)) (je_one (jc_eq hr (jv 1) (j_call h_law_is_frac (hr.mono (by decide)) T.m_law_is_frac T.F_law_is_frac.kp T.b_law_is_frac tk (ja_cons (jv 0) ja_nil))))))))) read
theorem sc_law : FnScope ["script", "d", "factor", "n", "under", "row", "k", "a", "b", "turn", "thing"] ["script"] (defScope s_law) := ⟨rfl, rfl, rfl, by decide +kernel, rfl, by decide +kernel, by decide +kernel⟩
theorem ok_law (T : Txt P K mg) {sp_law_begin : SpD} (h_law_begin : FnD P w K mg base 1 T.f_law_begin T.fd_law_begin ["script"] sp_law_begin) {sp_law_draw : SpD} (h_law_draw : FnD P w K mg base 1 T.f_law_draw T.fd_law_draw ["d", "many"] sp_law_draw) {sp_law_number : SpD} (h_law_number : FnD P w K mg base 2 T.f_law_number T.fd_law_number ["d"] sp_law_number) {sp_law_some : SpD} (h_law_some : FnD P w K mg base 4 T.f_law_some T.fd_law_some ["d", "row"] sp_law_some) {sp_law_pick : SpD} (h_law_pick : FnD P w K mg base 2 T.f_law_pick T.fd_law_pick ["d", "row"] sp_law_pick) {sp_law_is_quotient : SpD} (h_law_is_quotient : FnD P w K mg base 5 T.f_law_is_quotient T.fd_law_is_quotient ["is_over", "a", "b", "n", "under"] sp_law_is_quotient) {sp_law_pair_told : SpD} (h_law_pair_told : FnD P w K mg base 6 T.f_law_pair_told T.fd_law_pair_told ["a", "b"] sp_law_pair_told) {sp_law_things : SpD} (h_law_things : FnD P w K mg base 3 T.f_law_things T.fd_law_things ["d", "one"] sp_law_things) {sp_law_thing_told : SpD} (h_law_thing_told : FnD P w K mg base 3 T.f_law_thing_told T.fd_law_thing_told ["thing"] sp_law_thing_told) {sp_law_row_told : SpD} (h_law_row_told : FnD P w K mg base 4 T.f_law_row_told T.fd_law_row_told ["row"] sp_law_row_told) {sp_law_rare : SpD} (h_law_rare : FnD P w K mg base 2 T.f_law_rare T.fd_law_rare ["d", "many"] sp_law_rare) {sp_law_frac : SpD} (h_law_frac : FnD P w K mg base 2 T.f_law_frac T.fd_law_frac ["n", "d"] sp_law_frac) {S : SpD} (len : ∀ ds st R Rx, S ds st R Rx → ds.length = 1) (read : ∀ ds st R Rx, S ds st R Rx → wb_law sp_law_begin sp_law_draw sp_law_number sp_law_some sp_law_pick sp_law_is_quotient sp_law_pair_told sp_law_things sp_law_thing_told sp_law_row_told sp_law_rare sp_law_frac (bodyEd R Rx) (startD 11 ds) st) : FnD P w K mg base 7 T.f_law T.fd_law ["script"] S :=
  fn_D T.F_law sc_law len (fun cdv A outer s H E hr tk hp => have nd : (["script", "d", "factor", "n", "under", "row", "k", "a", "b", "turn", "thing"] : List Str).Nodup := sc_law.nd
    (jss_cons (js_set (i := 1) nd (j_call h_law_begin (hr.mono (by decide)) T.m_law_begin T.F_law_begin.kp T.b_law_begin tk (ja_cons (jv 0) ja_nil)))
    (jss_cons (js_set (i := 2) nd (j_add ji (j_call h_law_draw (hr.mono (by decide)) T.m_law_draw T.F_law_draw.kp T.b_law_draw tk (ja_cons (jv 1) (ja_cons ji ja_nil)))))
    (jss_cons (js_par (i := 3) (j := 4) nd (j_mul (j_call h_law_number (hr.mono (by decide)) T.m_law_number T.F_law_number.kp T.b_law_number tk (ja_cons (jv 1) ja_nil)) (jv 2)) (j_mul (j_call h_law_number (hr.mono (by decide)) T.m_law_number T.F_law_number.kp T.b_law_number tk (ja_cons (jv 1) ja_nil)) (jv 2)))
    (jss_cons (js_set (i := 5) nd (je_lst ja_nil))
    (jss_cons (js_for hp (jir1 T.z_range (ja_cons (j_add ji (j_call h_law_draw (hr.mono (by decide)) T.m_law_draw T.F_law_draw.kp T.b_law_draw tk (ja_cons (jv 1) (ja_cons ji ja_nil)))) ja_nil)) (jg_name (i := 6) nd) (jss_one (js_expr (j_append (jv 5) (ja_cons (j_call h_law_some (hr.mono (by decide)) T.m_law_some T.F_law_some.kp T.b_law_some tk (ja_cons (jv 1) (ja_cons (jv 5) ja_nil))) ja_nil)))))
    (jss_cons (js_par (i := 7) (j := 8) nd (j_call h_law_pick (hr.mono (by decide)) T.m_law_pick T.F_law_pick.kp T.b_law_pick tk (ja_cons (jv 1) (ja_cons (jv 5) ja_nil))) (j_call h_law_pick (hr.mono (by decide)) T.m_law_pick T.F_law_pick.kp T.b_law_pick tk (ja_cons (jv 1) (ja_cons (jv 5) ja_nil))))
    (jss_cons (js_for hp (jir1 T.z_range (ja_cons ji ja_nil)) (jg_name (i := 9) nd) (jss_cons (js_if (jw_t (jw_or (jt_not (jt_val (j_call h_law_is_quotient (hr.mono (by decide)) T.m_law_is_quotient T.F_law_is_quotient.kp T.b_law_is_quotient tk (ja_cons jb (ja_cons (jv 3) (ja_cons (jv 4) (ja_cons (jv 3) (ja_cons (jv 4) ja_nil)))))))) (jw_or1 (jt_not (jt_val (j_call h_law_is_quotient (hr.mono (by decide)) T.m_law_is_quotient T.F_law_is_quotient.kp T.b_law_is_quotient tk (ja_cons jb (ja_cons (jv 4) (ja_cons (jv 3) (ja_cons (jv 4) (ja_cons (jv 3) ja_nil))))))))))) (jss_one (js_ret jb)) jss_nil)
    (jss_cons (js_if (jw_t (jw_or (jt_not (jt_val (j_call h_law_pair_told (hr.mono (by decide)) T.m_law_pair_told T.F_law_pair_told.kp T.b_law_pair_told tk (ja_cons (jv 7) (ja_cons (jv 8) ja_nil))))) (jw_or (jt_not (jt_val (j_call h_law_pair_told (hr.mono (by decide)) T.m_law_pair_told T.F_law_pair_told.kp T.b_law_pair_told tk (ja_cons (jv 8) (ja_cons (jv 7) ja_nil))))) (jw_or1 (jt_not (jt_val (j_call h_law_pair_told (hr.mono (by decide)) T.m_law_pair_told T.F_law_pair_told.kp T.b_law_pair_told tk (ja_cons (jv 7) (ja_cons (jv 7) ja_nil))))))))) (jss_one (js_ret jb)) jss_nil)
    (jss_cons (js_if (jt_not (jt_val (j_all T.z_all (ja_cons (je_lc (own := [("thing", 10)]) nd (jit (j_call h_law_things (hr.mono (by decide)) T.m_law_things T.F_law_things.kp T.b_law_things tk (ja_cons (jv 1) (ja_cons (jv 7) ja_nil)))) (by kernel_rfl) (bind_name (i := 10) (by decide)) (fun _ _ _ _ _ => pg_name (i := 10) nd rfl (by first | exact Or.inl rfl | exact Or.inr rfl)) (fun _ _ _ _ _ => jts_nil) (fun _ _ _ _ _ => (j_call h_law_thing_told (hr.mono (by decide)) T.m_law_thing_told T.F_law_thing_told.kp T.b_law_thing_told takes_no (ja_cons (jv 10) ja_nil)))) ja_nil)))) (jss_one (js_ret jb)) jss_nil)
    (jss_one (js_if (jw_t (jw_and (jt_eq hr (jv 9) ji) (jw_and1 (jt_not (jt_val (j_all T.z_all (ja_cons (je_lc (own := [("k", 6)]) nd (jir1 T.z_range (ja_cons (j_add (j_len T.z_len (ja_cons (jv 5) ja_nil)) ji) ja_nil)) (by kernel_rfl) (bind_name (i := 6) (by decide)) (fun _ _ _ _ _ => pg_name (i := 6) nd rfl (by first | exact Or.inl rfl | exact Or.inr rfl)) (fun _ _ _ _ _ => jts_nil) (fun _ _ _ _ _ => (j_call h_law_row_told (hr.mono (by decide)) T.m_law_row_told T.F_law_row_told.kp T.b_law_row_told takes_no (ja_cons (j_sl (jv 5) (jo_some (jv 6)) jo_none) ja_nil)))) ja_nil))))))) (jss_one (js_ret jb)) jss_nil))))))
    (jss_cons (js_if (jw_t (jw_or (jt_not (jt_val (j_call h_law_is_quotient (hr.mono (by decide)) T.m_law_is_quotient T.F_law_is_quotient.kp T.b_law_is_quotient tk (ja_cons jb (ja_cons (jv 7) (ja_cons (je_tup (ja_cons ji (ja_cons ji ja_nil))) (ja_cons (j_ix (jv 7) ji) (ja_cons ji ja_nil)))))))) (jw_or1 (jt_not (jt_val (j_call h_law_pair_told (hr.mono (by decide)) T.m_law_pair_told T.F_law_pair_told.kp T.b_law_pair_told tk (ja_cons (je_tup (ja_cons ji (ja_cons ji ja_nil))) (ja_cons (jv 8) ja_nil)))))))) (jss_one (js_ret jb)) jss_nil)
    (jss_cons (js_if (jw_t (jw_or (jt_not (jt_val (j_call h_law_is_quotient (hr.mono (by decide)) T.m_law_is_quotient T.F_law_is_quotient.kp T.b_law_is_quotient tk (ja_cons jb (ja_cons (jv 3) (ja_cons ji (ja_cons (jv 3) (ja_cons ji ja_nil)))))))) (jw_or1 (jt_not (jt_val (j_call h_law_is_quotient (hr.mono (by decide)) T.m_law_is_quotient T.F_law_is_quotient.kp T.b_law_is_quotient tk (ja_cons jb (ja_cons (jv 3) (ja_cons ji (ja_cons (jv 3) (ja_cons ji ja_nil))))))))))) (jss_one (js_ret jb)) jss_nil)
    (jss_cons (js_if (jt_val (j_call h_law_rare (hr.mono (by decide)) T.m_law_rare T.F_law_rare.kp T.b_law_rare tk (ja_cons (jv 1) (ja_cons ji ja_nil)))) (jss_one (js_set (i := 5) nd (je_lc (own := [("k", 6)]) nd (jir1 T.z_range (ja_cons (j_add ji (j_call h_law_draw (hr.mono (by decide)) T.m_law_draw T.F_law_draw.kp T.b_law_draw tk (ja_cons (jv 1) (ja_cons ji ja_nil)))) ja_nil)) (by kernel_rfl) (bind_name (i := 6) (by decide)) (fun _ _ _ _ _ => pg_name (i := 6) nd rfl (by first | exact Or.inl rfl | exact Or.inr rfl)) (fun _ _ _ _ _ => jts_nil) (fun _ _ _ _ _ => (j_call h_law_frac (hr.mono (by decide)) T.m_law_frac T.F_law_frac.kp T.b_law_frac takes_no (ja_cons (j_sub (j_call h_law_draw (hr.mono (by decide)) T.m_law_draw T.F_law_draw.kp T.b_law_draw takes_no (ja_cons (jv 1) (ja_cons ji ja_nil))) ji) (ja_cons (j_add ji (j_call h_law_draw (hr.mono (by decide)) T.m_law_draw T.F_law_draw.kp T.b_law_draw takes_no (ja_cons (jv 1) (ja_cons ji ja_nil)))) ja_nil))))))) jss_nil)
    (jss_one (js_ret (j_call h_law_row_told (hr.mono (by decide)) T.m_law_row_told T.F_law_row_told.kp T.b_law_row_told tk (ja_cons (jv 5) ja_nil))))))))))))))) read
end
end K01
end DL

namespace DL
namespace C
open PySem L2
local macro_rules | `(tactic| walk_at "look") => `(tactic| first
  | assumption
  | exact put_same
  | (refine look_ne (by first | assumption | exact Ne.symm (by assumption)) ?_; walk_at "look")
  | (refine look_new (by assumption) ?_; walk_at "look"))
local macro_rules | `(tactic| walk_at "side") => `(tactic| first | assumption | exact trivial | decide | omega | exact ⟨by assumption, by assumption⟩ | exact ⟨by omega, by omega⟩ | exact ⟨by decide, by decide⟩ | exact ⟨by decide, by decide, by decide⟩ | (exact .inl (.inl ⟨by decide, by decide⟩)) | (exact .inl (.inr ⟨by decide, by decide⟩)) | (exact .inl (.inl ⟨by omega, by omega⟩)) | (exact .inl (.inr ⟨by omega, by omega⟩)))
local macro_rules | `(tactic| walk_at "opt") => `(tactic| first | (with_reducible exact atI_0 _ _) | (with_reducible exact atI_1 _ _ _) | (with_reducible exact atI_2 _ _ _ _) | (with_reducible exact atI_3 _ _ _ _ _) | (with_reducible exact atI_4 _ _ _ _ _ _) | assumption | exact atI_0 _ _ | exact atI_1 _ _ _ | exact atI_2 _ _ _ _ | exact atI_3 _ _ _ _ _ | exact atI_4 _ _ _ _ _ _ | exact boolsOf_map _ | exact intsOf_map _ | exact rfl)
local macro_rules | `(tactic| walk_at "s1") => `(tactic| first
  | ((with_reducible refine' s_var ?k1 ?_); (case k1 => exact rfl))
  | with_reducible refine s_bin ?_
  | with_reducible refine s_c ?_
  | with_reducible refine s_seqM ?_
  | with_reducible refine s_asB ?_
  | with_reducible refine s_asI ?_
  | with_reducible refine s_asRI ?_
  | with_reducible refine s_acons ?_
  | with_reducible refine s_anil ?_
  | with_reducible refine s_call ?_
  | with_reducible refine s_cb ?_
  | with_reducible refine s_set ?_
  | with_reducible refine s_ixT ?_
  | with_reducible refine s_ixL ?_
  | with_reducible refine s_ixS ?_
  | ((with_reducible refine' s_getL ?k1 ?_); (case k1 => walk_at "look"))
  | ((with_reducible refine' s_opt ?k1 ?_); (case k1 => walk_at "opt"))
  | with_reducible refine s_binT ?_
  | with_reducible refine s_tup ?_
  | with_reducible refine s_tpT ?_
  | with_reducible refine s_lst ?_
  | with_reducible refine s_ret ?_
  | with_reducible refine s_if ?_
  | with_reducible refine s_nextM ?_
  | with_reducible refine s_drop ?_
  | with_reducible refine s_par ?_
  | with_reducible refine s_asg ?_
  | with_reducible refine s_gN ?_
  | ((with_reducible refine' s_gT ?k1 ?_); (case k1 => exact rfl))
  | with_reducible refine s_gsC ?_
  | with_reducible refine s_gsN ?_
  | with_reducible refine s_gIx ?_
  | with_reducible refine s_setD ?_
  | with_reducible refine s_for ?_
  | with_reducible refine s_b ?_
  | with_reducible refine s_and ?_
  | with_reducible refine s_or ?_
  | with_reducible refine s_not ?_
  | with_reducible refine s_ife ?_
  | with_reducible refine s_neg ?_
  | with_reducible refine s_notV ?_
  | with_reducible refine s_andV ?_
  | with_reducible refine s_orV ?_
  | with_reducible refine s_isi ?_
  | with_reducible refine s_m ?_
  | with_reducible refine s_none ?_
  | with_reducible refine s_noneT ?_
  | with_reducible refine s_sl ?_
  | with_reducible refine s_oN ?_
  | with_reducible refine s_oS ?_
  | with_reducible refine s_lc ?_
  | with_reducible refine s_bN ?_
  | with_reducible refine s_bT ?_
  | with_reducible refine s_bTC ?_
  | with_reducible refine s_bTN ?_
  | with_reducible refine s_it ?_
  | with_reducible refine s_rng ?_
  | with_reducible refine s_zip ?_
  | with_reducible refine s_zip2 ?_
  | with_reducible refine s_enum ?_
  | with_reducible refine s_enum1 ?_
  | with_reducible refine s_yes ?_
  | with_reducible refine s_cT ?_
  | with_reducible refine s_cF ?_
  | with_reducible refine s_retN ?_
  | with_reducible refine s_try ?_
  | with_reducible refine s_raise0 ?_
  | with_reducible refine s_raise1 ?_
  | with_reducible refine s_isE ?_
  | with_reducible refine s_fld ?_
  | with_reducible refine s_brk ?_
  | with_reducible refine s_cnt ?_
  | ((with_reducible refine' s_aug ?k1 ?_); (case k1 => exact rfl))
  | with_reducible refine s_augix ?_
  | with_reducible refine s_addI ?_
  | ((with_reducible refine' s_addT ?k1 ?_); (case k1 => walk_at "side"))
  | ((with_reducible refine' s_addS ?k1 ?_); (case k1 => walk_at "side"))
  | with_reducible refine s_catL ?_
  | with_reducible refine s_subI ?_
  | ((with_reducible refine' s_mulI ?k1 ?_); (case k1 => walk_at "side"))
  | ((with_reducible refine' s_divI ?k1 ?_); (case k1 => walk_at "side"))
  | ((with_reducible refine' s_modI ?k1 ?_); (case k1 => walk_at "side"))
  | ((with_reducible refine' s_powI ?k1 ?_); (case k1 => walk_at "side"))
  | ((with_reducible refine' s_shlI ?k1 ?_); (case k1 => walk_at "side"))
  | with_reducible refine s_iaddI ?_
  | ((with_reducible refine' s_iaddS ?k1 ?_); (case k1 => walk_at "side"))
  | with_reducible refine s_eqI ?_
  | with_reducible refine s_neI ?_
  | with_reducible refine s_eqS ?_
  | with_reducible refine s_neS ?_
  | with_reducible refine s_eqB ?_
  | with_reducible refine s_neB ?_
  | with_reducible refine s_cmp ?_
  | ((with_reducible refine' s_ixX ?k1 ?_); (case k1 => walk_at "side"))
  | with_reducible refine s_lenT ?_
  | with_reducible refine s_lenL ?_
  | with_reducible refine s_lenC ?_
  | ((with_reducible refine' s_lenS ?k1 ?_); (case k1 => walk_at "side"))
  | with_reducible refine s_abs ?_
  | with_reducible refine s_intI ?_
  | with_reducible refine s_intB ?_
  | with_reducible refine s_gcd ?_
  | with_reducible refine s_listT ?_
  | with_reducible refine s_listL ?_
  | with_reducible refine s_tupT ?_
  | with_reducible refine s_tupL ?_
  | with_reducible refine s_all ?_
  | with_reducible refine s_any ?_
  | with_reducible refine s_sum ?_
  | with_reducible refine s_sumAT ?_
  | with_reducible refine s_sumAL ?_
  | with_reducible refine s_cnT ?_
  | with_reducible refine s_cnF ?_
  | with_reducible refine s_par3 ?_
  | with_reducible refine s_max2 ?_
  | with_reducible refine s_min2 ?_
  | with_reducible refine s_chain ?_
  | with_reducible refine s_chainT ?_
  | with_reducible refine s_inL ?_
  | with_reducible refine s_inT ?_
  | with_reducible refine s_append ?_
  | with_reducible refine s_extend ?_
  | with_reducible refine s_popAt ?_
  | with_reducible refine s_pop ?_
  | with_reducible refine s_slT ?_
  | with_reducible refine s_slL ?_
  | with_reducible refine s_itT ?_
  | with_reducible refine s_itL ?_
  | with_reducible refine s_itC ?_
  | ((with_reducible refine' s_rng1 ?k1 ?_); (case k1 => walk_at "side"))
  | ((with_reducible refine' s_rng2 ?k1 ?_); (case k1 => walk_at "side"))
  | ((with_reducible refine' s_rngD ?k1 ?_); (case k1 => walk_at "side"))
  | ((with_reducible refine' s_isLst ?k1 ?_); (case k1 => walk_at "look"))
  | ((with_reducible refine' s_lstOkL ?k1 ?_); (case k1 => walk_at "look"))
  | ((with_reducible refine' And.intro ?k1 ?_); (case k1 => walk_at "side")))
local macro_rules | `(tactic| walk_at "s") => `(tactic| repeat (walk_at "s1"))
/-- agreement off one place -/
def Sx (d : Addr) (s t : DS) : Prop := ∀ a o, a ≠ d → s a = some o → t a = some o
theorem Sx.refl (d : Addr) (s : DS) : Sx d s s := fun _ _ _ h => h
theorem Sx.trans {d : Addr} {s t u : DS} (a : Sx d s t) (b : Sx d t u) : Sx d s u := fun c o n h => b c o n (a c o n h)
theorem Sx.put {d : Addr} {s : DS} {o : OB} : Sx d s (put s d o) := fun a u n h => by rw [put_ne n]; exact h
theorem Sx.of {d : Addr} {s t : DS} (h : Sub s t) : Sx d s t := fun a o _ e => h a o e
theorem Sx.new {d p : Addr} {s : DS} {o : OB} (h : s p = none) : Sx d s (DL.put s p o) := Sx.of (Sub.put_new h)
/-- the state of the draws at d, its cells at c -/
def DrawO (c : Addr) (o : OB) : Prop := ∃ p r s : Int, o = .lst [.ref c, .int p, .int r, .int s] ∧ 0 ≤ p ∧ 0 ≤ r
structure DK (st : DS) (d c : Addr) (ns : List Int) : Prop where
  hd : ∃ o, st d = some o ∧ DrawO c o
  hc : st c = some (.lst (ns.map D.int))
  ne : c ≠ d
theorem DK.put {st : DS} {d c : Addr} {ns : List Int} (h : DK st d c ns) {o : OB} (ho : DrawO c o) : DK (put st d o) d c ns := ⟨⟨o, put_same, ho⟩, by rw [put_ne h.ne]; exact h.hc, h.ne⟩
theorem DK.sub {st st' : DS} {d c : Addr} {ns : List Int} (h : DK st d c ns) (s : Sub st st') : DK st' d c ns := by
  obtain ⟨⟨o, e, q⟩, hc, ne⟩ := h
  exact ⟨⟨o, s _ _ e, q⟩, s _ _ hc, ne⟩
theorem DK.new {st : DS} {d c p : Addr} {ns : List Int} {o : OB} (h : DK st d c ns) (hp : st p = none) : DK (DL.put st p o) d c ns := h.sub (Sub.put_new hp)
/-- what one draw after another brings about -/
structure Dr (d c : Addr) (ns : List Int) (st st' : DS) : Prop where
  sx : Sx d st st'
  dk : DK st' d c ns
theorem Dr.refl {d c : Addr} {ns : List Int} {st : DS} (h : DK st d c ns) : Dr d c ns st st := ⟨.refl _ _, h⟩
theorem Dr.trans {d c : Addr} {ns : List Int} {s t u : DS} (a : Dr d c ns s t) (b : Dr d c ns t u) : Dr d c ns s u := ⟨a.sx.trans b.sx, b.dk⟩
theorem Dr.new {d c p : Addr} {ns : List Int} {s t : DS} {o : OB} (a : Dr d c ns s t) (h : t p = none) : Dr d c ns s (DL.put t p o) := ⟨a.sx.trans (.new h), a.dk.new h⟩
def spDraw : SpD := fun ds st R _ => ∃ (d c : Addr) (ns : List Int) (many : Int), ds = [.ref d, .int many] ∧ DK st d c ns ∧ 0 < many ∧ many.natAbs.log2 < 9000 ∧
  ∀ v st', 0 ≤ v → v < many → Dr d c ns st st' → R (.int v) st'
theorem len_draw : ∀ ds st R Rx, spDraw ds st R Rx → ds.length = 2 := by
  rintro ds st R Rx ⟨d, c, ns, many, rfl, -⟩; rfl
theorem atI_ints {ns : List Int} {p : Int} (h0 : 0 ≤ p) (h1 : p < ns.length) : ∃ z, atI (ns.map D.int) p = some (.int z) := by
  obtain ⟨k, rfl⟩ := Int.eq_ofNat_of_zero_le h0
  have hk : k < ns.length := by omega
  exact ⟨ns[k], atI_nat (by rw [List.getElem?_map, List.getElem?_eq_getElem hk]; rfl)⟩
theorem read_draw : ∀ ds st R Rx, spDraw ds st R Rx → wb_law_draw (bodyEd R Rx) (startD 5 ds) st := by
  rintro ds st R Rx ⟨d, c, ns, many, rfl, dk, hm, hl, kk⟩
  have k : ∀ v o, 0 ≤ v → v < many → DrawO c o → R (.int v) (DL.put st d o) := fun v o h0 h1 ho => kk v _ h0 h1 ⟨.put, dk.put ho⟩
  obtain ⟨⟨o, ho, p, r, s, rfl, h0, hr⟩, hc, ne⟩ := dk
  unfold wb_law_draw bodyEd
  walk_at "s"
  refine s_dec (fun e => ?_) (fun e => ?_)
  · walk_at "s"
    refine s_end (k _ _ (Int.emod_nonneg _ (by omega)) (Int.emod_lt_of_pos _ hm) ⟨_, _, _, rfl, h0, Int.ediv_nonneg hr (by omega)⟩)
  · walk_at "s"
    refine s_dec (fun e1 => ?_) (fun e1 => ?_)
    · walk_at "s"
      rw [List.length_map] at e1
      obtain ⟨z, hz⟩ := atI_ints h0 e1
      refine s_opt hz ?_
      walk_at "s"
      have hz0 : 0 ≤ (2 * if z < 0 then -z else z) + if decide (z < 0) = true then 1 else 0 := by split <;> split <;> omega
      refine s_dec (fun e2 => ?_) (fun e2 => ?_)
      · walk_at "s"
        rw [put_put]
        exact s_end (k _ _ (Int.emod_nonneg _ (by omega)) (Int.emod_lt_of_pos _ hm) ⟨_, _, _, rfl, by omega, Int.ediv_nonneg (Int.emod_nonneg _ (by decide)) (by omega)⟩)
      · walk_at "s"
        rw [put_put]
        exact s_end (k _ _ (Int.emod_nonneg _ (by omega)) (Int.emod_lt_of_pos _ hm) ⟨_, _, _, rfl, by omega, by omega⟩)
    · walk_at "s"
      refine s_dec (fun e2 => ?_) (fun e2 => ?_)
      · walk_at "s"
        rw [put_put]
        exact s_end (k _ _ (Int.emod_nonneg _ (by omega)) (Int.emod_lt_of_pos _ hm) ⟨_, _, _, rfl, by omega, Int.ediv_nonneg (Int.emod_nonneg _ (by decide)) (by omega)⟩)
      · walk_at "s"
        rw [put_put]
        exact s_end (k _ _ (Int.emod_nonneg _ (by omega)) (Int.emod_lt_of_pos _ hm) ⟨_, _, _, rfl, by omega, by omega⟩)
/-! the begin -/
def spBegin : SpD := fun ds st R _ => ∃ ns : List Int, ds = [.scr (ns.map D.int)] ∧ ns.length ≤ sizeLine ∧ ∀ d c st', Sub st st' → DK st' d c ns → R (.ref d) st'
theorem len_begin : ∀ ds st R Rx, spBegin ds st R Rx → ds.length = 1 := by
  rintro ds st R Rx ⟨ns, rfl, -⟩; rfl
theorem read_begin : ∀ ds st R Rx, spBegin ds st R Rx → wb_law_begin (bodyEd R Rx) (startD 2 ds) st := by
  rintro ds st R Rx ⟨ns, rfl, hl, k⟩
  unfold wb_law_begin bodyEd
  walk_at "s"
  refine lc_calm (fun d => d) (fun _ => true) trivial (by simpa using hl) (fun d hd kk kn h1 h2 => ?_) ?_
  · obtain ⟨z, -, rfl⟩ := List.mem_map.mp hd
    walk_at "s"
    exact h1 rfl
  · rw [List.filter_eq_self.mpr (fun _ _ => rfl), List.map_id', List.nil_append]
    intro c hc
    walk_at "s"
    intro d hd
    have nd : c ≠ d := fun e => by rw [e, put_same] at hd; cases hd
    exact s_end (k d c _ ((Sub.put_new hc).trans (Sub.put_new hd)) ⟨⟨_, put_same, _, _, _, rfl, by decide, by decide⟩, by rw [put_ne nd, put_same], nd⟩)
/-! is a whole number -/
def spIsInt : SpD := fun ds st R _ => ∃ d, ds = [d] ∧ lstOk d st ∧ R (.bl (isTy .int d && !isTy .bool d)) st
theorem len_is_int : ∀ ds st R Rx, spIsInt ds st R Rx → ds.length = 1 := by
  rintro ds st R Rx ⟨ns, rfl, -⟩; rfl
theorem read_is_int : ∀ ds st R Rx, spIsInt ds st R Rx → wb_law_is_int (bodyEd R Rx) (startD 1 ds) st := by
  rintro ds st R Rx ⟨d, rfl, hl, k⟩
  unfold wb_law_is_int bodyEd
  walk_at "s"
  refine s_b2 (fun e => ?_) (fun e => ?_)
  · walk_at "s"
    rw [e] at k
    exact s_end k
  · walk_at "s"
    rw [e] at k
    exact s_end k
/-! gcd -/
def spGcd : SpD := fun ds st R _ => ∃ a b : Int, ds = [.int a, .int b] ∧ R (.int ((Nat.gcd a.natAbs b.natAbs : Nat) : Int)) st
theorem len_gcd : ∀ ds st R Rx, spGcd ds st R Rx → ds.length = 2 := by
  rintro ds st R Rx ⟨a, b, rfl, -⟩; rfl
theorem abs_eq (a : Int) : (if a < 0 then -a else a) = (a.natAbs : Int) := by split <;> omega
theorem read_gcd : ∀ ds st R Rx, spGcd ds st R Rx → wb_law_gcd (bodyEd R Rx) (startD 2 ds) st := by
  rintro ds st R Rx ⟨a, b, rfl, k⟩
  unfold wb_law_gcd bodyEd
  walk_at "s"
  rw [abs_eq, abs_eq]
  refine ⟨fun m ep st' => ∃ x y : Nat, m = y ∧ st' = st ∧ ep = [some (.int x), some (.int y)] ∧ Nat.gcd x y = Nat.gcd a.natAbs b.natAbs, ⟨_, _, _, rfl, rfl, rfl, rfl⟩, ?_⟩
  rintro m ep st' ⟨x, y, rfl, rfl, rfl, hg⟩
  walk_at "s"
  refine s_ndec (fun e => ?_) (fun e => ?_)
  · walk_at "s"
    refine ⟨x % m, Nat.mod_lt _ (by omega), m, x % m, rfl, rfl, rfl, ?_⟩
    rw [← hg, Nat.gcd_comm x m, Nat.gcd_rec m x, Nat.gcd_comm]
  · walk_at "s"
    have : m = 0 := by omega
    subst this
    rw [Nat.gcd_zero_right] at hg
    exact s_end (by rw [hg]; exact k)
/-! fractions -/
/-- what holds of n over d brought to lowest terms -/
def FracK (n d : Int) (q : Int → Int → Prop) : Prop := ∀ n' d' : Int, 0 < d' → n' * d = n * d' → Nat.gcd n'.natAbs d'.natAbs = 1 → n'.natAbs ≤ n.natAbs → d'.natAbs ≤ d.natAbs → q n' d'
def fr (n d : Int) : D := .tup [.int n, .int d]
theorem div_gcd {n d : Int} (hd : 0 < d) {q : Int → Int → Prop} (h : FracK n d q) : q (n / ((Nat.gcd n.natAbs d.natAbs : Nat) : Int)) (d / ((Nat.gcd n.natAbs d.natAbs : Nat) : Int)) := by
  have hg : 0 < Nat.gcd n.natAbs d.natAbs := Nat.gcd_pos_of_pos_right _ (by omega)
  obtain ⟨x, hx⟩ : ((Nat.gcd n.natAbs d.natAbs : Nat) : Int) ∣ n := Int.ofNat_dvd_left.mpr (Nat.gcd_dvd_left _ _)
  obtain ⟨y, hy⟩ : ((Nat.gcd n.natAbs d.natAbs : Nat) : Int) ∣ d := Int.ofNat_dvd_left.mpr (Nat.gcd_dvd_right _ _)
  generalize eg : Nat.gcd n.natAbs d.natAbs = g at *
  have hg0 : (g : Int) ≠ 0 := by omega
  have ex : n / (g : Int) = x := by rw [hx]; exact Int.mul_ediv_cancel_left _ hg0
  have ey : d / (g : Int) = y := by rw [hy]; exact Int.mul_ediv_cancel_left _ hg0
  rw [ex, ey]
  have hy0 : 0 < y := by
    rw [hy] at hd
    exact Int.pos_of_mul_pos_right hd (by omega)
  refine h x y hy0 ?_ ?_ ?_ ?_
  · rw [hx, hy, Int.mul_comm (g : Int) x, Int.mul_assoc]
  · rw [hx, hy, Int.natAbs_mul, Int.natAbs_mul, Int.natAbs_natCast, Nat.gcd_mul_left] at eg
    exact Nat.eq_of_mul_eq_mul_left hg (by rw [eg, Nat.mul_one])
  · rw [hx, Int.natAbs_mul, Int.natAbs_natCast]; exact Nat.le_mul_of_pos_left _ hg
  · rw [hy, Int.natAbs_mul, Int.natAbs_natCast]; exact Nat.le_mul_of_pos_left _ hg
theorem FracK.neg {n d : Int} {q : Int → Int → Prop} (h : FracK n d q) : FracK (-n) (-d) q := fun n' d' h1 h2 h3 h4 h5 => h n' d' h1 (by rw [Int.mul_neg, Int.neg_mul] at h2; exact Int.neg_inj.mp h2) h3 (by rwa [Int.natAbs_neg] at h4) (by rwa [Int.natAbs_neg] at h5)
def spFrac : SpD := fun ds st R _ => ∃ n d : Int, ds = [.int n, .int d] ∧ d ≠ 0 ∧ d.natAbs.log2 < 9000 ∧ FracK n d fun n' d' => R (fr n' d') st
theorem len_frac : ∀ ds st R Rx, spFrac ds st R Rx → ds.length = 2 := by
  rintro ds st R Rx ⟨n, d, rfl, -⟩; rfl
theorem log2_le {a b : Nat} (h : a ≤ b) (ha : 0 < a) {k : Nat} (hb : b.log2 < k) : a.log2 < k := by
  have hb0 : b ≠ 0 := by omega
  exact (Nat.log2_lt (by omega)).mpr (Nat.lt_of_le_of_lt h ((Nat.log2_lt hb0).mp hb))
theorem gcd_side {n d : Int} (hd : d ≠ 0) (hl : d.natAbs.log2 < 9000) : 0 < ((Nat.gcd n.natAbs d.natAbs : Nat) : Int) ∧ (((Nat.gcd n.natAbs d.natAbs : Nat) : Int)).natAbs.log2 < 9000 := by
  have hg : 0 < Nat.gcd n.natAbs d.natAbs := Nat.gcd_pos_of_pos_right _ (by omega)
  refine ⟨by omega, ?_⟩
  rw [Int.natAbs_natCast]
  exact log2_le (Nat.gcd_le_right _ (by omega)) hg hl
theorem read_frac : ∀ ds st R Rx, spFrac ds st R Rx → wb_law_frac spGcd (bodyEd R Rx) (startD 3 ds) st := by
  rintro ds st R Rx ⟨n, d, rfl, hd, hl, k⟩
  unfold wb_law_frac bodyEd
  walk_at "s"
  refine s_dec (fun e => ?_) (fun e => ?_)
  · walk_at "s"
    refine ⟨_, _, rfl, ?_⟩
    walk_at "s"
    refine s_divI (gcd_side (by omega) (by rwa [Int.natAbs_neg])) ?_
    walk_at "s"
    refine s_divI (gcd_side (by omega) (by rwa [Int.natAbs_neg])) ?_
    walk_at "s"
    exact s_end (div_gcd (by omega) k.neg)
  · walk_at "s"
    refine ⟨_, _, rfl, ?_⟩
    walk_at "s"
    refine s_divI (gcd_side (by omega) hl) ?_
    walk_at "s"
    refine s_divI (gcd_side (by omega) hl) ?_
    walk_at "s"
    exact s_end (div_gcd (by omega) k)
theorem read_fraction : ∀ ds st R Rx, spFrac ds st R Rx → wb_fraction (bodyEd R Rx) (startD 3 ds) st := by
  rintro ds st R Rx ⟨n, d, rfl, hd, hl, k⟩
  unfold wb_fraction bodyEd
  walk_at "s"
  refine s_noP hd ?_
  walk_at "s"
  refine s_dec (fun e => ?_) (fun e => ?_)
  · walk_at "s"
    refine s_divI (gcd_side (by omega) (by rwa [Int.natAbs_neg])) ?_
    walk_at "s"
    refine s_divI (gcd_side (by omega) (by rwa [Int.natAbs_neg])) ?_
    walk_at "s"
    exact s_end (div_gcd (by omega) k.neg)
  · walk_at "s"
    refine s_divI (gcd_side (by omega) hl) ?_
    walk_at "s"
    refine s_divI (gcd_side (by omega) hl) ?_
    walk_at "s"
    exact s_end (div_gcd (by omega) k)
/-- the product of two -/
def spTimes : SpD := fun ds st R _ => ∃ a b c d : Int, ds = [fr a b, fr c d] ∧ MulOk a c ∧ MulOk b d ∧ b * d ≠ 0 ∧ (b * d).natAbs.log2 < 9000 ∧ FracK (a * c) (b * d) fun n' d' => R (fr n' d') st
def spOver : SpD := fun ds st R _ => ∃ a b c d : Int, ds = [fr a b, fr c d] ∧ MulOk a d ∧ MulOk b c ∧ b * c ≠ 0 ∧ (b * c).natAbs.log2 < 9000 ∧ FracK (a * d) (b * c) fun n' d' => R (fr n' d') st
theorem len_times : ∀ ds st R Rx, spTimes ds st R Rx → ds.length = 2 := by
  rintro ds st R Rx ⟨_, _, _, _, rfl, -⟩; rfl
theorem len_over : ∀ ds st R Rx, spOver ds st R Rx → ds.length = 2 := by
  rintro ds st R Rx ⟨_, _, _, _, rfl, -⟩; rfl
theorem read_ltimes : ∀ ds st R Rx, spTimes ds st R Rx → wb_law_times spFrac (bodyEd R Rx) (startD 2 ds) st := by
  rintro ds st R Rx ⟨a, b, c, d, rfl, h1, h2, h3, h4, k⟩
  unfold wb_law_times bodyEd fr
  walk_at "s"
  exact ⟨_, _, rfl, h3, h4, fun n' d' z1 z2 z3 z4 z5 => s_end (k n' d' z1 z2 z3 z4 z5)⟩
theorem read_lover : ∀ ds st R Rx, spOver ds st R Rx → wb_law_over spFrac (bodyEd R Rx) (startD 2 ds) st := by
  rintro ds st R Rx ⟨a, b, c, d, rfl, h1, h2, h3, h4, k⟩
  unfold wb_law_over bodyEd fr
  walk_at "s"
  exact ⟨_, _, rfl, h3, h4, fun n' d' z1 z2 z3 z4 z5 => s_end (k n' d' z1 z2 z3 z4 z5)⟩
theorem read_times : ∀ ds st R Rx, spTimes ds st R Rx → wb_times spFrac (bodyEd R Rx) (startD 2 ds) st := by
  rintro ds st R Rx ⟨a, b, c, d, rfl, h1, h2, h3, h4, k⟩
  unfold wb_times bodyEd fr
  walk_at "s"
  exact ⟨_, _, rfl, h3, h4, fun n' d' z1 z2 z3 z4 z5 => s_end (k n' d' z1 z2 z3 z4 z5)⟩
theorem read_over : ∀ ds st R Rx, spOver ds st R Rx → wb_over spFrac (bodyEd R Rx) (startD 2 ds) st := by
  rintro ds st R Rx ⟨a, b, c, d, rfl, h1, h2, h3, h4, k⟩
  unfold wb_over bodyEd fr
  walk_at "s"
  exact ⟨_, _, rfl, h3, h4, fun n' d' z1 z2 z3 z4 z5 => s_end (k n' d' z1 z2 z3 z4 z5)⟩
/-- a1/a2 at most b1/b2; less -/
def spAtMost : SpD := fun ds st R _ => ∃ a b c d : Int, ds = [fr a b, fr c d] ∧ MulOk a d ∧ MulOk c b ∧ R (.bl (decide (a * d ≤ c * b))) st
def spLess : SpD := fun ds st R _ => ∃ a b c d : Int, ds = [fr a b, fr c d] ∧ MulOk a d ∧ MulOk c b ∧ R (.bl (decide (a * d < c * b))) st
theorem len_at_most : ∀ ds st R Rx, spAtMost ds st R Rx → ds.length = 2 := by
  rintro ds st R Rx ⟨_, _, _, _, rfl, -⟩; rfl
theorem len_less : ∀ ds st R Rx, spLess ds st R Rx → ds.length = 2 := by
  rintro ds st R Rx ⟨_, _, _, _, rfl, -⟩; rfl
theorem read_at_most : ∀ ds st R Rx, spAtMost ds st R Rx → wb_at_most (bodyEd R Rx) (startD 2 ds) st := by
  rintro ds st R Rx ⟨a, b, c, d, rfl, h1, h2, k⟩
  unfold wb_at_most bodyEd fr
  walk_at "s"
  exact s_end k
theorem read_less : ∀ ds st R Rx, spLess ds st R Rx → wb_law_less (bodyEd R Rx) (startD 2 ds) st := by
  rintro ds st R Rx ⟨a, b, c, d, rfl, h1, h2, k⟩
  unfold wb_law_less bodyEd fr
  walk_at "s"
  exact s_end k
/-- a fraction with no sign: drawn -/
def spFraction : SpD := fun ds st R _ => ∃ (d c : Addr) (ns : List Int) (top bot : Int), ds = [.ref d, .int top, .int bot] ∧ DK st d c ns ∧ 0 ≤ top ∧ (top + 1).natAbs.log2 < 9000 ∧ 0 < bot ∧ bot.natAbs.log2 < 9000 ∧
  ∀ n m st', 0 ≤ n → n ≤ top → 0 < m → m ≤ bot → Nat.gcd n.natAbs m.natAbs = 1 → Dr d c ns st st' → R (fr n m) st'
theorem len_fraction : ∀ ds st R Rx, spFraction ds st R Rx → ds.length = 3 := by
  rintro ds st R Rx ⟨_, _, _, _, _, rfl, -⟩; rfl
/-- of a fraction with 0 <= n, 0 < d: the terms -/
theorem FracK.pos {n d : Int} (h0 : 0 ≤ n) (hd : 0 < d) {q : Int → Int → Prop} (h : ∀ n' d' : Int, 0 ≤ n' → n' ≤ n → 0 < d' → d' ≤ d → n' * d = n * d' → Nat.gcd n'.natAbs d'.natAbs = 1 → q n' d') : FracK n d q := fun n' d' h1 h2 h3 h4 h5 => by
  have : 0 ≤ n' := by
    rcases Int.lt_or_le n' 0 with hn | hn
    · have := Int.mul_neg_of_neg_of_pos hn hd
      have h9 : 0 ≤ n * d' := Int.mul_nonneg h0 (by omega)
      omega
    · exact hn
  exact h n' d' this (by omega) h1 (by omega) h2 h3
theorem read_lfraction : ∀ ds st R Rx, spFraction ds st R Rx → wb_law_fraction spFrac spDraw (bodyEd R Rx) (startD 3 ds) st := by
  rintro ds st R Rx ⟨d, c, ns, top, bot, rfl, dk, h0, h1, h2, h3, k⟩
  unfold wb_law_fraction bodyEd
  walk_at "s"
  refine ⟨d, c, ns, _, rfl, dk, by omega, h1, fun v st1 hv1 hv2 r1 => ?_⟩
  walk_at "s"
  refine ⟨d, c, ns, _, rfl, r1.dk, by omega, h3, fun v2 st2 hv3 hv4 r2 => ?_⟩
  walk_at "s"
  refine ⟨_, _, rfl, by omega, log2_le (b := bot.natAbs) (by omega) (by omega) h3, FracK.pos (by omega) (by omega) fun n' d' z1 z2 z3 z4 z5 z6 => s_end (k _ _ _ z1 (by omega) z3 (by omega) z6 (r1.trans r2))⟩
/-- a fraction in (0, 1] -/
def spAboveZero : SpD := fun ds st R _ => ∃ (d c : Addr) (ns : List Int) (bot : Int), ds = [.ref d, .int bot] ∧ DK st d c ns ∧ 0 < bot ∧ bot.natAbs.log2 < 9000 ∧
  ∀ n m st', 0 < n → n ≤ m → m ≤ bot → Nat.gcd n.natAbs m.natAbs = 1 → Dr d c ns st st' → R (fr n m) st'
theorem len_above_zero : ∀ ds st R Rx, spAboveZero ds st R Rx → ds.length = 2 := by
  rintro ds st R Rx ⟨_, _, _, _, rfl, -⟩; rfl
theorem read_above_zero : ∀ ds st R Rx, spAboveZero ds st R Rx → wb_law_above_zero spDraw spFrac (bodyEd R Rx) (startD 3 ds) st := by
  rintro ds st R Rx ⟨d, c, ns, bot, rfl, dk, h0, h1, k⟩
  unfold wb_law_above_zero bodyEd
  walk_at "s"
  refine ⟨d, c, ns, _, rfl, dk, by omega, h1, fun v st1 hv1 hv2 r1 => ?_⟩
  walk_at "s"
  have hl : (1 + v).natAbs.log2 < 9000 := log2_le (b := bot.natAbs) (by omega) (by omega) h1
  refine ⟨d, c, ns, _, rfl, r1.dk, by omega, hl, fun v2 st2 hv3 hv4 r2 => ?_⟩
  walk_at "s"
  refine ⟨_, _, rfl, by omega, hl, FracK.pos (by omega) (by omega) fun n' d' z1 z2 z3 z4 z5 z6 => s_end (k _ _ _ ?_ ?_ (by omega) z6 (r1.trans r2))⟩
  · rcases Int.lt_or_le 0 n' with h | h
    · exact h
    · have : n' = 0 := by omega
      rw [this, Int.zero_mul] at z5
      have := Int.mul_pos (show (0 : Int) < 1 + v2 by omega) z3
      omega
  · have a1 : n' * (1 + v) ≤ (1 + v) * d' := by rw [z5]; exact Int.mul_le_mul_of_nonneg_right (by omega) (by omega)
    rw [Int.mul_comm] at a1
    exact Int.le_of_mul_le_mul_left a1 (by omega)
/-! sizes -/
theorem sm {x : Int} (h0 : 0 < x) (h1 : x ≤ 100000000000000000000) : x.natAbs.log2 < 9000 := log2_le (b := 100000000000000000000) (by omega) (by omega) (by decide +kernel)
theorem smm {b d : Int} (h0 : 0 < b) (h1 : b ≤ 10000000000) (h2 : 0 < d) (h3 : d ≤ 10000000000) : b * d ≠ 0 ∧ 0 < b * d ∧ b * d ≤ 100000000000000000000 ∧ (b * d).natAbs.log2 < 9000 := by
  have a := Int.mul_pos h0 h2
  have b1 : b * d ≤ 10000000000 * d := Int.mul_le_mul_of_nonneg_right h1 (by omega)
  exact ⟨by omega, a, by omega, sm a (by omega)⟩
theorem _root_.DL.Sub.none {s t : DS} (h : Sub s t) {p : Addr} (e : t p = none) : s p = none := by
  cases q : s p with
  | none => rfl
  | some o => rw [h _ _ q] at e; cases e
/-! every row of letters -/
def rowD (r : List Int) : D := .tup (r.map D.int)
def rowsOf (L : Nat) : Nat → List (List Int)
  | 0 => [[]]
  | n + 1 => (rowsOf L n).flatMap fun row => (List.range L).map fun i : Nat => row ++ [(i : Int)]
theorem rowsOf_length (L : Nat) : ∀ n, (rowsOf L n).length = L ^ n
  | 0 => rfl
  | n + 1 => by
    have : ∀ xs : List (List Int), (xs.flatMap fun row => (List.range L).map fun i : Nat => row ++ [(i : Int)]).length = xs.length * L := by
      intro xs
      induction xs with
      | nil => simp
      | cons x xs ih => rw [List.flatMap_cons, List.length_append, ih, List.length_map, List.length_range, List.length_cons, Nat.succ_mul, Nat.add_comm]
    rw [rowsOf, this, rowsOf_length L n, Nat.pow_succ]
theorem rowsOf_len {L : Nat} : ∀ {n : Nat} {r : List Int}, r ∈ rowsOf L n → r.length = n
  | 0, r, h => by
    have : r = [] := by simpa [rowsOf] using h
    subst this; rfl
  | n + 1, r, h => by
    obtain ⟨row, h1, h2⟩ := List.mem_flatMap.mp h
    obtain ⟨i, -, rfl⟩ := List.mem_map.mp h2
    rw [List.length_append, rowsOf_len h1]; rfl
theorem rowsOf_mem {L : Nat} : ∀ {n : Nat} {f : Nat → Nat}, (∀ i, i < n → f i < L) → ((List.range n).map fun i => ((f i : Nat) : Int)) ∈ rowsOf L n
  | 0, f, _ => by simp [rowsOf]
  | n + 1, f, h => by
    rw [List.range_succ, List.map_append]
    refine List.mem_flatMap.mpr ⟨_, rowsOf_mem fun i hi => h i (by omega), List.mem_map.mpr ⟨f n, List.mem_range.mpr (h n (by omega)), rfl⟩⟩
def spAllRows : SpD := fun ds st R _ => ∃ L n : Nat, ds = [.int L, .int n] ∧ L ^ n ≤ sizeLine ∧ n ≤ 1000 ∧ 0 < L ∧ L ≤ 1000 ∧ ∀ p st', Sub st st' → st' p = some (.lst ((rowsOf L n).map rowD)) → R (.ref p) st'
theorem len_all_rows : ∀ ds st R Rx, spAllRows ds st R Rx → ds.length = 2 := by
  rintro ds st R Rx ⟨_, _, rfl, -⟩; rfl
theorem read_all_rows : ∀ ds st R Rx, spAllRows ds st R Rx → wb_law_all_rows (bodyEd R Rx) (startD 7 ds) st := by
  rintro ds st R Rx ⟨L, n, rfl, hs, hn, hL, hL2, k⟩
  unfold wb_law_all_rows bodyEd
  walk_at "s"
  intro p0 hp0
  walk_at "s"
  refine for_ind (fun rest ep st' => ∃ j p x3 x4 x5 x6, rest.length + j = n ∧ ep = [some (.int L), some (.int n), some (.ref p), x3, x4, x5, x6] ∧ Sub st st' ∧ st' p = some (.lst ((rowsOf L j).map rowD))) ?_ ?_ _ _ _ ⟨0, p0, none, none, none, none, by simp, rfl, Sub.put_new hp0, put_same⟩
  · rintro ep st' ⟨j, p, x3, x4, x5, x6, hj, rfl, hs', hp⟩
    refine ⟨trivial, ?_⟩
    walk_at "s"
    simp only [List.length_nil, Nat.zero_add] at hj
    subst hj
    exact s_end (k _ _ hs' hp)
  · rintro d r ep st' ⟨j, p, x3, x4, x5, x6, hj, rfl, hs', hp⟩ ih
    refine ⟨trivial, ?_⟩
    have hlen : ((rowsOf L j).map rowD).length * L ≤ sizeLine := by
      rw [List.length_map, rowsOf_length, ← Nat.pow_succ]
      refine Nat.le_trans (Nat.pow_le_pow_right hL ?_) hs
      simp only [List.length_cons] at hj; omega
    rw [List.length_map] at hlen
    walk_at "s"
    intro q hq
    have npq : p ≠ q := fun e => by rw [e, hq] at hp; cases hp
    walk_at "s"
    refine for_ind (fun rest ep T => ∃ pre suf x3 x5 x6, rowsOf L j = pre ++ suf ∧ rest = suf.map rowD ∧ ep = [some (.int L), some (.int n), some (.ref p), x3, some (.ref q), x5, x6] ∧ Sub st T ∧ T p = some (.lst ((rowsOf L j).map rowD)) ∧
      T q = some (.lst ((pre.flatMap fun row => (List.range L).map fun i : Nat => row ++ [(i : Int)]).map rowD))) ?_ ?_ _ _ _ ⟨[], rowsOf L j, _, _, _, rfl, rfl, rfl, hs'.put_to _ (hs'.none hq), by rw [put_ne npq]; exact hp, put_same⟩
    · rintro ep T ⟨pre, suf, x3, x5, x6, e, e2, rfl, sT, hp, hq⟩
      refine ⟨hp, ?_⟩
      walk_at "s"
      have : suf = [] := by cases suf with
        | nil => rfl
        | cons _ _ => cases e2
      subst this
      rw [List.append_nil] at e
      rw [← e] at hq
      exact ih _ _ ⟨j + 1, q, _, _, _, _, by simp only [List.length_cons] at hj; omega, rfl, sT, hq⟩
    · rintro d2 r2 ep T ⟨pre, suf, x3, x5, x6, e, e2, rfl, sT, hp, hqT⟩ ih2
      refine ⟨hp, ?_⟩
      cases suf with
      | nil => cases e2
      | cons row suf =>
        obtain ⟨rfl, rfl⟩ := List.cons.inj e2
        have hrow : row.length = j := rowsOf_len (L := L) (n := j) (by rw [e]; exact List.mem_append_right _ List.mem_cons_self)
        have hjn : j < n := by simp only [List.length_cons] at hj; omega
        walk_at "s"
        rw [Int.toNat_natCast]
        have hll : L ≤ sizeLine := by show L ≤ 2 ^ 24; omega
        refine lc_calm (fun d => match d with | .int i => .tup (row.map D.int ++ [.int i]) | d => d) (fun _ => true) trivial (by rw [List.length_map, List.length_range, List.length_nil]; omega) (fun d hd kk kn h1 h2 => ?_) ?_
        · obtain ⟨i, -, rfl⟩ := List.mem_map.mp hd
          unfold rowD
          walk_at "s"
          refine s_addT (by rw [List.length_map, hrow]; show j + 1 ≤ 2 ^ 24; omega) ?_
          exact h1 rfl
        · rw [List.filter_eq_self.mpr (fun _ _ => rfl), List.map_map, List.nil_append]
          intro u hu
          have nqu : q ≠ u := fun e => by rw [e, hu] at hqT; cases hqT
          have npu : p ≠ u := fun e => by rw [e, hu] at hp; cases hp
          walk_at "s"
          have hl2 : (pre.flatMap fun row => (List.range L).map fun i : Nat => row ++ [(i : Int)]).length = pre.length * L := by
            clear e hqT
            induction pre with
            | nil => simp
            | cons x xs ih => rw [List.flatMap_cons, List.length_append, ih, List.length_map, List.length_range, List.length_cons, Nat.succ_mul, Nat.add_comm]
          have hpl : pre.length + 1 ≤ (rowsOf L j).length := by rw [e, List.length_append, List.length_cons]; omega
          have hm : (pre.length + 1) * L ≤ (rowsOf L j).length * L := Nat.mul_le_mul_right _ hpl
          rw [Nat.succ_mul] at hm
          refine ⟨by rw [List.length_map, hl2, List.length_map, List.length_range]; omega, ?_⟩
          refine ih2 _ _ ⟨pre ++ [row], suf, _, _, _, by rw [e, List.append_assoc]; rfl, rfl, rfl, (sT.put_to _ (sT.none hu)).put_to _ (hs'.none hq), ?_, ?_⟩
          · rw [put_ne npq, put_ne npu]; exact hp
          · rw [put_same, List.flatMap_append, List.map_append, List.flatMap_cons, List.flatMap_nil, List.append_nil, List.map_map]
            congr 3
            refine List.map_congr_left fun i _ => ?_
            show D.tup _ = D.tup _
            rw [List.map_append, Int.zero_add]; rfl
end C
end DL

namespace DL
namespace C
open PySem L2
local macro_rules | `(tactic| walk_at "look") => `(tactic| first
  | assumption
  | exact put_same
  | (refine look_ne (by first | assumption | exact Ne.symm (by assumption)) ?_; walk_at "look")
  | (refine look_new (by assumption) ?_; walk_at "look"))
local macro_rules | `(tactic| walk_at "side") => `(tactic| first | assumption | exact trivial | decide | omega | exact ⟨by assumption, by assumption⟩ | exact ⟨by omega, by omega⟩ | exact ⟨by decide, by decide⟩ | exact ⟨by decide, by decide, by decide⟩ | (exact .inl (.inl ⟨by decide, by decide⟩)) | (exact .inl (.inr ⟨by decide, by decide⟩)) | (exact .inl (.inl ⟨by omega, by omega⟩)) | (exact .inl (.inr ⟨by omega, by omega⟩)))
local macro_rules | `(tactic| walk_at "opt") => `(tactic| first | (with_reducible exact atI_0 _ _) | (with_reducible exact atI_1 _ _ _) | (with_reducible exact atI_2 _ _ _ _) | (with_reducible exact atI_3 _ _ _ _ _) | (with_reducible exact atI_4 _ _ _ _ _ _) | assumption | exact atI_0 _ _ | exact atI_1 _ _ _ | exact atI_2 _ _ _ _ | exact atI_3 _ _ _ _ _ | exact atI_4 _ _ _ _ _ _ | exact boolsOf_map _ | exact intsOf_map _ | exact rfl)
local macro_rules | `(tactic| walk_at "s1") => `(tactic| first
  | ((with_reducible refine' s_var ?k1 ?_); (case k1 => exact rfl))
  | with_reducible refine s_bin ?_
  | with_reducible refine s_c ?_
  | with_reducible refine s_seqM ?_
  | with_reducible refine s_asB ?_
  | with_reducible refine s_asI ?_
  | with_reducible refine s_asRI ?_
  | with_reducible refine s_acons ?_
  | with_reducible refine s_anil ?_
  | with_reducible refine s_call ?_
  | with_reducible refine s_cb ?_
  | with_reducible refine s_set ?_
  | with_reducible refine s_ixT ?_
  | with_reducible refine s_ixL ?_
  | with_reducible refine s_ixS ?_
  | ((with_reducible refine' s_getL ?k1 ?_); (case k1 => walk_at "look"))
  | ((with_reducible refine' s_opt ?k1 ?_); (case k1 => walk_at "opt"))
  | with_reducible refine s_binT ?_
  | with_reducible refine s_tup ?_
  | with_reducible refine s_tpT ?_
  | with_reducible refine s_lst ?_
  | with_reducible refine s_ret ?_
  | with_reducible refine s_if ?_
  | with_reducible refine s_nextM ?_
  | with_reducible refine s_drop ?_
  | with_reducible refine s_par ?_
  | with_reducible refine s_asg ?_
  | with_reducible refine s_gN ?_
  | ((with_reducible refine' s_gT ?k1 ?_); (case k1 => exact rfl))
  | with_reducible refine s_gsC ?_
  | with_reducible refine s_gsN ?_
  | with_reducible refine s_gIx ?_
  | with_reducible refine s_setD ?_
  | with_reducible refine s_for ?_
  | with_reducible refine s_b ?_
  | with_reducible refine s_and ?_
  | with_reducible refine s_or ?_
  | with_reducible refine s_not ?_
  | with_reducible refine s_ife ?_
  | with_reducible refine s_neg ?_
  | with_reducible refine s_notV ?_
  | with_reducible refine s_andV ?_
  | with_reducible refine s_orV ?_
  | with_reducible refine s_isi ?_
  | with_reducible refine s_m ?_
  | with_reducible refine s_none ?_
  | with_reducible refine s_noneT ?_
  | with_reducible refine s_sl ?_
  | with_reducible refine s_oN ?_
  | with_reducible refine s_oS ?_
  | with_reducible refine s_lc ?_
  | with_reducible refine s_bN ?_
  | with_reducible refine s_bT ?_
  | with_reducible refine s_bTC ?_
  | with_reducible refine s_bTN ?_
  | with_reducible refine s_it ?_
  | with_reducible refine s_rng ?_
  | with_reducible refine s_zip ?_
  | with_reducible refine s_zip2 ?_
  | with_reducible refine s_enum ?_
  | with_reducible refine s_enum1 ?_
  | with_reducible refine s_yes ?_
  | with_reducible refine s_cT ?_
  | with_reducible refine s_cF ?_
  | with_reducible refine s_retN ?_
  | with_reducible refine s_try ?_
  | with_reducible refine s_raise0 ?_
  | with_reducible refine s_raise1 ?_
  | with_reducible refine s_isE ?_
  | with_reducible refine s_fld ?_
  | with_reducible refine s_brk ?_
  | with_reducible refine s_cnt ?_
  | ((with_reducible refine' s_aug ?k1 ?_); (case k1 => exact rfl))
  | with_reducible refine s_augix ?_
  | with_reducible refine s_addI ?_
  | ((with_reducible refine' s_addT ?k1 ?_); (case k1 => walk_at "side"))
  | ((with_reducible refine' s_addS ?k1 ?_); (case k1 => walk_at "side"))
  | with_reducible refine s_catL ?_
  | with_reducible refine s_subI ?_
  | ((with_reducible refine' s_mulI ?k1 ?_); (case k1 => walk_at "side"))
  | ((with_reducible refine' s_divI ?k1 ?_); (case k1 => walk_at "side"))
  | ((with_reducible refine' s_modI ?k1 ?_); (case k1 => walk_at "side"))
  | ((with_reducible refine' s_powI ?k1 ?_); (case k1 => walk_at "side"))
  | ((with_reducible refine' s_shlI ?k1 ?_); (case k1 => walk_at "side"))
  | with_reducible refine s_iaddI ?_
  | ((with_reducible refine' s_iaddS ?k1 ?_); (case k1 => walk_at "side"))
  | with_reducible refine s_eqI ?_
  | with_reducible refine s_neI ?_
  | with_reducible refine s_eqS ?_
  | with_reducible refine s_neS ?_
  | with_reducible refine s_eqB ?_
  | with_reducible refine s_neB ?_
  | with_reducible refine s_cmp ?_
  | ((with_reducible refine' s_ixX ?k1 ?_); (case k1 => walk_at "side"))
  | with_reducible refine s_lenT ?_
  | with_reducible refine s_lenL ?_
  | with_reducible refine s_lenC ?_
  | ((with_reducible refine' s_lenS ?k1 ?_); (case k1 => walk_at "side"))
  | with_reducible refine s_abs ?_
  | with_reducible refine s_intI ?_
  | with_reducible refine s_intB ?_
  | with_reducible refine s_gcd ?_
  | with_reducible refine s_listT ?_
  | with_reducible refine s_listL ?_
  | with_reducible refine s_tupT ?_
  | with_reducible refine s_tupL ?_
  | with_reducible refine s_all ?_
  | with_reducible refine s_any ?_
  | with_reducible refine s_sum ?_
  | with_reducible refine s_sumAT ?_
  | with_reducible refine s_sumAL ?_
  | with_reducible refine s_cnT ?_
  | with_reducible refine s_cnF ?_
  | with_reducible refine s_par3 ?_
  | with_reducible refine s_max2 ?_
  | with_reducible refine s_min2 ?_
  | with_reducible refine s_chain ?_
  | with_reducible refine s_chainT ?_
  | with_reducible refine s_inL ?_
  | with_reducible refine s_inT ?_
  | with_reducible refine s_append ?_
  | with_reducible refine s_extend ?_
  | with_reducible refine s_popAt ?_
  | with_reducible refine s_pop ?_
  | with_reducible refine s_slT ?_
  | with_reducible refine s_slL ?_
  | with_reducible refine s_itT ?_
  | with_reducible refine s_itL ?_
  | with_reducible refine s_itC ?_
  | ((with_reducible refine' s_rng1 ?k1 ?_); (case k1 => walk_at "side"))
  | ((with_reducible refine' s_rng2 ?k1 ?_); (case k1 => walk_at "side"))
  | ((with_reducible refine' s_rngD ?k1 ?_); (case k1 => walk_at "side"))
  | ((with_reducible refine' s_isLst ?k1 ?_); (case k1 => walk_at "look"))
  | ((with_reducible refine' s_lstOkL ?k1 ?_); (case k1 => walk_at "look"))
  | ((with_reducible refine' And.intro ?k1 ?_); (case k1 => walk_at "side")))
local macro_rules | `(tactic| walk_at "s") => `(tactic| repeat (walk_at "s1"))
/-! fractions as Rat -/
def qD (x : Rat) : D := .tup [.int x.num, .int (x.den : Int)]
theorem den_pos (x : Rat) : (0 : Int) < (x.den : Int) := by have := x.den_pos; omega
theorem rat_cast (x : Rat) : (x.num : Rat) / (x.den : Int) = x := by
  rw [← Rat.divInt_eq_div]
  exact Rat.num_divInt_den x
theorem f_add {a b c d : Rat} (hb : b ≠ 0) (hd : d ≠ 0) : (a * d + c * b) / (b * d) = a / b + c / d := by grind
theorem f_sub {a b c d : Rat} (hb : b ≠ 0) (hd : d ≠ 0) : (a * d - c * b) / (b * d) = a / b - c / d := by grind
theorem f_mul {a b c d : Rat} (hb : b ≠ 0) (hd : d ≠ 0) : (a * c) / (b * d) = a / b * (c / d) := by grind
theorem f_div {a b c d : Rat} (hb : b ≠ 0) (hc : c ≠ 0) (hd : d ≠ 0) : (a * d) / (b * c) = a / b / (c / d) := by grind
theorem rat_of {n d : Int} (hd : 0 < d) (c : Nat.gcd n.natAbs d.natAbs = 1) {x : Rat} (h : (n : Rat) / d = x) : x.num = n ∧ (x.den : Int) = d := by
  obtain ⟨k, rfl⟩ := Int.eq_ofNat_of_zero_le (Int.le_of_lt hd)
  have hk : k ≠ 0 := by omega
  let r : Rat := ⟨n, k, hk, c⟩
  have e : (r.num : Rat) / (r.den : Int) = r := rat_cast r
  have e2 : r = x := by rw [← e, ← h]
  rw [← e2]
  exact ⟨rfl, rfl⟩
theorem frac_rat {n d : Int} (hd : d ≠ 0) {p : Int → Int → Prop} (h : ∀ x : Rat, x = (n : Rat) / d → x.num.natAbs ≤ n.natAbs → x.den ≤ d.natAbs → p x.num x.den) : FracK n d p := by
  intro n' d' h1 h2 h3 h4 h5
  have hdq : (d : Rat) ≠ 0 := by exact_mod_cast hd
  have hd' : (d' : Rat) ≠ 0 := by
    exact fun e => by have := Rat.intCast_eq_zero_iff.mp e; omega
  have e : (n' : Rat) / d' = (n : Rat) / d := by
    have h2q : (n' : Rat) * d = n * d' := by exact_mod_cast h2
    grind
  obtain ⟨e1, e2⟩ := rat_of h1 h3 e
  have := h _ rfl (by rw [e1]; exact h4) (by have : (((n : Rat) / d).den : Int).natAbs = d'.natAbs := by rw [e2]
                                             rw [Int.natAbs_natCast] at this; rw [this]; exact h5)
  rw [e1, e2] at this
  exact this
/-- less than 2 ^ k -/
def Bt (k : Nat) (x : Int) : Prop := x.natAbs < 2 ^ k
theorem Bt.mono {k l : Nat} {x : Int} (h : Bt k x) (hl : k ≤ l) : Bt l x := Nat.lt_of_lt_of_le h (Nat.pow_le_pow_right (by decide) hl)
theorem Bt.mul {k l : Nat} {x y : Int} (h : Bt k x) (g : Bt l y) : Bt (k + l) (x * y) := by
  unfold Bt at *
  rw [Int.natAbs_mul, Nat.pow_add]
  exact Nat.mul_lt_mul'' h g
theorem Bt.add {k : Nat} {x y : Int} (h : Bt k x) (g : Bt k y) : Bt (k + 1) (x + y) := by
  unfold Bt at *
  rw [Nat.pow_succ]
  have := Int.natAbs_add_le x y
  omega
theorem Bt.sub {k : Nat} {x y : Int} (h : Bt k x) (g : Bt k y) : Bt (k + 1) (x - y) := by
  unfold Bt at *
  rw [Nat.pow_succ]
  omega
theorem Bt.log {k : Nat} {x : Int} (h : Bt k x) (hk : 0 < k) : x.natAbs.log2 < k := by
  unfold Bt at h
  by_cases h0 : x.natAbs = 0
  · rw [h0]
    have : Nat.log2 0 = 0 := by decide
    rw [this]; exact hk
  · exact (Nat.log2_lt h0).mpr h
theorem Bt.log9 {k : Nat} {x : Int} (h : Bt k x) (hk : k ≤ 9000) : x.natAbs.log2 < 9000 := (h.mono hk).log (by decide)
theorem Bt.ok {k l : Nat} {x y : Int} (h : Bt k x) (g : Bt l y) (hk : k + l ≤ 400000) : MulOk x y := by
  have a := (h.mono (Nat.le_succ k)).log (Nat.succ_pos k)
  have b := (g.mono (Nat.le_succ l)).log (Nat.succ_pos l)
  refine .inr ?_
  unfold CMulW
  omega
theorem Bt.of_le {k : Nat} {x y : Int} (h : Bt k x) (hy : y.natAbs ≤ x.natAbs) : Bt k y := Nat.lt_of_le_of_lt hy h
structure Bits (k : Nat) (x : Rat) : Prop where
  n : Bt k x.num
  d : Bt k (x.den : Int)
theorem Bits.mono {k l : Nat} {x : Rat} (h : Bits k x) (hl : k ≤ l) : Bits l x := ⟨h.n.mono hl, h.d.mono hl⟩
theorem bits_of {k : Nat} {x : Rat} {n d : Int} (hn : Bt k n) (hd : Bt k d) (h1 : x.num.natAbs ≤ n.natAbs) (h2 : x.den ≤ d.natAbs) : Bits k x := ⟨hn.of_le h1, hd.of_le (by rw [Int.natAbs_natCast]; exact h2)⟩
/-- what a def of two fractions does -/
def spQ2 (ok : Rat → Rat → Prop) (f : Rat → Rat → Rat) : SpD := fun ds st R _ => ∃ (x y : Rat) (k l : Nat), ds = [qD x, qD y] ∧ Bits k x ∧ Bits l y ∧ k + l + 1 ≤ 9000 ∧ ok x y ∧ (Bits (k + l + 1) (f x y) → R (qD (f x y)) st)
theorem len_q2 {ok f} : ∀ ds st R Rx, spQ2 ok f ds st R Rx → ds.length = 2 := by
  rintro ds st R Rx ⟨_, _, _, _, rfl, -⟩; rfl
abbrev spPlus : SpD := spQ2 (fun _ _ => True) (· + ·)
abbrev spMinus : SpD := spQ2 (fun _ _ => True) (· - ·)
abbrev spTimesQ : SpD := spQ2 (fun _ _ => True) (· * ·)
abbrev spOverQ : SpD := spQ2 (fun _ y => y ≠ 0) (· / ·)
theorem cast_den (x : Rat) : ((x.den : Int) : Rat) ≠ 0 := by
  have := den_pos x
  have h : (x.den : Int) ≠ 0 := by omega
  exact_mod_cast h
theorem rat_ne {x : Rat} (h : x ≠ 0) : x.num ≠ 0 := fun e => h (by rw [← rat_cast x, e]; grind)
theorem read_plus : ∀ ds st R Rx, spPlus ds st R Rx → wb_law_plus spFrac (bodyEd R Rx) (startD 2 ds) st := by
  rintro ds st R Rx ⟨x, y, k, l, rfl, bx, by', hk, -, kk⟩
  unfold wb_law_plus bodyEd qD
  have d1 := den_pos x
  have d2 := den_pos y
  walk_at "s"
  refine s_mulI (bx.n.ok by'.d (by omega)) ?_
  walk_at "s"
  refine s_mulI (by'.n.ok bx.d (by omega)) ?_
  walk_at "s"
  refine s_mulI (bx.d.ok by'.d (by omega)) ?_
  walk_at "s"
  have hn : (x.den : Int) * (y.den : Int) ≠ 0 := Int.mul_ne_zero (by omega) (by omega)
  refine ⟨_, _, rfl, hn, (bx.d.mul by'.d).log9 (by omega), frac_rat hn fun z ez z1 z2 => ?_⟩
  have e : z = x + y := by
    rw [ez, Rat.intCast_add, Rat.intCast_mul, Rat.intCast_mul, Rat.intCast_mul, f_add (cast_den x) (cast_den y), rat_cast, rat_cast]
  have b := bits_of ((((bx.n.mul by'.d).add ((by'.n.mul bx.d).mono (by omega))))) ((bx.d.mul by'.d).mono (Nat.le_succ _)) z1 z2
  rw [e] at b ⊢
  exact s_end (kk b)
theorem read_minus : ∀ ds st R Rx, spMinus ds st R Rx → wb_law_minus spFrac (bodyEd R Rx) (startD 2 ds) st := by
  rintro ds st R Rx ⟨x, y, k, l, rfl, bx, by', hk, -, kk⟩
  unfold wb_law_minus bodyEd qD
  have d1 := den_pos x
  have d2 := den_pos y
  walk_at "s"
  refine s_mulI (bx.n.ok by'.d (by omega)) ?_
  walk_at "s"
  refine s_mulI (by'.n.ok bx.d (by omega)) ?_
  walk_at "s"
  refine s_mulI (bx.d.ok by'.d (by omega)) ?_
  walk_at "s"
  have hn : (x.den : Int) * (y.den : Int) ≠ 0 := Int.mul_ne_zero (by omega) (by omega)
  refine ⟨_, _, rfl, hn, (bx.d.mul by'.d).log9 (by omega), frac_rat hn fun z ez z1 z2 => ?_⟩
  have e : z = x - y := by
    rw [ez, Rat.intCast_sub, Rat.intCast_mul, Rat.intCast_mul, Rat.intCast_mul, f_sub (cast_den x) (cast_den y), rat_cast, rat_cast]
  have b := bits_of ((((bx.n.mul by'.d).sub ((by'.n.mul bx.d).mono (by omega))))) ((bx.d.mul by'.d).mono (Nat.le_succ _)) z1 z2
  rw [e] at b ⊢
  exact s_end (kk b)
/-- the product and the quotient, asked by their parts -/
theorem times_q {x y : Rat} {k l : Nat} {st : DS} {R : RD} {Rx : RX} (bx : Bits k x) (by' : Bits l y) (hk : k + l ≤ 9000) (h : Bits (k + l) (x * y) → R (qD (x * y)) st) : spTimes [qD x, qD y] st R Rx := by
  have d1 := den_pos x
  have d2 := den_pos y
  have hn : (x.den : Int) * (y.den : Int) ≠ 0 := Int.mul_ne_zero (by omega) (by omega)
  refine ⟨_, _, _, _, rfl, bx.n.ok by'.n (by omega), bx.d.ok by'.d (by omega), hn, (bx.d.mul by'.d).log9 (by omega), frac_rat hn fun z ez z1 z2 => ?_⟩
  have e : z = x * y := by
    rw [ez, Rat.intCast_mul, Rat.intCast_mul, f_mul (cast_den x) (cast_den y), rat_cast, rat_cast]
  have b := bits_of (bx.n.mul by'.n) (bx.d.mul by'.d) z1 z2
  rw [e] at b
  subst e
  exact h b
theorem over_q {x y : Rat} {k l : Nat} {st : DS} {R : RD} {Rx : RX} (bx : Bits k x) (by' : Bits l y) (hy : y ≠ 0) (hk : k + l ≤ 9000) (h : Bits (k + l) (x / y) → R (qD (x / y)) st) : spOver [qD x, qD y] st R Rx := by
  have d1 := den_pos x
  have d2 := den_pos y
  have hn : (x.den : Int) * y.num ≠ 0 := Int.mul_ne_zero (by omega) (rat_ne hy)
  refine ⟨_, _, _, _, rfl, bx.n.ok by'.d (by omega), bx.d.ok by'.n (by omega), hn, (bx.d.mul by'.n).log9 (by omega), frac_rat hn fun z ez z1 z2 => ?_⟩
  have e : z = x / y := by
    have hc : (y.num : Rat) ≠ 0 := fun e => rat_ne hy (Rat.intCast_eq_zero_iff.mp e)
    rw [ez, Rat.intCast_mul, Rat.intCast_mul, f_div (cast_den x) hc (cast_den y), rat_cast, rat_cast]
  have b := bits_of (bx.n.mul by'.d) (bx.d.mul by'.n) z1 z2
  rw [e] at b
  subst e
  exact h b
theorem less_q {x y : Rat} {k l : Nat} {st : DS} {R : RD} {Rx : RX} (bx : Bits k x) (by' : Bits l y) (hk : k + l ≤ 400000) (h : R (.bl (decide (x < y))) st) : spLess [qD x, qD y] st R Rx := by
  refine ⟨_, _, _, _, rfl, bx.n.ok by'.d hk, by'.n.ok bx.d (by omega), ?_⟩
  rw [decide_eq_decide.mpr (Rat.lt_iff x y)] at h
  exact h
theorem atmost_q {x y : Rat} {k l : Nat} {st : DS} {R : RD} {Rx : RX} (bx : Bits k x) (by' : Bits l y) (hk : k + l ≤ 400000) (h : R (.bl (decide (x ≤ y))) st) : spAtMost [qD x, qD y] st R Rx := by
  refine ⟨_, _, _, _, rfl, bx.n.ok by'.d hk, by'.n.ok bx.d (by omega), ?_⟩
  rw [decide_eq_decide.mpr (Rat.le_iff x y)] at h
  exact h
theorem read_plus2 : ∀ ds st R Rx, spPlus ds st R Rx → wb_plus spFrac (bodyEd R Rx) (startD 2 ds) st := read_plus
theorem read_minus2 : ∀ ds st R Rx, spMinus ds st R Rx → wb_minus spFrac (bodyEd R Rx) (startD 2 ds) st := read_minus
theorem read_less2 : ∀ ds st R Rx, spLess ds st R Rx → wb_less (bodyEd R Rx) (startD 2 ds) st := read_less
/-! is a fraction in lowest terms -/
def whole (d : D) : Bool := isTy .int d && !isTy .bool d
def isFr : D → Bool
  | .tup [.int a, .int b] => decide (1 ≤ b) && decide (Nat.gcd a.natAbs b.natAbs = 1)
  | _ => false
/-- no list, no script -/
def nr : D → Bool
  | .ref _ => false
  | .key _ => false
  | .scr _ => false
  | _ => true
theorem nr_ok {d : D} {st : DS} (h : nr d = true) : lstOk d st := by
  cases d with
  | ref a => cases h
  | key a => cases h
  | _ => trivial
def spIsFr : SpD := fun ds st R _ => ∃ d, ds = [d] ∧ nr d = true ∧ (∀ x y, d = .tup [x, y] → nr x = true ∧ nr y = true) ∧ R (.bl (isFr d)) st
theorem len_isfr : ∀ ds st R Rx, spIsFr ds st R Rx → ds.length = 1 := by
  rintro ds st R Rx ⟨_, rfl, -⟩; rfl
theorem isFr_q (x : Rat) : isFr (qD x) = true := by
  have := den_pos x
  have c : Nat.gcd x.num.natAbs x.den = 1 := x.reduced
  show (decide ((1 : Int) ≤ x.den) && decide (Nat.gcd x.num.natAbs (x.den : Int).natAbs = 1)) = true
  rw [Int.natAbs_natCast]
  rw [decide_eq_true (show (1 : Int) ≤ x.den by omega), decide_eq_true c]; rfl
theorem gcd_dec {a b : Int} : decide (((Nat.gcd a.natAbs b.natAbs : Nat) : Int) = 1) = decide (Nat.gcd a.natAbs b.natAbs = 1) := decide_eq_decide.mpr (by omega)
theorem isFr_no {x y : D} (h : ¬ (whole x = true ∧ whole y = true)) : isFr (.tup [x, y]) = false := by
  cases x <;> cases y <;> first | rfl | exact absurd ⟨rfl, rfl⟩ h
theorem whole_int {x : D} (h : whole x = true) : ∃ i, x = .int i := by
  cases x <;> first | exact ⟨_, rfl⟩ | cases h
theorem isFr_len {ds : List D} (h : ds.length ≠ 2) : isFr (.tup ds) = false := by
  unfold isFr
  split
  · rename_i a b e
    cases e
    exact absurd rfl h
  · rfl
theorem isFr_tup {d : D} (h : isTy .tup d = false) : isFr d = false := by
  cases d <;> first | rfl | cases h
theorem read_is_frac : ∀ ds st R Rx, spIsFr ds st R Rx → wb_law_is_frac spIsInt spGcd (bodyEd R Rx) (startD 1 ds) st := by
  rintro ds st R Rx ⟨d, rfl, h1, h2, k⟩
  have ok := nr_ok (st := st) h1
  unfold wb_law_is_frac bodyEd
  walk_at "s"
  cases ht : isTy .tup d with
  | false =>
    rw [isFr_tup ht] at k
    refine s_yesB rfl ?_
    walk_at "s"
    exact s_end k
  | true =>
    cases d with
    | tup es =>
      refine s_noB rfl ?_
      walk_at "s"
      by_cases hl : (es.length : Int) = 2
      · match es, hl with
        | [x, y], _ =>
          obtain ⟨n1, n2⟩ := h2 x y rfl
          have o1 := nr_ok (st := st) n1
          have o2 := nr_ok (st := st) n2
          refine s_nnoP rfl ?_
          walk_at "s"
          refine ⟨_, rfl, o1, ?_⟩
          walk_at "s"
          cases w1 : (isTy .int x && !isTy .bool x) with
          | false =>
            rw [isFr_no (fun z => by rw [show whole x = false from w1] at z; exact Bool.noConfusion z.1)] at k
            refine s_noB rfl ?_
            walk_at "s"
            exact s_end k
          | true =>
            refine s_yesB rfl ?_
            walk_at "s"
            refine ⟨_, rfl, o2, ?_⟩
            walk_at "s"
            cases w2 : (isTy .int y && !isTy .bool y) with
            | false =>
              rw [isFr_no (fun z => by rw [show whole y = false from w2] at z; exact Bool.noConfusion z.2)] at k
              refine s_yesB rfl ?_
              walk_at "s"
              exact s_end k
            | true =>
              obtain ⟨a, rfl⟩ := whole_int w1
              obtain ⟨b, rfl⟩ := whole_int w2
              refine s_noB rfl ?_
              walk_at "s"
              refine s_dec (fun e => ?_) (fun e => ?_)
              · walk_at "s"
                refine ⟨_, _, rfl, ?_⟩
                walk_at "s"
                rw [gcd_dec]
                have k' : R (.bl (decide ((1 : Int) ≤ b) && decide (Nat.gcd a.natAbs b.natAbs = 1))) st := k
                rw [decide_eq_true (show (1 : Int) ≤ b from e), Bool.true_and] at k'
                exact s_end k'
              · walk_at "s"
                have k' : R (.bl (decide ((1 : Int) ≤ b) && decide (Nat.gcd a.natAbs b.natAbs = 1))) st := k
                rw [decide_eq_false (show ¬ (1 : Int) ≤ b from e), Bool.false_and] at k'
                exact s_end k'
      · rw [isFr_len (by omega)] at k
        refine s_nyesP hl ?_
        walk_at "s"
        exact s_end k
    | _ => cases ht
theorem read_is_whole : ∀ ds st R Rx, spIsInt ds st R Rx → wb_is_whole (bodyEd R Rx) (startD 1 ds) st := read_is_int
theorem read_is_fraction : ∀ ds st R Rx, spIsFr ds st R Rx → wb_is_fraction spIsInt (bodyEd R Rx) (startD 1 ds) st := by
  rintro ds st R Rx ⟨d, rfl, h1, h2, k⟩
  have ok := nr_ok (st := st) h1
  unfold wb_is_fraction bodyEd
  walk_at "s"
  cases ht : isTy .tup d with
  | false =>
    rw [isFr_tup ht] at k
    refine s_yesB rfl ?_
    walk_at "s"
    exact s_end k
  | true =>
    cases d with
    | tup es =>
      refine s_noB rfl ?_
      walk_at "s"
      by_cases hl : (es.length : Int) = 2
      · match es, hl with
        | [x, y], _ =>
          obtain ⟨n1, n2⟩ := h2 x y rfl
          have o1 := nr_ok (st := st) n1
          have o2 := nr_ok (st := st) n2
          refine s_nnoP rfl ?_
          walk_at "s"
          refine ⟨_, rfl, o1, ?_⟩
          walk_at "s"
          cases w1 : (isTy .int x && !isTy .bool x) with
          | false =>
            rw [isFr_no (fun z => by rw [show whole x = false from w1] at z; exact Bool.noConfusion z.1)] at k
            refine s_yesB rfl ?_
            walk_at "s"
            exact s_end k
          | true =>
            refine s_noB rfl ?_
            walk_at "s"
            refine ⟨_, rfl, o2, ?_⟩
            walk_at "s"
            cases w2 : (isTy .int y && !isTy .bool y) with
            | false =>
              rw [isFr_no (fun z => by rw [show whole y = false from w2] at z; exact Bool.noConfusion z.2)] at k
              refine s_yesB rfl ?_
              walk_at "s"
              exact s_end k
            | true =>
              obtain ⟨a, rfl⟩ := whole_int w1
              obtain ⟨b, rfl⟩ := whole_int w2
              refine s_noB rfl ?_
              walk_at "s"
              refine s_dec (fun e => ?_) (fun e => ?_)
              · walk_at "s"
                rw [gcd_dec]
                have k' : R (.bl (decide ((1 : Int) ≤ b) && decide (Nat.gcd a.natAbs b.natAbs = 1))) st := k
                rw [decide_eq_true (show (1 : Int) ≤ b from e), Bool.true_and] at k'
                exact s_end k'
              · walk_at "s"
                have k' : R (.bl (decide ((1 : Int) ≤ b) && decide (Nat.gcd a.natAbs b.natAbs = 1))) st := k
                rw [decide_eq_false (show ¬ (1 : Int) ≤ b from e), Bool.false_and] at k'
                exact s_end k'
      · rw [isFr_len (by omega)] at k
        refine s_nyesP hl ?_
        walk_at "s"
        exact s_end k
    | _ => cases ht
end C
end DL

namespace DL
namespace C
open PySem L2
local macro_rules | `(tactic| walk_at "look") => `(tactic| first
  | assumption
  | exact put_same
  | (refine look_ne (by first | assumption | exact Ne.symm (by assumption)) ?_; walk_at "look")
  | (refine look_new (by assumption) ?_; walk_at "look"))
local macro_rules | `(tactic| walk_at "side") => `(tactic| first | assumption | exact trivial | decide | omega | exact ⟨by assumption, by assumption⟩ | exact ⟨by omega, by omega⟩ | exact ⟨by decide, by decide⟩ | exact ⟨by decide, by decide, by decide⟩ | (exact .inl (.inl ⟨by decide, by decide⟩)) | (exact .inl (.inr ⟨by decide, by decide⟩)) | (exact .inl (.inl ⟨by omega, by omega⟩)) | (exact .inl (.inr ⟨by omega, by omega⟩)))
local macro_rules | `(tactic| walk_at "opt") => `(tactic| first | (with_reducible exact atI_0 _ _) | (with_reducible exact atI_1 _ _ _) | (with_reducible exact atI_2 _ _ _ _) | (with_reducible exact atI_3 _ _ _ _ _) | (with_reducible exact atI_4 _ _ _ _ _ _) | assumption | exact atI_0 _ _ | exact atI_1 _ _ _ | exact atI_2 _ _ _ _ | exact atI_3 _ _ _ _ _ | exact atI_4 _ _ _ _ _ _ | exact boolsOf_map _ | exact intsOf_map _ | exact rfl)
local macro_rules | `(tactic| walk_at "s1") => `(tactic| first
  | ((with_reducible refine' s_var ?k1 ?_); (case k1 => exact rfl))
  | with_reducible refine s_bin ?_
  | with_reducible refine s_c ?_
  | with_reducible refine s_seqM ?_
  | with_reducible refine s_asB ?_
  | with_reducible refine s_asI ?_
  | with_reducible refine s_asRI ?_
  | with_reducible refine s_acons ?_
  | with_reducible refine s_anil ?_
  | with_reducible refine s_call ?_
  | with_reducible refine s_cb ?_
  | with_reducible refine s_set ?_
  | with_reducible refine s_ixT ?_
  | with_reducible refine s_ixL ?_
  | with_reducible refine s_ixS ?_
  | ((with_reducible refine' s_getL ?k1 ?_); (case k1 => walk_at "look"))
  | ((with_reducible refine' s_opt ?k1 ?_); (case k1 => walk_at "opt"))
  | with_reducible refine s_binT ?_
  | with_reducible refine s_tup ?_
  | with_reducible refine s_tpT ?_
  | with_reducible refine s_lst ?_
  | with_reducible refine s_ret ?_
  | with_reducible refine s_if ?_
  | with_reducible refine s_nextM ?_
  | with_reducible refine s_drop ?_
  | with_reducible refine s_par ?_
  | with_reducible refine s_asg ?_
  | with_reducible refine s_gN ?_
  | ((with_reducible refine' s_gT ?k1 ?_); (case k1 => exact rfl))
  | with_reducible refine s_gsC ?_
  | with_reducible refine s_gsN ?_
  | with_reducible refine s_gIx ?_
  | with_reducible refine s_setD ?_
  | with_reducible refine s_for ?_
  | with_reducible refine s_b ?_
  | with_reducible refine s_and ?_
  | with_reducible refine s_or ?_
  | with_reducible refine s_not ?_
  | with_reducible refine s_ife ?_
  | with_reducible refine s_neg ?_
  | with_reducible refine s_notV ?_
  | with_reducible refine s_andV ?_
  | with_reducible refine s_orV ?_
  | with_reducible refine s_isi ?_
  | with_reducible refine s_m ?_
  | with_reducible refine s_none ?_
  | with_reducible refine s_noneT ?_
  | with_reducible refine s_sl ?_
  | with_reducible refine s_oN ?_
  | with_reducible refine s_oS ?_
  | with_reducible refine s_lc ?_
  | with_reducible refine s_bN ?_
  | with_reducible refine s_bT ?_
  | with_reducible refine s_bTC ?_
  | with_reducible refine s_bTN ?_
  | with_reducible refine s_it ?_
  | with_reducible refine s_rng ?_
  | with_reducible refine s_zip ?_
  | with_reducible refine s_zip2 ?_
  | with_reducible refine s_enum ?_
  | with_reducible refine s_enum1 ?_
  | with_reducible refine s_yes ?_
  | with_reducible refine s_cT ?_
  | with_reducible refine s_cF ?_
  | with_reducible refine s_retN ?_
  | with_reducible refine s_try ?_
  | with_reducible refine s_raise0 ?_
  | with_reducible refine s_raise1 ?_
  | with_reducible refine s_isE ?_
  | with_reducible refine s_fld ?_
  | with_reducible refine s_brk ?_
  | with_reducible refine s_cnt ?_
  | ((with_reducible refine' s_aug ?k1 ?_); (case k1 => exact rfl))
  | with_reducible refine s_augix ?_
  | with_reducible refine s_addI ?_
  | ((with_reducible refine' s_addT ?k1 ?_); (case k1 => walk_at "side"))
  | ((with_reducible refine' s_addS ?k1 ?_); (case k1 => walk_at "side"))
  | with_reducible refine s_catL ?_
  | with_reducible refine s_subI ?_
  | ((with_reducible refine' s_mulI ?k1 ?_); (case k1 => walk_at "side"))
  | ((with_reducible refine' s_divI ?k1 ?_); (case k1 => walk_at "side"))
  | ((with_reducible refine' s_modI ?k1 ?_); (case k1 => walk_at "side"))
  | ((with_reducible refine' s_powI ?k1 ?_); (case k1 => walk_at "side"))
  | ((with_reducible refine' s_shlI ?k1 ?_); (case k1 => walk_at "side"))
  | with_reducible refine s_iaddI ?_
  | ((with_reducible refine' s_iaddS ?k1 ?_); (case k1 => walk_at "side"))
  | with_reducible refine s_eqI ?_
  | with_reducible refine s_neI ?_
  | with_reducible refine s_eqS ?_
  | with_reducible refine s_neS ?_
  | with_reducible refine s_eqB ?_
  | with_reducible refine s_neB ?_
  | with_reducible refine s_cmp ?_
  | ((with_reducible refine' s_ixX ?k1 ?_); (case k1 => walk_at "side"))
  | with_reducible refine s_lenT ?_
  | with_reducible refine s_lenL ?_
  | with_reducible refine s_lenC ?_
  | ((with_reducible refine' s_lenS ?k1 ?_); (case k1 => walk_at "side"))
  | with_reducible refine s_abs ?_
  | with_reducible refine s_intI ?_
  | with_reducible refine s_intB ?_
  | with_reducible refine s_gcd ?_
  | with_reducible refine s_listT ?_
  | with_reducible refine s_listL ?_
  | with_reducible refine s_tupT ?_
  | with_reducible refine s_tupL ?_
  | with_reducible refine s_all ?_
  | with_reducible refine s_any ?_
  | with_reducible refine s_sum ?_
  | with_reducible refine s_sumAT ?_
  | with_reducible refine s_sumAL ?_
  | with_reducible refine s_cnT ?_
  | with_reducible refine s_cnF ?_
  | with_reducible refine s_par3 ?_
  | with_reducible refine s_max2 ?_
  | with_reducible refine s_min2 ?_
  | with_reducible refine s_chain ?_
  | with_reducible refine s_chainT ?_
  | with_reducible refine s_inL ?_
  | with_reducible refine s_inT ?_
  | with_reducible refine s_append ?_
  | with_reducible refine s_extend ?_
  | with_reducible refine s_popAt ?_
  | with_reducible refine s_pop ?_
  | with_reducible refine s_slT ?_
  | with_reducible refine s_slL ?_
  | with_reducible refine s_itT ?_
  | with_reducible refine s_itL ?_
  | with_reducible refine s_itC ?_
  | ((with_reducible refine' s_rng1 ?k1 ?_); (case k1 => walk_at "side"))
  | ((with_reducible refine' s_rng2 ?k1 ?_); (case k1 => walk_at "side"))
  | ((with_reducible refine' s_rngD ?k1 ?_); (case k1 => walk_at "side"))
  | ((with_reducible refine' s_isLst ?k1 ?_); (case k1 => walk_at "look"))
  | ((with_reducible refine' s_lstOkL ?k1 ?_); (case k1 => walk_at "look"))
  | ((with_reducible refine' And.intro ?k1 ?_); (case k1 => walk_at "side")))
local macro_rules | `(tactic| walk_at "s") => `(tactic| repeat (walk_at "s1"))
/-! drawing -/
/-- one of a list or a tuple -/
def spPick : SpD := fun ds st R _ => ∃ (d c : Addr) (ns : List Int) (row : D) (es : List D), ds = [.ref d, row] ∧ DK st d c ns ∧ es ≠ [] ∧ es.length ≤ 1000000 ∧ (row = .tup es ∨ ∃ p, row = .ref p ∧ p ≠ d ∧ st p = some (.lst es)) ∧ ∀ e ∈ es, ∀ st', Dr d c ns st st' → R e st'
theorem len_pick : ∀ ds st R Rx, spPick ds st R Rx → ds.length = 2 := by
  rintro ds st R Rx ⟨_, _, _, _, _, rfl, -⟩; rfl
theorem atI_mem {es : List D} {v : Int} (h0 : 0 ≤ v) (h1 : v < es.length) : ∃ e ∈ es, atI es v = some e := by
  obtain ⟨k, rfl⟩ := Int.eq_ofNat_of_zero_le h0
  have hk : k < es.length := by omega
  exact ⟨es[k], List.getElem_mem hk, atI_nat (List.getElem?_eq_getElem hk)⟩
theorem smN {n : Nat} (h0 : 0 < n) (h1 : n ≤ 1000000) : (n : Int).natAbs.log2 < 9000 := sm (by omega) (by omega)
theorem read_pick : ∀ ds st R Rx, spPick ds st R Rx → wb_law_pick spDraw (bodyEd R Rx) (startD 2 ds) st := by
  rintro ds st R Rx ⟨d, c, ns, row, es, rfl, dk, hne, hl, hrow, k⟩
  have hpos : 0 < es.length := List.length_pos_iff.mpr hne
  unfold wb_law_pick bodyEd
  rcases hrow with rfl | ⟨p, rfl, hp, hlst⟩
  · walk_at "s"
    refine ⟨d, c, ns, _, rfl, dk, by omega, smN hpos hl, fun v st' h0 h1 r => ?_⟩
    obtain ⟨e, he, ha⟩ := atI_mem h0 h1
    walk_at "s"
    exact s_end (k e he st' r)
  · walk_at "s"
    refine ⟨d, c, ns, _, rfl, dk, by omega, smN hpos hl, fun v st' h0 h1 r => ?_⟩
    obtain ⟨e, he, ha⟩ := atI_mem h0 h1
    have hl2 := r.sx p _ hp hlst
    walk_at "s"
    exact s_end (k e he st' r)
def spRare : SpD := fun ds st R _ => ∃ (d c : Addr) (ns : List Int) (many : Int), ds = [.ref d, .int many] ∧ DK st d c ns ∧ 0 < many ∧ many ≤ 1000000 ∧ ∀ b st', Dr d c ns st st' → R (.bl b) st'
theorem len_rare : ∀ ds st R Rx, spRare ds st R Rx → ds.length = 2 := by
  rintro ds st R Rx ⟨_, _, _, _, rfl, -⟩; rfl
theorem read_rare : ∀ ds st R Rx, spRare ds st R Rx → wb_law_rare spDraw (bodyEd R Rx) (startD 2 ds) st := by
  rintro ds st R Rx ⟨d, c, ns, many, rfl, dk, h0, h1, k⟩
  unfold wb_law_rare bodyEd
  walk_at "s"
  refine ⟨d, c, ns, _, rfl, dk, h0, sm h0 (by omega), fun v st' _ _ r => ?_⟩
  walk_at "s"
  exact s_end (k _ st' r)
/-- a row in another order -/
def spShuffled : SpD := fun ds st R _ => ∃ (d c : Addr) (ns : List Int) (row : D) (es : List D), ds = [.ref d, row] ∧ DK st d c ns ∧ es.length ≤ 1000000 ∧ (row = .tup es ∨ ∃ p, row = .ref p ∧ p ≠ d ∧ st p = some (.lst es)) ∧
  ∀ es' p st', es'.Perm es → st p = none → p ≠ d → Dr d c ns st st' → st' p = some (.lst es') → R (.ref p) st'
theorem len_shuffled : ∀ ds st R Rx, spShuffled ds st R Rx → ds.length = 2 := by
  rintro ds st R Rx ⟨_, _, _, _, _, rfl, -⟩; rfl
theorem ixN_in {n : Nat} {v : Int} (h0 : 0 ≤ v) (h1 : v < n) : ixN n v = some v.toNat := by
  unfold ixN
  rw [if_pos h0, if_pos h1]
theorem perm_erase {α : Type} : ∀ {l : List α} {k : Nat} (h : k < l.length), (l[k] :: l.eraseIdx k).Perm l
  | a :: l, 0, _ => List.Perm.refl _
  | a :: l, k + 1, h => by
    have ih := perm_erase (l := l) (k := k) (by simpa using h)
    show (l[k]'(by simpa using h) :: a :: l.eraseIdx k).Perm (a :: l)
    exact (List.Perm.swap _ _ _).trans (ih.cons a)
theorem Sx.put_off {d p : Addr} {s t : DS} {o : OB} (h : Sx d s t) (hp : s p = none) : Sx d s (DL.put t p o) := fun a u n e => by
  rw [put_ne (fun z => by rw [z, hp] at e; cases e)]; exact h a u n e
theorem DK.ne_new {st : DS} {d c p : Addr} {ns : List Int} (h : DK st d c ns) (hp : st p = none) : p ≠ d := fun e => by
  obtain ⟨⟨o, ho, _⟩, _⟩ := h
  rw [e, ho] at hp; cases hp
theorem DK.putL {st : DS} {d c p : Addr} {ns : List Int} {o : OB} (h : DK st d c ns) (hd : p ≠ d) (hc : p ≠ c) : DK (DL.put st p o) d c ns := by
  obtain ⟨⟨o', e, q⟩, hcc, ne⟩ := h
  exact ⟨⟨o', by rw [put_ne (Ne.symm hd)]; exact e, q⟩, by rw [put_ne (Ne.symm hc)]; exact hcc, ne⟩
theorem read_shuffled : ∀ ds st R Rx, spShuffled ds st R Rx → wb_law_shuffled spDraw (bodyEd R Rx) (startD 5 ds) st := by
  rintro ds st R Rx ⟨d, c, ns, row, es, rfl, dk, hl, hrow, k⟩
  unfold wb_law_shuffled bodyEd
  have go : ∀ p, st p = none → ∀ q, (put st p (.lst es)) q = none →
      forL (gN 4) (wDrop (wM appendD (wVar 3) (wACons (wM popD (wVar 2) (wACons (wCall spDraw (wACons (wVar 0) (wACons (wCB lenD (wACons (wVar 2) wANil)) wANil))) wANil)) wANil))) (fun _ => True)
        { nx := fun ep' st' => wRet (wVar 3) { nx := fun _ st' => ∃ s2, Sub s2 st' ∧ R .non s2, rt := fun d st' => ∃ s2, Sub s2 st' ∧ R d s2, bk := fun _ _ => False, ct := fun _ _ => False, ex := fun x _ st' => ∃ s2, Sub s2 st' ∧ Rx x s2 } ep' st',
          rt := fun d st' => ∃ s2, Sub s2 st' ∧ R d s2, bk := fun _ _ => False, ct := fun _ _ => False, ex := fun x _ st' => ∃ s2, Sub s2 st' ∧ Rx x s2 }
        ((List.range (es.length : Int).toNat).map fun i : Nat => D.int (0 + i)) [some (.ref d), some row, some (.ref p), some (.ref q), none] (put (put st p (.lst es)) q (.lst [])) := by
    intro p hp q hq
    have npq : p ≠ q := fun e => by rw [e, put_same] at hq; cases hq
    have hq0 : st q = none := by rwa [put_ne (Ne.symm npq)] at hq
    have pd := dk.ne_new hp
    have qd := dk.ne_new hq0
    have pc : p ≠ c := fun e => by rw [e, dk.hc] at hp; cases hp
    have qc : q ≠ c := fun e => by rw [e, dk.hc] at hq0; cases hq0
    refine for_ind (fun rest ep T => ∃ left found x4, ep = [some (.ref d), some row, some (.ref p), some (.ref q), x4] ∧ rest.length = left.length ∧ (found ++ left).Perm es ∧ T p = some (.lst left) ∧ T q = some (.lst found) ∧ Sx d st T ∧ DK T d c ns) ?_ ?_ _ _ _ ⟨es, [], none, rfl, by rw [List.length_map, List.length_range, Int.toNat_natCast], List.Perm.refl _, by rw [put_ne npq, put_same], put_same, (Sx.new hp).trans (Sx.new hq), (dk.new hp).new hq⟩
    · rintro ep T ⟨left, found, x4, rfl, hlen, pm, e1, e2, sx, dkT⟩
      refine ⟨trivial, ?_⟩
      walk_at "s"
      have : left = [] := List.eq_nil_of_length_eq_zero hlen.symm
      subst this
      rw [List.append_nil] at pm
      exact s_end (k found q T pm hq0 qd ⟨sx, dkT⟩ e2)
    · rintro d0 r ep T ⟨left, found, x4, rfl, hlen, pm, e1, e2, sx, dkT⟩ ih
      refine ⟨trivial, ?_⟩
      have hll : left.length ≤ es.length := by
        have := pm.length_eq
        rw [List.length_append] at this
        omega
      have hfl : found.length ≤ es.length := by
        have := pm.length_eq
        rw [List.length_append] at this
        omega
      simp only [List.length_cons] at hlen
      walk_at "s"
      refine ⟨d, c, ns, _, rfl, dkT, by omega, smN (by omega) (by omega), fun v T2 h0 h1 r2 => ?_⟩
      have f1 := r2.sx p _ pd e1
      have f2 := r2.sx q _ qd e2
      walk_at "s"
      obtain ⟨kk, rfl⟩ := Int.eq_ofNat_of_zero_le h0
      have hk : kk < left.length := by omega
      refine s_opt (ixN_in h0 h1) ?_
      rw [Int.toNat_natCast]
      refine s_opt (List.getElem?_eq_getElem hk) ?_
      walk_at "s"
      refine ⟨by show _ < 2 ^ 24; omega, ?_⟩
      refine ih _ _ ⟨left.eraseIdx kk, found ++ [left[kk]], _, rfl, by rw [List.length_eraseIdx, if_pos hk]; omega, ?_, ?_, put_same, ?_, ?_⟩
      · have := perm_erase hk
        rw [List.append_assoc]
        exact (List.Perm.append_left found this).trans pm
      · rw [put_ne npq, put_same]
      · exact ((sx.trans r2.sx).put_off hp).put_off hq0
      · exact (r2.dk.putL pd pc).putL qd qc
  rcases hrow with rfl | ⟨p, rfl, hp, hlst⟩
  · walk_at "s"
    intro p hp
    walk_at "s"
    intro q hq
    walk_at "s"
    exact go p hp q hq
  · walk_at "s"
    intro p2 hp2
    walk_at "s"
    intro q hq
    walk_at "s"
    exact go p2 hp2 q hq
end C
end DL

namespace DL
namespace C
open PySem L2
local macro_rules | `(tactic| walk_at "look") => `(tactic| first
  | assumption
  | exact put_same
  | (refine look_ne (by first | assumption | exact Ne.symm (by assumption)) ?_; walk_at "look")
  | (refine look_new (by assumption) ?_; walk_at "look"))
local macro_rules | `(tactic| walk_at "side") => `(tactic| first | assumption | exact trivial | decide | omega | exact ⟨by assumption, by assumption⟩ | exact ⟨by omega, by omega⟩ | exact ⟨by decide, by decide⟩ | exact ⟨by decide, by decide, by decide⟩ | (exact .inl (.inl ⟨by decide, by decide⟩)) | (exact .inl (.inr ⟨by decide, by decide⟩)) | (exact .inl (.inl ⟨by omega, by omega⟩)) | (exact .inl (.inr ⟨by omega, by omega⟩)))
local macro_rules | `(tactic| walk_at "opt") => `(tactic| first | (with_reducible exact atI_0 _ _) | (with_reducible exact atI_1 _ _ _) | (with_reducible exact atI_2 _ _ _ _) | (with_reducible exact atI_3 _ _ _ _ _) | (with_reducible exact atI_4 _ _ _ _ _ _) | assumption | exact atI_0 _ _ | exact atI_1 _ _ _ | exact atI_2 _ _ _ _ | exact atI_3 _ _ _ _ _ | exact atI_4 _ _ _ _ _ _ | exact boolsOf_map _ | exact intsOf_map _ | exact rfl)
local macro_rules | `(tactic| walk_at "s1") => `(tactic| first
  | ((with_reducible refine' s_var ?k1 ?_); (case k1 => exact rfl))
  | with_reducible refine s_bin ?_
  | with_reducible refine s_c ?_
  | with_reducible refine s_seqM ?_
  | with_reducible refine s_asB ?_
  | with_reducible refine s_asI ?_
  | with_reducible refine s_asRI ?_
  | with_reducible refine s_acons ?_
  | with_reducible refine s_anil ?_
  | with_reducible refine s_call ?_
  | with_reducible refine s_cb ?_
  | with_reducible refine s_set ?_
  | with_reducible refine s_ixT ?_
  | with_reducible refine s_ixL ?_
  | with_reducible refine s_ixS ?_
  | ((with_reducible refine' s_getL ?k1 ?_); (case k1 => walk_at "look"))
  | ((with_reducible refine' s_opt ?k1 ?_); (case k1 => walk_at "opt"))
  | with_reducible refine s_binT ?_
  | with_reducible refine s_tup ?_
  | with_reducible refine s_tpT ?_
  | with_reducible refine s_lst ?_
  | with_reducible refine s_ret ?_
  | with_reducible refine s_if ?_
  | with_reducible refine s_nextM ?_
  | with_reducible refine s_drop ?_
  | with_reducible refine s_par ?_
  | with_reducible refine s_asg ?_
  | with_reducible refine s_gN ?_
  | ((with_reducible refine' s_gT ?k1 ?_); (case k1 => exact rfl))
  | with_reducible refine s_gsC ?_
  | with_reducible refine s_gsN ?_
  | with_reducible refine s_gIx ?_
  | with_reducible refine s_setD ?_
  | with_reducible refine s_for ?_
  | with_reducible refine s_b ?_
  | with_reducible refine s_and ?_
  | with_reducible refine s_or ?_
  | with_reducible refine s_not ?_
  | with_reducible refine s_ife ?_
  | with_reducible refine s_neg ?_
  | with_reducible refine s_notV ?_
  | with_reducible refine s_andV ?_
  | with_reducible refine s_orV ?_
  | with_reducible refine s_isi ?_
  | with_reducible refine s_m ?_
  | with_reducible refine s_none ?_
  | with_reducible refine s_noneT ?_
  | with_reducible refine s_sl ?_
  | with_reducible refine s_oN ?_
  | with_reducible refine s_oS ?_
  | with_reducible refine s_lc ?_
  | with_reducible refine s_bN ?_
  | with_reducible refine s_bT ?_
  | with_reducible refine s_bTC ?_
  | with_reducible refine s_bTN ?_
  | with_reducible refine s_it ?_
  | with_reducible refine s_rng ?_
  | with_reducible refine s_zip ?_
  | with_reducible refine s_zip2 ?_
  | with_reducible refine s_enum ?_
  | with_reducible refine s_enum1 ?_
  | with_reducible refine s_yes ?_
  | with_reducible refine s_cT ?_
  | with_reducible refine s_cF ?_
  | with_reducible refine s_retN ?_
  | with_reducible refine s_try ?_
  | with_reducible refine s_raise0 ?_
  | with_reducible refine s_raise1 ?_
  | with_reducible refine s_isE ?_
  | with_reducible refine s_fld ?_
  | with_reducible refine s_brk ?_
  | with_reducible refine s_cnt ?_
  | ((with_reducible refine' s_aug ?k1 ?_); (case k1 => exact rfl))
  | with_reducible refine s_augix ?_
  | with_reducible refine s_addI ?_
  | ((with_reducible refine' s_addT ?k1 ?_); (case k1 => walk_at "side"))
  | ((with_reducible refine' s_addS ?k1 ?_); (case k1 => walk_at "side"))
  | with_reducible refine s_catL ?_
  | with_reducible refine s_subI ?_
  | ((with_reducible refine' s_mulI ?k1 ?_); (case k1 => walk_at "side"))
  | ((with_reducible refine' s_divI ?k1 ?_); (case k1 => walk_at "side"))
  | ((with_reducible refine' s_modI ?k1 ?_); (case k1 => walk_at "side"))
  | ((with_reducible refine' s_powI ?k1 ?_); (case k1 => walk_at "side"))
  | ((with_reducible refine' s_shlI ?k1 ?_); (case k1 => walk_at "side"))
  | with_reducible refine s_iaddI ?_
  | ((with_reducible refine' s_iaddS ?k1 ?_); (case k1 => walk_at "side"))
  | with_reducible refine s_eqI ?_
  | with_reducible refine s_neI ?_
  | with_reducible refine s_eqS ?_
  | with_reducible refine s_neS ?_
  | with_reducible refine s_eqB ?_
  | with_reducible refine s_neB ?_
  | with_reducible refine s_cmp ?_
  | ((with_reducible refine' s_ixX ?k1 ?_); (case k1 => walk_at "side"))
  | with_reducible refine s_lenT ?_
  | with_reducible refine s_lenL ?_
  | with_reducible refine s_lenC ?_
  | ((with_reducible refine' s_lenS ?k1 ?_); (case k1 => walk_at "side"))
  | with_reducible refine s_abs ?_
  | with_reducible refine s_intI ?_
  | with_reducible refine s_intB ?_
  | with_reducible refine s_gcd ?_
  | with_reducible refine s_listT ?_
  | with_reducible refine s_listL ?_
  | with_reducible refine s_tupT ?_
  | with_reducible refine s_tupL ?_
  | with_reducible refine s_all ?_
  | with_reducible refine s_any ?_
  | with_reducible refine s_sum ?_
  | with_reducible refine s_sumAT ?_
  | with_reducible refine s_sumAL ?_
  | with_reducible refine s_cnT ?_
  | with_reducible refine s_cnF ?_
  | with_reducible refine s_par3 ?_
  | with_reducible refine s_max2 ?_
  | with_reducible refine s_min2 ?_
  | with_reducible refine s_chain ?_
  | with_reducible refine s_chainT ?_
  | with_reducible refine s_inL ?_
  | with_reducible refine s_inT ?_
  | with_reducible refine s_append ?_
  | with_reducible refine s_extend ?_
  | with_reducible refine s_popAt ?_
  | with_reducible refine s_pop ?_
  | with_reducible refine s_slT ?_
  | with_reducible refine s_slL ?_
  | with_reducible refine s_itT ?_
  | with_reducible refine s_itL ?_
  | with_reducible refine s_itC ?_
  | ((with_reducible refine' s_rng1 ?k1 ?_); (case k1 => walk_at "side"))
  | ((with_reducible refine' s_rng2 ?k1 ?_); (case k1 => walk_at "side"))
  | ((with_reducible refine' s_rngD ?k1 ?_); (case k1 => walk_at "side"))
  | ((with_reducible refine' s_isLst ?k1 ?_); (case k1 => walk_at "look"))
  | ((with_reducible refine' s_lstOkL ?k1 ?_); (case k1 => walk_at "look"))
  | ((with_reducible refine' And.intro ?k1 ?_); (case k1 => walk_at "side")))
local macro_rules | `(tactic| walk_at "s") => `(tactic| repeat (walk_at "s1"))
/-! rows of fractions -/
def spGreatest : SpD := fun ds st R _ => ∃ (row : D) (xs : List Rat) (k : Nat), ds = [row] ∧ RowAt st row (xs.map qD) ∧ xs ≠ [] ∧ k ≤ 100000 ∧ (∀ x ∈ xs, Bits k x) ∧ ∀ m ∈ xs, (∀ x ∈ xs, x ≤ m) → R (qD m) st
theorem len_greatest : ∀ ds st R Rx, spGreatest ds st R Rx → ds.length = 1 := by
  rintro ds st R Rx ⟨_, _, _, rfl, -⟩; rfl
theorem read_greatest : ∀ ds st R Rx, spGreatest ds st R Rx → wb_law_greatest spLess (bodyEd R Rx) (startD 3 ds) st := by
  rintro ds st R Rx ⟨row, xs, k, rfl, hrow, hne, hk, hb, kk⟩
  unfold wb_law_greatest bodyEd
  cases xs with
  | nil => exact absurd rfl hne
  | cons x0 xs =>
  walk_at "s"
  refine s_ixRow hrow ?_
  rw [List.map_cons]
  walk_at "s"
  refine s_itRow hrow fun G hG => ?_
  refine for_ind (fun rest ep st' => ∃ pre suf b x2, x0 :: xs = pre ++ suf ∧ rest = suf.map qD ∧ b ∈ x0 :: xs ∧ (∀ x ∈ pre, x ≤ b) ∧ ep = [some row, some (qD b), x2] ∧ st' = st) ?_ ?_ _ _ _ ⟨[], x0 :: xs, x0, none, rfl, rfl, List.mem_cons_self, fun x hx => by (cases hx), rfl, rfl⟩
  · rintro ep st' ⟨pre, suf, b, x2, e, e2, hb', hle, rfl, rfl⟩
    refine ⟨hG, ?_⟩
    walk_at "s"
    have : suf = [] := by cases suf with
      | nil => rfl
      | cons _ _ => cases e2
    subst this
    rw [List.append_nil] at e
    exact s_end (kk b hb' (by rw [e]; exact hle))
  · rintro d r ep st' ⟨pre, suf, b, x2, e, e2, hb', hle, rfl, rfl⟩ ih
    refine ⟨hG, ?_⟩
    cases suf with
    | nil => cases e2
    | cons s suf =>
    obtain ⟨rfl, rfl⟩ := List.cons.inj e2
    have hs : s ∈ x0 :: xs := by rw [e]; exact List.mem_append_right _ List.mem_cons_self
    walk_at "s"
    refine less_q (hb b hb') (hb s hs) (by omega) ?_
    walk_at "s"
    refine s_dec (fun e3 => ?_) (fun e3 => ?_)
    · walk_at "s"
      refine ih _ _ ⟨pre ++ [s], suf, s, _, by rw [e, List.append_assoc]; rfl, rfl, hs, fun x hx => ?_, rfl, rfl⟩
      rcases List.mem_append.mp hx with hx | hx
      · exact Rat.le_trans (hle x hx) (Rat.le_of_lt e3)
      · rw [List.mem_singleton.mp hx]; exact Rat.le_refl
    · walk_at "s"
      refine ih _ _ ⟨pre ++ [s], suf, b, _, by rw [e, List.append_assoc]; rfl, rfl, hb', fun x hx => ?_, rfl, rfl⟩
      rcases List.mem_append.mp hx with hx | hx
      · exact hle x hx
      · rw [List.mem_singleton.mp hx]; exact Rat.not_lt.mp e3
/-- the sum of a row -/
def sumQ : List Rat → Rat := fun l => l.foldr (· + ·) 0
theorem sumQ_append (a b : List Rat) : sumQ (a ++ b) = sumQ a + sumQ b := by
  induction a with
  | nil => show _ = 0 + _; rw [Rat.zero_add]; rfl
  | cons x a ih => show x + sumQ (a ++ b) = x + sumQ a + sumQ b; rw [ih, Rat.add_assoc]
theorem sumQ_one (x : Rat) : sumQ [x] = x := by show x + 0 = x; exact Rat.add_zero x
def spSumQ : SpD := fun ds st R _ => ∃ (row : D) (xs : List Rat) (k : Nat), ds = [row] ∧ RowAt st row (xs.map qD) ∧ 1 + xs.length * (k + 1) ≤ 8900 ∧ (∀ x ∈ xs, Bits k x) ∧ (Bits (1 + xs.length * (k + 1)) (sumQ xs) → R (qD (sumQ xs)) st)
theorem len_sumq : ∀ ds st R Rx, spSumQ ds st R Rx → ds.length = 1 := by
  rintro ds st R Rx ⟨_, _, _, rfl, -⟩; rfl
theorem gcd_parts {n d : Int} (hd : 0 < d) : ∃ g x y : Int, ((Nat.gcd n.natAbs d.natAbs : Nat) : Int) = g ∧ 0 < g ∧ n = g * x ∧ d = g * y ∧ n / g = x ∧ d / g = y ∧ 0 < y ∧ x.natAbs ≤ n.natAbs ∧ y.natAbs ≤ d.natAbs := by
  have hg : 0 < Nat.gcd n.natAbs d.natAbs := Nat.gcd_pos_of_pos_right _ (by omega)
  obtain ⟨x, hx⟩ : ((Nat.gcd n.natAbs d.natAbs : Nat) : Int) ∣ n := Int.ofNat_dvd_left.mpr (Nat.gcd_dvd_left _ _)
  obtain ⟨y, hy⟩ : ((Nat.gcd n.natAbs d.natAbs : Nat) : Int) ∣ d := Int.ofNat_dvd_left.mpr (Nat.gcd_dvd_right _ _)
  refine ⟨_, x, y, rfl, by omega, hx, hy, ?_, ?_, ?_, ?_, ?_⟩
  · conv => lhs; lhs; rw [hx]
    exact Int.mul_ediv_cancel_left _ (by omega)
  · conv => lhs; lhs; rw [hy]
    exact Int.mul_ediv_cancel_left _ (by omega)
  · rw [hy] at hd; exact Int.pos_of_mul_pos_right hd (by omega)
  · conv => rhs; rw [hx, Int.natAbs_mul, Int.natAbs_natCast]
    exact Nat.le_mul_of_pos_left _ hg
  · conv => rhs; rw [hy, Int.natAbs_mul, Int.natAbs_natCast]
    exact Nat.le_mul_of_pos_left _ hg
theorem f_sum {t g b n d : Rat} (hg : g ≠ 0) (hb : b ≠ 0) (hd : d ≠ 0) : (t * d + n * b) / (g * b * d) = t / (g * b) + n / (g * d) := by grind
theorem cast_ne {x : Int} (h : x ≠ 0) : (x : Rat) ≠ 0 := fun e => h (Rat.intCast_eq_zero_iff.mp e)
theorem read_sumq : ∀ ds st R Rx, spSumQ ds st R Rx → wb_law_sum spGcd spFrac (bodyEd R Rx) (startD 6 ds) st := by
  rintro ds st R Rx ⟨row, xs, k, rfl, hrow, hk, hb, kk⟩
  unfold wb_law_sum bodyEd
  walk_at "s"
  refine s_itRow hrow fun G hG => ?_
  refine for_ind (fun rest ep st' => ∃ pre suf, ∃ (t b : Int) (x3 x4 x5 : Option D), xs = pre ++ suf ∧ rest = suf.map qD ∧ 0 < b ∧ Bt (1 + pre.length * (k + 1)) t ∧ Bt (1 + pre.length * (k + 1)) b ∧ (t : Rat) / b = sumQ pre ∧ ep = [some row, some (.int t), some (.int b), x3, x4, x5] ∧ st' = st) ?_ ?_ _ _ _ ⟨[], xs, 0, 1, none, none, none, rfl, rfl, by decide, (show Bt 1 0 by unfold Bt; decide).mono (by omega), (show Bt 1 1 by unfold Bt; decide).mono (by omega), by show _ = (0 : Rat); grind, rfl, rfl⟩
  · rintro ep st' ⟨pre, suf, t, b, x3, x4, x5, e, e2, b0, bt, bb, hv, rfl, rfl⟩
    refine ⟨hG, ?_⟩
    have : suf = [] := by cases suf with
      | nil => rfl
      | cons _ _ => cases e2
    subst this
    rw [List.append_nil] at e
    subst e
    walk_at "s"
    refine ⟨_, _, rfl, by omega, bb.log9 (by omega), frac_rat (by omega) fun z ez z1 z2 => ?_⟩
    have e : z = sumQ xs := by rw [ez]; exact hv
    have bz := bits_of bt bb z1 z2
    rw [e] at bz ⊢
    exact s_end (kk bz)
  · rintro d r ep st' ⟨pre, suf, t, b, x3, x4, x5, e, e2, b0, bt, bb, hv, rfl, rfl⟩ ih
    refine ⟨hG, ?_⟩
    cases suf with
    | nil => cases e2
    | cons s suf =>
    obtain ⟨rfl, rfl⟩ := List.cons.inj e2
    have hs := hb s (by rw [e]; exact List.mem_append_right _ List.mem_cons_self)
    have sd := den_pos s
    have hlen : pre.length + 1 ≤ xs.length := by rw [e, List.length_append, List.length_cons]; omega
    have hmul : (pre.length + 1) * (k + 1) ≤ xs.length * (k + 1) := Nat.mul_le_mul_right _ hlen
    rw [Nat.succ_mul] at hmul
    obtain ⟨g, x, y, hg, g0, hx, hy, q1, q2, y0, lx, ly⟩ := gcd_parts (n := b) (d := (s.den : Int)) sd
    have x0 : 0 < x := by rw [hx] at b0; exact Int.pos_of_mul_pos_right b0 (by omega)
    have bx : Bt (1 + pre.length * (k + 1)) x := bb.of_le lx
    have by' : Bt k y := hs.d.of_le ly
    have gs : 0 < g ∧ g.natAbs.log2 < 9000 := by
      have := gcd_side (n := b) (d := (s.den : Int)) (by omega) (hs.d.log9 (by omega))
      rwa [hg] at this
    unfold qD
    walk_at "s"
    refine ⟨_, _, rfl, ?_⟩
    rw [hg]
    walk_at "s"
    rw [q2]
    refine s_mulI (bt.ok by' (by omega)) ?_
    walk_at "s"
    rw [q1]
    refine s_mulI (hs.n.ok bx (by omega)) ?_
    walk_at "s"
    rw [q2]
    refine s_mulI (bb.ok by' (by omega)) ?_
    walk_at "s"
    refine ih _ _ ⟨pre ++ [s], suf, _, _, _, _, _, by rw [e, List.append_assoc]; rfl, rfl, Int.mul_pos b0 y0, ?_, ?_, ?_, rfl, rfl⟩
    · rw [List.length_append, List.length_singleton, Nat.succ_mul]
      exact ((bt.mul by').add ((hs.n.mul bx).mono (by omega))).mono (by omega)
    · rw [List.length_append, List.length_singleton, Nat.succ_mul]
      exact (bb.mul by').mono (by omega)
    · rw [sumQ_append, sumQ_one, ← hv]
      conv => rhs; rhs; rw [← rat_cast s]
      conv => rhs; rw [hx, hy]
      conv => lhs; rw [hx]
      rw [Rat.intCast_add, Rat.intCast_mul, Rat.intCast_mul, Rat.intCast_mul, Rat.intCast_mul, Rat.intCast_mul]
      exact f_sum (cast_ne (x := g) (by omega)) (cast_ne (x := x) (by omega)) (cast_ne (x := y) (by omega))
/-- brought to one bottom -/
def topsOf (xs : List Rat) (L : Int) : List Int := xs.map fun x => x.num * (L / (x.den : Int))
def spShared : SpD := fun ds st R _ => ∃ (row : D) (xs : List Rat) (k : Nat), ds = [row] ∧ RowAt st row (xs.map qD) ∧ (1 + xs.length * k ≤ 8900 ∧ k ≤ 8900) ∧ xs.length ≤ 1000000 ∧ (∀ x ∈ xs, Bits k x) ∧ ∀ L, 0 < L → Bt (1 + xs.length * k) L → (∀ x ∈ xs, (x.den : Int) ∣ L) → R (.tup [.tup ((topsOf xs L).map D.int), .int L]) st
theorem len_shared : ∀ ds st R Rx, spShared ds st R Rx → ds.length = 1 := by
  rintro ds st R Rx ⟨_, _, _, rfl, -⟩; rfl
theorem read_shared : ∀ ds st R Rx, spShared ds st R Rx → wb_shared (bodyEd R Rx) (startD 4 ds) st := by
  rintro ds st R Rx ⟨row, xs, k, rfl, hrow, ⟨hk, hk2⟩, hl, hb, kk⟩
  unfold wb_shared bodyEd
  walk_at "s"
  refine s_itRow hrow fun G hG => ?_
  refine for_ind (fun rest ep st' => ∃ pre suf, ∃ (b : Int) (x3 x4 : Option D), xs = pre ++ suf ∧ rest = suf.map qD ∧ 0 < b ∧ Bt (1 + pre.length * k) b ∧ (∀ x ∈ pre, (x.den : Int) ∣ b) ∧ ep = [some row, some (.int b), x3, x4] ∧ st' = st) ?_ ?_ _ _ _ ⟨[], xs, 1, none, none, rfl, rfl, by decide, (show Bt 1 1 by unfold Bt; decide).mono (by omega), fun x hx => by (cases hx), rfl, rfl⟩
  · rintro ep st' ⟨pre, suf, b, x3, x4, e, e2, b0, bb, hd, rfl, rfl⟩
    refine ⟨hG, ?_⟩
    have : suf = [] := by cases suf with
      | nil => rfl
      | cons _ _ => cases e2
    subst this
    rw [List.append_nil] at e
    subst e
    walk_at "s"
    refine s_itRow hrow fun G hG => ?_
    refine lc_ind (fun items acc st2 => ∃ p2 s2, xs = p2 ++ s2 ∧ items = s2.map qD ∧ acc = (topsOf p2 b).map D.int ∧ st2 = st') ?_ ?_ _ _ _ ⟨[], xs, rfl, rfl, rfl, rfl⟩
    · rintro acc st2 ⟨p2, s2, e, e2, rfl, rfl⟩
      refine ⟨hG, ?_⟩
      have : s2 = [] := by cases s2 with
        | nil => rfl
        | cons _ _ => cases e2
      subst this
      rw [List.append_nil] at e
      subst e
      intro u hu
      walk_at "s"
      exact s_endS (Sub.put_new hu) (kk b b0 bb hd)
    · rintro d r acc st2 ⟨p2, s2, e, e2, rfl, rfl⟩ ih
      refine ⟨hG, ?_⟩
      cases s2 with
      | nil => cases e2
      | cons s s2 =>
      obtain ⟨rfl, rfl⟩ := List.cons.inj e2
      have hs := hb s (by rw [e]; exact List.mem_append_right _ List.mem_cons_self)
      have sd := den_pos s
      have hlen : p2.length + 1 ≤ xs.length := by rw [e, List.length_append, List.length_cons]; omega
      have bq : Bt (1 + xs.length * k) (b / (s.den : Int)) := bb.of_le (Int.natAbs_ediv_le_natAbs _ _)
      unfold qD
      walk_at "s"
      refine s_divI ⟨sd, hs.d.log9 (by omega)⟩ ?_
      walk_at "s"
      refine s_mulI (hs.n.ok bq (by omega)) ?_
      refine ⟨by rw [List.length_map, topsOf, List.length_map]; show _ < 2 ^ 24; omega, ?_⟩
      exact ih _ _ ⟨p2 ++ [s], s2, by rw [e, List.append_assoc]; rfl, rfl, by rw [topsOf, topsOf, List.map_append, List.map_append]; rfl, rfl⟩
  · rintro d r ep st' ⟨pre, suf, b, x3, x4, e, e2, b0, bb, hd, rfl, rfl⟩ ih
    refine ⟨hG, ?_⟩
    cases suf with
    | nil => cases e2
    | cons s suf =>
    obtain ⟨rfl, rfl⟩ := List.cons.inj e2
    have hs := hb s (by rw [e]; exact List.mem_append_right _ List.mem_cons_self)
    have sd := den_pos s
    have hlen : pre.length + 1 ≤ xs.length := by rw [e, List.length_append, List.length_cons]; omega
    have hmul : (pre.length + 1) * k ≤ xs.length * k := Nat.mul_le_mul_right _ hlen
    rw [Nat.succ_mul] at hmul
    obtain ⟨g, x, y, hg, g0, hx, hy, q1, q2, y0, lx, ly⟩ := gcd_parts (n := b) (d := (s.den : Int)) sd
    have x0 : 0 < x := by rw [hx] at b0; exact Int.pos_of_mul_pos_right b0 (by omega)
    have bx : Bt (1 + pre.length * k) x := bb.of_le lx
    have gs : 0 < g ∧ g.natAbs.log2 < 9000 := by
      have := gcd_side (n := b) (d := (s.den : Int)) (by omega) (hs.d.log9 (by omega))
      rwa [hg] at this
    unfold qD
    walk_at "s"
    rw [hg]
    walk_at "s"
    rw [q1]
    refine s_mulI (bx.ok hs.d (by omega)) ?_
    walk_at "s"
    have e5 : x * (s.den : Int) = b * y := by
      conv => rhs; rw [hx]
      conv => lhs; rw [hy]
      rw [Int.mul_assoc, Int.mul_left_comm]
    refine ih _ _ ⟨pre ++ [s], suf, _, _, _, by rw [e, List.append_assoc]; rfl, rfl, Int.mul_pos x0 sd, ?_, fun z hz => ?_, rfl, rfl⟩
    · rw [List.length_append, List.length_singleton, Nat.succ_mul]
      exact (bx.mul hs.d).mono (by omega)
    · rcases List.mem_append.mp hz with hz | hz
      · rw [e5]; exact Int.dvd_mul_of_dvd_left (hd z hz)
      · rw [List.mem_singleton.mp hz]; exact Int.dvd_mul_left _ _
end C
end DL

namespace DL
namespace C
open PySem L2
local macro_rules | `(tactic| walk_at "look") => `(tactic| first
  | assumption
  | exact put_same
  | (refine look_ne (by first | assumption | exact Ne.symm (by assumption)) ?_; walk_at "look")
  | (refine look_new (by assumption) ?_; walk_at "look"))
local macro_rules | `(tactic| walk_at "side") => `(tactic| first | assumption | exact trivial | decide | omega | exact ⟨by assumption, by assumption⟩ | exact ⟨by omega, by omega⟩ | exact ⟨by decide, by decide⟩ | exact ⟨by decide, by decide, by decide⟩ | (exact .inl (.inl ⟨by decide, by decide⟩)) | (exact .inl (.inr ⟨by decide, by decide⟩)) | (exact .inl (.inl ⟨by omega, by omega⟩)) | (exact .inl (.inr ⟨by omega, by omega⟩)))
local macro_rules | `(tactic| walk_at "opt") => `(tactic| first | (with_reducible exact atI_0 _ _) | (with_reducible exact atI_1 _ _ _) | (with_reducible exact atI_2 _ _ _ _) | (with_reducible exact atI_3 _ _ _ _ _) | (with_reducible exact atI_4 _ _ _ _ _ _) | assumption | exact atI_0 _ _ | exact atI_1 _ _ _ | exact atI_2 _ _ _ _ | exact atI_3 _ _ _ _ _ | exact atI_4 _ _ _ _ _ _ | exact boolsOf_map _ | exact intsOf_map _ | exact rfl)
local macro_rules | `(tactic| walk_at "s1") => `(tactic| first
  | ((with_reducible refine' s_var ?k1 ?_); (case k1 => exact rfl))
  | with_reducible refine s_bin ?_
  | with_reducible refine s_c ?_
  | with_reducible refine s_seqM ?_
  | with_reducible refine s_asB ?_
  | with_reducible refine s_asI ?_
  | with_reducible refine s_asRI ?_
  | with_reducible refine s_acons ?_
  | with_reducible refine s_anil ?_
  | with_reducible refine s_call ?_
  | with_reducible refine s_cb ?_
  | with_reducible refine s_set ?_
  | with_reducible refine s_ixT ?_
  | with_reducible refine s_ixL ?_
  | with_reducible refine s_ixS ?_
  | ((with_reducible refine' s_getL ?k1 ?_); (case k1 => walk_at "look"))
  | ((with_reducible refine' s_opt ?k1 ?_); (case k1 => walk_at "opt"))
  | with_reducible refine s_binT ?_
  | with_reducible refine s_tup ?_
  | with_reducible refine s_tpT ?_
  | with_reducible refine s_lst ?_
  | with_reducible refine s_ret ?_
  | with_reducible refine s_if ?_
  | with_reducible refine s_nextM ?_
  | with_reducible refine s_drop ?_
  | with_reducible refine s_par ?_
  | with_reducible refine s_asg ?_
  | with_reducible refine s_gN ?_
  | ((with_reducible refine' s_gT ?k1 ?_); (case k1 => exact rfl))
  | with_reducible refine s_gsC ?_
  | with_reducible refine s_gsN ?_
  | with_reducible refine s_gIx ?_
  | with_reducible refine s_setD ?_
  | with_reducible refine s_for ?_
  | with_reducible refine s_b ?_
  | with_reducible refine s_and ?_
  | with_reducible refine s_or ?_
  | with_reducible refine s_not ?_
  | with_reducible refine s_ife ?_
  | with_reducible refine s_neg ?_
  | with_reducible refine s_notV ?_
  | with_reducible refine s_andV ?_
  | with_reducible refine s_orV ?_
  | with_reducible refine s_isi ?_
  | with_reducible refine s_m ?_
  | with_reducible refine s_none ?_
  | with_reducible refine s_noneT ?_
  | with_reducible refine s_sl ?_
  | with_reducible refine s_oN ?_
  | with_reducible refine s_oS ?_
  | with_reducible refine s_lc ?_
  | with_reducible refine s_bN ?_
  | with_reducible refine s_bT ?_
  | with_reducible refine s_bTC ?_
  | with_reducible refine s_bTN ?_
  | with_reducible refine s_it ?_
  | with_reducible refine s_rng ?_
  | with_reducible refine s_zip ?_
  | with_reducible refine s_zip2 ?_
  | with_reducible refine s_enum ?_
  | with_reducible refine s_enum1 ?_
  | with_reducible refine s_yes ?_
  | with_reducible refine s_cT ?_
  | with_reducible refine s_cF ?_
  | with_reducible refine s_retN ?_
  | with_reducible refine s_try ?_
  | with_reducible refine s_raise0 ?_
  | with_reducible refine s_raise1 ?_
  | with_reducible refine s_isE ?_
  | with_reducible refine s_fld ?_
  | with_reducible refine s_brk ?_
  | with_reducible refine s_cnt ?_
  | ((with_reducible refine' s_aug ?k1 ?_); (case k1 => exact rfl))
  | with_reducible refine s_augix ?_
  | with_reducible refine s_addI ?_
  | ((with_reducible refine' s_addT ?k1 ?_); (case k1 => walk_at "side"))
  | ((with_reducible refine' s_addS ?k1 ?_); (case k1 => walk_at "side"))
  | with_reducible refine s_catL ?_
  | with_reducible refine s_subI ?_
  | ((with_reducible refine' s_mulI ?k1 ?_); (case k1 => walk_at "side"))
  | ((with_reducible refine' s_divI ?k1 ?_); (case k1 => walk_at "side"))
  | ((with_reducible refine' s_modI ?k1 ?_); (case k1 => walk_at "side"))
  | ((with_reducible refine' s_powI ?k1 ?_); (case k1 => walk_at "side"))
  | ((with_reducible refine' s_shlI ?k1 ?_); (case k1 => walk_at "side"))
  | with_reducible refine s_iaddI ?_
  | ((with_reducible refine' s_iaddS ?k1 ?_); (case k1 => walk_at "side"))
  | with_reducible refine s_eqI ?_
  | with_reducible refine s_neI ?_
  | with_reducible refine s_eqS ?_
  | with_reducible refine s_neS ?_
  | with_reducible refine s_eqB ?_
  | with_reducible refine s_neB ?_
  | with_reducible refine s_cmp ?_
  | ((with_reducible refine' s_ixX ?k1 ?_); (case k1 => walk_at "side"))
  | with_reducible refine s_lenT ?_
  | with_reducible refine s_lenL ?_
  | with_reducible refine s_lenC ?_
  | ((with_reducible refine' s_lenS ?k1 ?_); (case k1 => walk_at "side"))
  | with_reducible refine s_abs ?_
  | with_reducible refine s_intI ?_
  | with_reducible refine s_intB ?_
  | with_reducible refine s_gcd ?_
  | with_reducible refine s_listT ?_
  | with_reducible refine s_listL ?_
  | with_reducible refine s_tupT ?_
  | with_reducible refine s_tupL ?_
  | with_reducible refine s_all ?_
  | with_reducible refine s_any ?_
  | with_reducible refine s_sum ?_
  | with_reducible refine s_sumAT ?_
  | with_reducible refine s_sumAL ?_
  | with_reducible refine s_cnT ?_
  | with_reducible refine s_cnF ?_
  | with_reducible refine s_par3 ?_
  | with_reducible refine s_max2 ?_
  | with_reducible refine s_min2 ?_
  | with_reducible refine s_chain ?_
  | with_reducible refine s_chainT ?_
  | with_reducible refine s_inL ?_
  | with_reducible refine s_inT ?_
  | with_reducible refine s_append ?_
  | with_reducible refine s_extend ?_
  | with_reducible refine s_popAt ?_
  | with_reducible refine s_pop ?_
  | with_reducible refine s_slT ?_
  | with_reducible refine s_slL ?_
  | with_reducible refine s_itT ?_
  | with_reducible refine s_itL ?_
  | with_reducible refine s_itC ?_
  | ((with_reducible refine' s_rng1 ?k1 ?_); (case k1 => walk_at "side"))
  | ((with_reducible refine' s_rng2 ?k1 ?_); (case k1 => walk_at "side"))
  | ((with_reducible refine' s_rngD ?k1 ?_); (case k1 => walk_at "side"))
  | ((with_reducible refine' s_isLst ?k1 ?_); (case k1 => walk_at "look"))
  | ((with_reducible refine' s_lstOkL ?k1 ?_); (case k1 => walk_at "look"))
  | ((with_reducible refine' And.intro ?k1 ?_); (case k1 => walk_at "side")))
local macro_rules | `(tactic| walk_at "s") => `(tactic| repeat (walk_at "s1"))
theorem intsOf_ints (ns : List Int) : intsOf (ns.map D.int) = some ns := intsOf_map ns
theorem bt_sum {K : Nat} : ∀ {l : List Int}, (∀ x ∈ l, Bt K x) → Bt (K + l.length) l.sum
  | [], _ => by show (0 : Int).natAbs < _; exact Nat.two_pow_pos _
  | x :: l, h => by
    have a := h x List.mem_cons_self
    have b := bt_sum (l := l) fun y hy => h y (List.mem_cons_of_mem _ hy)
    rw [List.sum_cons, List.length_cons]
    exact (a.mono (Nat.le_add_right _ l.length)).add b
theorem tops_sum {L : Int} (hL : 0 < L) : ∀ {xs : List Rat}, (∀ x ∈ xs, (x.den : Int) ∣ L) → (((topsOf xs L).sum : Int) : Rat) / L = sumQ xs
  | [], _ => by show ((0 : Int) : Rat) / L = 0; grind
  | x :: xs, h => by
    have ih := tops_sum hL (xs := xs) fun y hy => h y (List.mem_cons_of_mem _ hy)
    obtain ⟨m, hm⟩ := h x List.mem_cons_self
    have xd := den_pos x
    have e1 : L / (x.den : Int) = m := by rw [hm]; exact Int.mul_ediv_cancel_left _ (by omega)
    have m0 : m ≠ 0 := fun e => by rw [e, Int.mul_zero] at hm; omega
    show (((x.num * (L / (x.den : Int)) + (topsOf xs L).sum : Int)) : Rat) / L = x + sumQ xs
    rw [e1, ← ih, Rat.intCast_add, Rat.intCast_mul]
    have hx := rat_cast x
    have hLq : (L : Rat) = (x.den : Int) * (m : Rat) := by rw [← Rat.intCast_mul, ← hm]
    have c1 := cast_den x
    have c2 := cast_ne m0
    rw [hLq]
    generalize ((x.den : Int) : Rat) = dd at *
    generalize (m : Rat) = mm at *
    generalize (x.num : Rat) = nn at *
    generalize (((topsOf xs L).sum : Int) : Rat) = ss at *
    subst hx
    grind
def tbits (m k : Nat) : Nat := 1 + m * k + k + m
/-- m fractions of k bits may be brought to one bottom -/
def tok (m k : Nat) : Prop := 1 + m * k ≤ 8900 ∧ m + k ≤ 8900
theorem tok_b {m k : Nat} (h : tok m k) : tbits m k ≤ 30000 := by unfold tok at h; unfold tbits; omega
def spTotal : SpD := fun ds st R _ => ∃ (row : D) (xs : List Rat) (k : Nat), ds = [row] ∧ RowAt st row (xs.map qD) ∧ tok xs.length k ∧ (∀ x ∈ xs, Bits k x) ∧ (Bits (tbits xs.length k) (sumQ xs) → R (qD (sumQ xs)) st)
theorem len_total : ∀ ds st R Rx, spTotal ds st R Rx → ds.length = 1 := by
  rintro ds st R Rx ⟨_, _, _, rfl, -⟩; rfl
theorem read_total : ∀ ds st R Rx, spTotal ds st R Rx → wb_total spShared spFrac (bodyEd R Rx) (startD 3 ds) st := by
  rintro ds st R Rx ⟨row, xs, k, rfl, hrow, hk, hb, kk⟩
  have hk0 := hk
  unfold tok at hk
  unfold wb_total bodyEd
  walk_at "s"
  refine ⟨row, xs, k, rfl, hrow, ⟨by omega, by omega⟩, by omega, hb, fun L L0 bL hd => ?_⟩
  walk_at "s"
  refine ⟨_, _, rfl, by omega, bL.log9 (by omega), frac_rat (by omega) fun z ez z1 z2 => ?_⟩
  have e : z = sumQ xs := by rw [ez]; exact tops_sum L0 hd
  have bs : Bt (tbits xs.length k) (topsOf xs L).sum := by
    have := bt_sum (K := 1 + xs.length * k + k) (l := topsOf xs L) fun t ht => by
      obtain ⟨x, hx, rfl⟩ := List.mem_map.mp ht
      exact ((hb x hx).n.mul (bL.of_le (Int.natAbs_ediv_le_natAbs _ _))).mono (by omega)
    rw [topsOf, List.length_map] at this
    exact this
  have bz := bits_of bs (bL.mono (by unfold tbits; omega)) z1 z2
  rw [e] at bz ⊢
  exact s_end (kk bz)
/-! corners, tables -/
abbrev Mv := Int × Nat × Nat
def moveD (m : Mv) : D := .tup [.int m.1, .int (m.2.1 : Int), .int (m.2.2 : Int)]
def cornerD (c : List Mv) : D := .tup (c.map moveD)
def natsD (r : List Nat) : D := .tup (r.map fun i : Nat => D.int (i : Int))
def tabD (t : List (List Rat)) : D := .tup (t.map fun r => .tup (r.map qD))
def tabAt (t : List (List Rat)) (s n : Nat) : Rat := (t.getD s []).getD n 0
def wsum (c : List Mv) : Int := (c.map fun m => m.1).sum
structure MvOk (letters nodes : Nat) (m : Mv) : Prop where
  w0 : 0 < m.1
  w1 : m.1 ≤ 1000
  l : m.2.1 < letters
  a : m.2.2 < nodes
def spWsum : SpD := fun ds st R _ => ∃ c : List Mv, ds = [cornerD c] ∧ c.length ≤ 1000000 ∧ R (.int (wsum c)) st
theorem len_wsum : ∀ ds st R Rx, spWsum ds st R Rx → ds.length = 1 := by
  rintro ds st R Rx ⟨_, rfl, -⟩; rfl
theorem read_wsum : ∀ ds st R Rx, spWsum ds st R Rx → wb_law_weight_sum (bodyEd R Rx) (startD 2 ds) st := by
  rintro ds st R Rx ⟨c, rfl, hl, k⟩
  unfold wb_law_weight_sum bodyEd cornerD
  walk_at "s"
  refine lc_calm (fun d => match d with | .tup (x :: _) => x | d => d) (fun _ => true) trivial (by rw [List.length_map]; show _ ≤ 2 ^ 24; simp only [List.length_nil]; omega) (fun d hd kk kn h1 h2 => ?_) ?_
  · obtain ⟨m, -, rfl⟩ := List.mem_map.mp hd
    unfold moveD at h1 ⊢
    walk_at "s"
    exact h1 rfl
  · rw [List.filter_eq_self.mpr (fun _ _ => rfl), List.map_map, List.nil_append]
    intro u hu
    walk_at "s"
    have e9 : (c.map ((fun d => match d with | D.tup (x :: _) => x | d => d) ∘ moveD)) = (c.map fun m => m.1).map D.int := by rw [List.map_map]; rfl
    refine s_opt (z := c.map fun m => m.1) (by rw [e9]; exact intsOf_ints _) ?_
    walk_at "s"
    exact s_endS (Sub.put_new hu) k
def spCornerTotal : SpD := fun ds st R _ => ∃ c : List Mv, ds = [cornerD c] ∧ c.length ≤ 1000000 ∧ R (qD (wsum c : Rat)) st
theorem len_ctotal : ∀ ds st R Rx, spCornerTotal ds st R Rx → ds.length = 1 := by
  rintro ds st R Rx ⟨_, rfl, -⟩; rfl
theorem qD_int (i : Int) : qD (i : Rat) = .tup [.int i, .int 1] := rfl
theorem read_ctotal : ∀ ds st R Rx, spCornerTotal ds st R Rx → wb_corner_total (bodyEd R Rx) (startD 4 ds) st := by
  rintro ds st R Rx ⟨c, rfl, hl, k⟩
  unfold wb_corner_total bodyEd cornerD
  walk_at "s"
  refine lc_calm (fun d => match d with | .tup (x :: _) => x | d => d) (fun _ => true) trivial (by rw [List.length_map]; show _ ≤ 2 ^ 24; simp only [List.length_nil]; omega) (fun d hd kk kn h1 h2 => ?_) ?_
  · obtain ⟨m, -, rfl⟩ := List.mem_map.mp hd
    unfold moveD at h1 ⊢
    walk_at "s"
    exact h1 rfl
  · rw [List.filter_eq_self.mpr (fun _ _ => rfl), List.map_map, List.nil_append]
    intro u hu
    walk_at "s"
    have e9 : (c.map ((fun d => match d with | D.tup (x :: _) => x | d => d) ∘ moveD)) = (c.map fun m => m.1).map D.int := by rw [List.map_map]; rfl
    refine s_opt (z := c.map fun m => m.1) (by rw [e9]; exact intsOf_ints _) ?_
    walk_at "s"
    exact s_endS (Sub.put_new hu) k
structure TabB (k states nodes : Nat) (t : List (List Rat)) : Prop where
  len : t.length = states
  rows : ∀ r ∈ t, r.length = nodes
  bits : ∀ r ∈ t, ∀ x ∈ r, Bits k x
theorem TabB.row {k states nodes s : Nat} {t : List (List Rat)} (h : TabB k states nodes t) (hs : s < states) : t[s]? = some (t.getD s []) ∧ (t.getD s []).length = nodes ∧ ∀ x ∈ t.getD s [], Bits k x := by
  have hl : s < t.length := by rw [h.len]; exact hs
  have e : t.getD s [] = t[s] := by rw [List.getD_eq_getElem?_getD, List.getElem?_eq_getElem hl]; rfl
  rw [e]
  exact ⟨List.getElem?_eq_getElem hl, h.rows _ (List.getElem_mem hl), h.bits _ (List.getElem_mem hl)⟩
theorem TabB.at {k states nodes s n : Nat} {t : List (List Rat)} (h : TabB k states nodes t) (hs : s < states) (hn : n < nodes) : atI (t.map fun r => D.tup (r.map qD)) (s : Int) = some (.tup ((t.getD s []).map qD)) ∧ atI ((t.getD s []).map qD) (n : Int) = some (qD (tabAt t s n)) ∧ Bits k (tabAt t s n) := by
  obtain ⟨e1, e2, e3⟩ := h.row hs
  have hl : n < (t.getD s []).length := by rw [e2]; exact hn
  have e : tabAt t s n = (t.getD s [])[n] := by rw [tabAt, List.getD_eq_getElem?_getD, List.getElem?_eq_getElem hl]; rfl
  refine ⟨atI_nat (by rw [List.getElem?_map, e1]; rfl), atI_nat (by rw [List.getElem?_map, List.getElem?_eq_getElem hl, e]; rfl), ?_⟩
  rw [e]
  exact e3 _ (List.getElem_mem hl)
theorem nat_at {r : List Nat} {i : Nat} (h : i < r.length) : atI (r.map fun i : Nat => D.int (i : Int)) (i : Int) = some (.int (r.getD i 0 : Nat)) := by
  refine atI_nat ?_
  rw [List.getElem?_map, List.getElem?_eq_getElem h, List.getD_eq_getElem?_getD, List.getElem?_eq_getElem h]; rfl
/-- the sum that a corner brings together -/
def parts (c : List Mv) (r : List Nat) (t : List (List Rat)) : List Rat := c.map fun m => (m.1 : Rat) * tabAt t (r.getD m.2.1 0) m.2.2
structure StepOk (k letters states nodes : Nat) (c : List Mv) (r : List Nat) (t : List (List Rat)) : Prop where
  c : ∀ m ∈ c, MvOk letters nodes m
  rl : r.length = letters
  rs : ∀ i ∈ r, i < states
  t : TabB k states nodes t
theorem StepOk.st {k letters states nodes : Nat} {c : List Mv} {r : List Nat} {t : List (List Rat)} (h : StepOk k letters states nodes c r t) {m : Mv} (hm : m ∈ c) : r.getD m.2.1 0 < states := by
  have := (h.c m hm).l
  have hl : m.2.1 < r.length := by rw [h.rl]; exact this
  rw [List.getD_eq_getElem?_getD, List.getElem?_eq_getElem hl]
  exact h.rs _ (List.getElem_mem hl)
theorem bits_w {m : Mv} {l n : Nat} (h : MvOk l n m) : Bits 10 ((m.1 : Int) : Rat) := by
  have := h.w0
  have := h.w1
  refine ⟨?_, ?_⟩
  · show m.1.natAbs < 2 ^ 10
    omega
  · show (1 : Int).natAbs < 2 ^ 10
    decide
theorem moveD_0 {m : Mv} : atI [D.int m.1, D.int (m.2.1 : Int), D.int (m.2.2 : Int)] 0 = some (.int m.1) := atI_0 _ _
theorem Bits.mul {k l : Nat} {x y : Rat} (h : Bits k x) (g : Bits l y) : Bits (k + l) (x * y) := by
  refine ⟨?_, ?_⟩
  · rw [Rat.num_mul]
    exact (h.n.mul g.n).of_le (Int.natAbs_ediv_le_natAbs _ _)
  · rw [Rat.den_mul]
    refine (h.d.mul g.d).of_le ?_
    have e : ((x.den : Int) * (y.den : Int)).natAbs = x.den * y.den := by rw [Int.natAbs_mul, Int.natAbs_natCast, Int.natAbs_natCast]
    rw [e, Int.natAbs_natCast]
    exact Nat.div_le_self _ _
def spWeighed : SpD := fun ds st R _ => ∃ (c : List Mv) (r : List Nat) (t : List (List Rat)) (k letters states nodes : Nat), ds = [cornerD c, natsD r, tabD t] ∧ StepOk k letters states nodes c r t ∧ c.length ≤ 1000 ∧ tok c.length (k + 10) ∧ (Bits (tbits c.length (k + 10)) (sumQ (parts c r t)) → R (qD (sumQ (parts c r t))) st)
theorem len_weighed : ∀ ds st R Rx, spWeighed ds st R Rx → ds.length = 3 := by
  rintro ds st R Rx ⟨_, _, _, _, _, _, _, rfl, -⟩; rfl
theorem parts_map {c : List Mv} {r : List Nat} {t : List (List Rat)} : (parts c r t).length = c.length := List.length_map ..
theorem parts_bits {k letters states nodes : Nat} {c : List Mv} {r : List Nat} {t : List (List Rat)} (h : StepOk k letters states nodes c r t) : ∀ x ∈ parts c r t, Bits (k + 10) x := by
  intro x hx
  obtain ⟨m, hm, rfl⟩ := List.mem_map.mp hx
  have b := (h.t.at (h.st hm) (h.c m hm).a).2.2
  exact ((bits_w (h.c m hm)).mul b).mono (by omega)
theorem read_weighed : ∀ ds st R Rx, spWeighed ds st R Rx → wb_weighed_entries spTotal spTimes (bodyEd R Rx) (startD 6 ds) st := by
  rintro ds st R Rx ⟨c, r, t, k, letters, states, nodes, rfl, ok, hl, hb, kk⟩
  have hk : k + 10 ≤ 8900 := Nat.le_trans (Nat.le_add_left _ _) hb.2
  unfold wb_weighed_entries bodyEd cornerD natsD tabD
  walk_at "s"
  refine lc_ind (fun items acc st2 => ∃ p2 s2, c = p2 ++ s2 ∧ items = s2.map moveD ∧ acc = (parts p2 r t).map qD ∧ st2 = st) ?_ ?_ _ _ _ ⟨[], c, rfl, rfl, rfl, rfl⟩
  · rintro acc st2 ⟨p2, s2, e, e2, rfl, rfl⟩
    refine ⟨trivial, ?_⟩
    have : s2 = [] := by cases s2 with
      | nil => rfl
      | cons _ _ => cases e2
    subst this
    rw [List.append_nil] at e
    subst e
    intro u hu
    refine ⟨_, parts c r t, k + 10, rfl, .inr ⟨u, rfl, put_same⟩, by rw [parts_map]; exact hb, parts_bits ok, fun hz => ?_⟩
    rw [parts_map] at hz
    exact s_endS (Sub.put_new hu) (kk hz)
  · rintro d rr acc st2 ⟨p2, s2, e, e2, rfl, rfl⟩ ih
    refine ⟨trivial, ?_⟩
    cases s2 with
    | nil => cases e2
    | cons m s2 =>
    obtain ⟨rfl, rfl⟩ := List.cons.inj e2
    have hm : m ∈ c := by rw [e]; exact List.mem_append_right _ List.mem_cons_self
    have hlen : p2.length + 1 ≤ c.length := by rw [e, List.length_append, List.length_cons]; omega
    have mo := ok.c m hm
    have a1 := nat_at (r := r) (i := m.2.1) (by rw [ok.rl]; exact mo.l)
    obtain ⟨a2, a3, b3⟩ := ok.t.at (ok.st hm) mo.a
    unfold moveD
    walk_at "s"
    refine times_q (x := ((m.1 : Int) : Rat)) (bits_w mo) b3 (by omega) fun _ => ?_
    refine ⟨by rw [List.length_map, parts_map]; show _ < 2 ^ 24; omega, ?_⟩
    exact ih _ _ ⟨p2 ++ [m], s2, by rw [e, List.append_assoc]; rfl, rfl, by rw [parts, parts, List.map_append, List.map_append]; rfl, rfl⟩
theorem wsum_bt {letters nodes : Nat} {c : List Mv} (h : ∀ m ∈ c, MvOk letters nodes m) : Bt (10 + c.length) (wsum c) := by
  have := bt_sum (K := 10) (l := c.map fun m => m.1) fun x hx => by
    obtain ⟨m, hm, rfl⟩ := List.mem_map.mp hx
    exact (bits_w (h m hm)).n
  rwa [List.length_map] at this
theorem bits_int {k : Nat} {i : Int} (h : Bt k i) (hk : 0 < k) : Bits k (i : Rat) := ⟨h, (show Bt 1 1 by unfold Bt; decide).mono hk⟩
def Grow (c : List Mv) (r : List Nat) (t : List (List Rat)) (e : Rat) : Prop := (wsum c : Rat) * e < sumQ (parts c r t)
instance {c r t e} : Decidable (Grow c r t e) := by unfold Grow; infer_instance
def spGrow : SpD := fun ds st R _ => ∃ (c : List Mv) (r : List Nat) (t : List (List Rat)) (e : Rat) (k letters states nodes : Nat), ds = [cornerD c, natsD r, tabD t, qD e] ∧ StepOk k letters states nodes c r t ∧ Bits k e ∧ c.length ≤ 1000 ∧ tok c.length (k + 10) ∧ R (.bl (decide (Grow c r t e))) st
theorem len_grow : ∀ ds st R Rx, spGrow ds st R Rx → ds.length = 4 := by
  rintro ds st R Rx ⟨_, _, _, _, _, _, _, _, rfl, -⟩; rfl
theorem read_growing : ∀ ds st R Rx, spGrow ds st R Rx → wb_is_growing_by spAtMost spWeighed spTimes spCornerTotal (bodyEd R Rx) (startD 4 ds) st := by
  rintro ds st R Rx ⟨c, r, t, e, k, letters, states, nodes, rfl, ok, be, hl, hb, kk⟩
  have hb' := tok_b hb
  have hb3 := tok_b hb
  have hb2 := hb
  unfold tok at hb2
  unfold tbits at hb'
  unfold wb_is_growing_by bodyEd
  walk_at "s"
  refine ⟨c, r, t, k, letters, states, nodes, rfl, ok, hl, hb, fun bz => ?_⟩
  walk_at "s"
  refine ⟨c, rfl, by omega, ?_⟩
  walk_at "s"
  refine times_q (bits_int (wsum_bt ok.c) (by omega)) be (by omega) fun bw => ?_
  walk_at "s"
  refine atmost_q bz bw (by omega) ?_
  walk_at "s"
  have : (!decide (sumQ (parts c r t) ≤ (wsum c : Rat) * e)) = decide (Grow c r t e) := by
    unfold Grow
    rw [← decide_not]
    exact decide_eq_decide.mpr Rat.not_le
  rw [this]
  exact s_end kk
end C
end DL

namespace DL
namespace C
open PySem L2
local macro_rules | `(tactic| walk_at "look") => `(tactic| first
  | assumption
  | exact put_same
  | (refine look_ne (by first | assumption | exact Ne.symm (by assumption)) ?_; walk_at "look")
  | (refine look_new (by assumption) ?_; walk_at "look"))
local macro_rules | `(tactic| walk_at "side") => `(tactic| first | assumption | exact trivial | decide | omega | exact ⟨by assumption, by assumption⟩ | exact ⟨by omega, by omega⟩ | exact ⟨by decide, by decide⟩ | exact ⟨by decide, by decide, by decide⟩ | (exact .inl (.inl ⟨by decide, by decide⟩)) | (exact .inl (.inr ⟨by decide, by decide⟩)) | (exact .inl (.inl ⟨by omega, by omega⟩)) | (exact .inl (.inr ⟨by omega, by omega⟩)))
local macro_rules | `(tactic| walk_at "opt") => `(tactic| first | (with_reducible exact atI_0 _ _) | (with_reducible exact atI_1 _ _ _) | (with_reducible exact atI_2 _ _ _ _) | (with_reducible exact atI_3 _ _ _ _ _) | (with_reducible exact atI_4 _ _ _ _ _ _) | assumption | exact atI_0 _ _ | exact atI_1 _ _ _ | exact atI_2 _ _ _ _ | exact atI_3 _ _ _ _ _ | exact atI_4 _ _ _ _ _ _ | exact boolsOf_map _ | exact intsOf_map _ | exact rfl)
local macro_rules | `(tactic| walk_at "s1") => `(tactic| first
  | ((with_reducible refine' s_var ?k1 ?_); (case k1 => exact rfl))
  | with_reducible refine s_bin ?_
  | with_reducible refine s_c ?_
  | with_reducible refine s_seqM ?_
  | with_reducible refine s_asB ?_
  | with_reducible refine s_asI ?_
  | with_reducible refine s_asRI ?_
  | with_reducible refine s_acons ?_
  | with_reducible refine s_anil ?_
  | with_reducible refine s_call ?_
  | with_reducible refine s_cb ?_
  | with_reducible refine s_set ?_
  | with_reducible refine s_ixT ?_
  | with_reducible refine s_ixL ?_
  | with_reducible refine s_ixS ?_
  | ((with_reducible refine' s_getL ?k1 ?_); (case k1 => walk_at "look"))
  | ((with_reducible refine' s_opt ?k1 ?_); (case k1 => walk_at "opt"))
  | with_reducible refine s_binT ?_
  | with_reducible refine s_tup ?_
  | with_reducible refine s_tpT ?_
  | with_reducible refine s_lst ?_
  | with_reducible refine s_ret ?_
  | with_reducible refine s_if ?_
  | with_reducible refine s_nextM ?_
  | with_reducible refine s_drop ?_
  | with_reducible refine s_par ?_
  | with_reducible refine s_asg ?_
  | with_reducible refine s_gN ?_
  | ((with_reducible refine' s_gT ?k1 ?_); (case k1 => exact rfl))
  | with_reducible refine s_gsC ?_
  | with_reducible refine s_gsN ?_
  | with_reducible refine s_gIx ?_
  | with_reducible refine s_setD ?_
  | with_reducible refine s_for ?_
  | with_reducible refine s_b ?_
  | with_reducible refine s_and ?_
  | with_reducible refine s_or ?_
  | with_reducible refine s_not ?_
  | with_reducible refine s_ife ?_
  | with_reducible refine s_neg ?_
  | with_reducible refine s_notV ?_
  | with_reducible refine s_andV ?_
  | with_reducible refine s_orV ?_
  | with_reducible refine s_isi ?_
  | with_reducible refine s_m ?_
  | with_reducible refine s_none ?_
  | with_reducible refine s_noneT ?_
  | with_reducible refine s_sl ?_
  | with_reducible refine s_oN ?_
  | with_reducible refine s_oS ?_
  | with_reducible refine s_lc ?_
  | with_reducible refine s_bN ?_
  | with_reducible refine s_bT ?_
  | with_reducible refine s_bTC ?_
  | with_reducible refine s_bTN ?_
  | with_reducible refine s_it ?_
  | with_reducible refine s_rng ?_
  | with_reducible refine s_zip ?_
  | with_reducible refine s_zip2 ?_
  | with_reducible refine s_enum ?_
  | with_reducible refine s_enum1 ?_
  | with_reducible refine s_yes ?_
  | with_reducible refine s_cT ?_
  | with_reducible refine s_cF ?_
  | with_reducible refine s_retN ?_
  | with_reducible refine s_try ?_
  | with_reducible refine s_raise0 ?_
  | with_reducible refine s_raise1 ?_
  | with_reducible refine s_isE ?_
  | with_reducible refine s_fld ?_
  | with_reducible refine s_brk ?_
  | with_reducible refine s_cnt ?_
  | ((with_reducible refine' s_aug ?k1 ?_); (case k1 => exact rfl))
  | with_reducible refine s_augix ?_
  | with_reducible refine s_addI ?_
  | ((with_reducible refine' s_addT ?k1 ?_); (case k1 => walk_at "side"))
  | ((with_reducible refine' s_addS ?k1 ?_); (case k1 => walk_at "side"))
  | with_reducible refine s_catL ?_
  | with_reducible refine s_subI ?_
  | ((with_reducible refine' s_mulI ?k1 ?_); (case k1 => walk_at "side"))
  | ((with_reducible refine' s_divI ?k1 ?_); (case k1 => walk_at "side"))
  | ((with_reducible refine' s_modI ?k1 ?_); (case k1 => walk_at "side"))
  | ((with_reducible refine' s_powI ?k1 ?_); (case k1 => walk_at "side"))
  | ((with_reducible refine' s_shlI ?k1 ?_); (case k1 => walk_at "side"))
  | with_reducible refine s_iaddI ?_
  | ((with_reducible refine' s_iaddS ?k1 ?_); (case k1 => walk_at "side"))
  | with_reducible refine s_eqI ?_
  | with_reducible refine s_neI ?_
  | with_reducible refine s_eqS ?_
  | with_reducible refine s_neS ?_
  | with_reducible refine s_eqB ?_
  | with_reducible refine s_neB ?_
  | with_reducible refine s_cmp ?_
  | ((with_reducible refine' s_ixX ?k1 ?_); (case k1 => walk_at "side"))
  | with_reducible refine s_lenT ?_
  | with_reducible refine s_lenL ?_
  | with_reducible refine s_lenC ?_
  | ((with_reducible refine' s_lenS ?k1 ?_); (case k1 => walk_at "side"))
  | with_reducible refine s_abs ?_
  | with_reducible refine s_intI ?_
  | with_reducible refine s_intB ?_
  | with_reducible refine s_gcd ?_
  | with_reducible refine s_listT ?_
  | with_reducible refine s_listL ?_
  | with_reducible refine s_tupT ?_
  | with_reducible refine s_tupL ?_
  | with_reducible refine s_all ?_
  | with_reducible refine s_any ?_
  | with_reducible refine s_sum ?_
  | with_reducible refine s_sumAT ?_
  | with_reducible refine s_sumAL ?_
  | with_reducible refine s_cnT ?_
  | with_reducible refine s_cnF ?_
  | with_reducible refine s_par3 ?_
  | with_reducible refine s_max2 ?_
  | with_reducible refine s_min2 ?_
  | with_reducible refine s_chain ?_
  | with_reducible refine s_chainT ?_
  | with_reducible refine s_inL ?_
  | with_reducible refine s_inT ?_
  | with_reducible refine s_append ?_
  | with_reducible refine s_extend ?_
  | with_reducible refine s_popAt ?_
  | with_reducible refine s_pop ?_
  | with_reducible refine s_slT ?_
  | with_reducible refine s_slL ?_
  | with_reducible refine s_itT ?_
  | with_reducible refine s_itL ?_
  | with_reducible refine s_itC ?_
  | ((with_reducible refine' s_rng1 ?k1 ?_); (case k1 => walk_at "side"))
  | ((with_reducible refine' s_rng2 ?k1 ?_); (case k1 => walk_at "side"))
  | ((with_reducible refine' s_rngD ?k1 ?_); (case k1 => walk_at "side"))
  | ((with_reducible refine' s_isLst ?k1 ?_); (case k1 => walk_at "look"))
  | ((with_reducible refine' s_lstOkL ?k1 ?_); (case k1 => walk_at "look"))
  | ((with_reducible refine' And.intro ?k1 ?_); (case k1 => walk_at "side")))
local macro_rules | `(tactic| walk_at "s") => `(tactic| repeat (walk_at "s1"))
/-! tables as things -/
inductive PureD : D → Prop where
  | non : PureD .non
  | bl (b : Bool) : PureD (.bl b)
  | int (i : Int) : PureD (.int i)
  | str (x : Str) : PureD (.str x)
  | tup {es : List D} (h : ∀ e ∈ es, PureD e) : PureD (.tup es)
theorem PureD.nr {d : D} (h : PureD d) : nr d = true := by cases h <;> rfl
theorem PureD.mem {es : List D} (h : PureD (.tup es)) : ∀ e ∈ es, PureD e := by cases h with | tup h => exact h
theorem PureD.two {d : D} (h : PureD d) : ∀ x y, d = .tup [x, y] → C.nr x = true ∧ C.nr y = true := by
  rintro x y rfl
  exact ⟨(h.mem x List.mem_cons_self).nr, (h.mem y (List.mem_cons_of_mem _ List.mem_cons_self)).nr⟩
theorem pure_q (x : Rat) : PureD (qD x) := .tup fun e he => by
  rcases List.mem_cons.mp he with rfl | he
  · exact .int _
  · rw [List.mem_singleton.mp he]; exact .int _
def isRow (n : Nat) : D → Bool
  | .tup es => decide (es.length = n)
  | _ => false
def isGrid (s n : Nat) : D → Bool
  | .tup rows => decide (rows.length = s) && rows.all (isRow n)
  | _ => false
def allFr : D → Bool
  | .tup es => es.all isFr
  | _ => true
def isTable (s n : Nat) (d : D) : Bool := isGrid s n d && match d with
  | .tup rows => rows.all allFr
  | _ => true
def spGrid : SpD := fun ds st R _ => ∃ (d : D) (s n : Nat), ds = [d, .int s, .int n] ∧ PureD d ∧ (∀ es, d = .tup es → es.length ≤ 1000000) ∧ R (.bl (isGrid s n d)) st
theorem len_grid : ∀ ds st R Rx, spGrid ds st R Rx → ds.length = 3 := by
  rintro ds st R Rx ⟨_, _, _, rfl, -⟩; rfl
theorem isGrid_no {s n : Nat} {d : D} (h : isTy .tup d = false) : isGrid s n d = false := by
  cases d <;> first | rfl | cases h
theorem isRow_no {n : Nat} {d : D} (h : isTy .tup d = false) : isRow n d = false := by
  cases d <;> first | rfl | cases h
theorem read_grid : ∀ ds st R Rx, spGrid ds st R Rx → wb_is_grid (bodyEd R Rx) (startD 4 ds) st := by
  rintro ds st R Rx ⟨d, s, n, rfl, hp, hl, k⟩
  have ok := nr_ok (st := st) hp.nr
  unfold wb_is_grid bodyEd
  walk_at "s"
  cases ht : isTy .tup d with
  | false =>
    rw [isGrid_no ht] at k
    walk_at "s"
    exact s_end k
  | true =>
    cases d with
    | tup es =>
      walk_at "s"
      by_cases he : es.length = s
      · refine s_nnoP (by omega) ?_
        walk_at "s"
        refine lc_calm (fun d => .bl (isRow n d)) (fun _ => true) trivial (by have := hl es rfl; show _ ≤ 2 ^ 24; simp only [List.length_nil]; omega) (fun d hd kk kn h1 h2 => ?_) ?_
        · have okd := nr_ok (st := st) (hp.mem d hd).nr
          walk_at "s"
          cases hd2 : isTy .tup d with
          | false =>
            rw [isRow_no hd2] at h1
            refine s_noB rfl ?_
            exact h1 rfl
          | true =>
            cases d with
            | tup fs =>
              refine s_yesB rfl ?_
              walk_at "s"
              have := h1 rfl
              rw [show isRow n (.tup fs) = decide ((fs.length : Int) = n) from decide_eq_decide.mpr (by omega)] at this
              exact this
            | _ => cases hd2
        · rw [List.filter_eq_self.mpr (fun _ _ => rfl), List.nil_append]
          intro u hu
          walk_at "s"
          have e1 : boolsOf (es.map fun d => D.bl (isRow n d)) = some (es.map (isRow n)) := by
            have := boolsOf_map (es.map (isRow n))
            rwa [List.map_map] at this
          refine s_opt e1 ?_
          walk_at "s"
          have e2 : isGrid s n (.tup es) = (es.map (isRow n)).all fun b => b := by
            show (decide (es.length = s) && es.all (isRow n)) = _
            rw [decide_eq_true he, Bool.true_and, List.all_map]; rfl
          rw [e2] at k
          exact s_endS (Sub.put_new hu) k
      · have e2 : isGrid s n (.tup es) = false := by
          show (decide (es.length = s) && es.all (isRow n)) = _
          rw [decide_eq_false he, Bool.false_and]
        rw [e2] at k
        refine s_nyesP (by omega) ?_
        walk_at "s"
        exact s_end k
    | _ => cases ht
theorem lc2I_ind {bind : D → DE → (DE → Prop) → Prop} {ep0 : DE} {wt : WT} {we : WE} {G : DS → Prop} {p : Addr} {k : DS → Prop} (I : List D → DS → Prop) (h0 : ∀ st, I [] st → G st ∧ k st)
    (hs : ∀ d r st, I (d :: r) st → (∀ st', I r st' → lc2I bind ep0 wt we G p k r st') → G st ∧ bind d ep0 fun ep => wt ep st (fun b st2 => cnd b (fun _ => we ep st2 (fun y st3 => getL st3 p fun acc => acc.length < sizeLine ∧ lc2I bind ep0 wt we G p k r (put st3 p (.lst (acc ++ [y])))) (fun _ _ => False)) (fun _ => lc2I bind ep0 wt we G p k r st2)) (fun _ _ => False)) :
    ∀ items st, I items st → lc2I bind ep0 wt we G p k items st := by
  intro items
  induction items with
  | nil => exact fun st i => h0 st i
  | cons d r ih => exact fun st i => hs d r st i ih
theorem lc2O_ind {bind : D → DE → (DE → Prop) → Prop} {ep0 : DE} {wt : WT} {wi1 : WI} {bind1 : D → DE → (DE → Prop) → Prop} {vs1 : List Nat} {wt1 : WT} {we : WE} {G : DS → Prop} {p : Addr} {k : DS → Prop} (I : List D → DS → Prop) (h0 : ∀ st, I [] st → G st ∧ k st)
    (hs : ∀ d r st, I (d :: r) st → (∀ st', I r st' → lc2O bind ep0 wt wi1 bind1 vs1 wt1 we G p k r st') → G st ∧ bind d ep0 fun ep => wt ep st (fun b st2 => cnd b (fun _ => wi1 ep st2 (fun items1 G1 st3 => lc2I bind1 (wipeD ep vs1) wt1 we G1 p (lc2O bind ep0 wt wi1 bind1 vs1 wt1 we G p k r) items1 st3) (fun _ _ => False)) (fun _ => lc2O bind ep0 wt wi1 bind1 vs1 wt1 we G p k r st2)) (fun _ _ => False)) :
    ∀ items st, I items st → lc2O bind ep0 wt wi1 bind1 vs1 wt1 we G p k items st := by
  intro items
  induction items with
  | nil => exact fun st i => h0 st i
  | cons d r ih => exact fun st i => hs d r st i ih
def spTable : SpD := fun ds st R _ => ∃ (d : D) (s n : Nat), ds = [d, .int s, .int n] ∧ PureD d ∧ (∀ es, d = .tup es → es.length ≤ 100) ∧ n ≤ 100 ∧ R (.bl (isTable s n d)) st
theorem len_table : ∀ ds st R Rx, spTable ds st R Rx → ds.length = 3 := by
  rintro ds st R Rx ⟨_, _, _, rfl, -⟩; rfl
theorem isRow_tup {n : Nat} {d : D} (h : isRow n d = true) : ∃ es, d = .tup es ∧ es.length = n := by
  cases d with
  | tup es => exact ⟨es, rfl, of_decide_eq_true h⟩
  | _ => cases h
theorem read_table : ∀ ds st R Rx, spTable ds st R Rx → wb_is_table spGrid spIsFr (bodyEd R Rx) (startD 5 ds) st := by
  rintro ds st R Rx ⟨d, s, n, rfl, hp, hl, hn, k⟩
  unfold wb_is_table bodyEd
  walk_at "s"
  refine ⟨d, s, n, rfl, hp, fun es e => Nat.le_trans (hl es e) (by decide), ?_⟩
  walk_at "s"
  cases hg : isGrid s n d with
  | false =>
    have : isTable s n d = false := by unfold isTable; rw [hg]; rfl
    rw [this] at k
    walk_at "s"
    exact s_end k
  | true =>
    cases d with
    | tup rows =>
      have hg' : (decide (rows.length = s) && rows.all (isRow n)) = true := hg
      have hrows := List.all_eq_true.mp (Bool.and_eq_true_iff.mp hg').2
      have e0 : isTable s n (.tup rows) = rows.all allFr := by unfold isTable; rw [hg]; rfl
      rw [e0] at k
      have hl' := hl rows rfl
      walk_at "s"
      unfold wLc2
      walk_at "s"
      intro p hpn
      have hpt := hp.mem
      refine lc2O_ind (fun suf T => (∀ r ∈ suf, r ∈ rows) ∧ ∃ acc : List Bool, Sub st T ∧ T p = some (.lst (acc.map D.bl)) ∧ acc.length + suf.length * n ≤ 10000 ∧ rows.all allFr = (acc.all (fun b => b) && suf.all allFr)) ?_ ?_ _ _ ⟨fun r h => h, [], Sub.put_new hpn, put_same, by have := Nat.mul_le_mul hl' hn; simp only [List.length_nil]; omega, rfl⟩
      · rintro T ⟨-, acc, sT, hT, -, e⟩
        refine ⟨trivial, ?_⟩
        walk_at "s"
        rw [List.all_nil, Bool.and_true] at e
        rw [← e]
        exact s_endS sT k
      · rintro d r T ⟨hmem, acc, sT, hT, hlen, e⟩ ih
        refine ⟨trivial, ?_⟩
        have hd := hmem d List.mem_cons_self
        obtain ⟨es, rfl, hes⟩ := isRow_tup (hrows d hd)
        have hpe := (hpt _ hd).mem
        rw [List.length_cons, Nat.succ_mul] at hlen
        rw [List.all_cons] at e
        walk_at "s"
        refine lc2I_ind (fun suf T => (∀ x ∈ suf, x ∈ es) ∧ ∃ acc2 : List Bool, Sub st T ∧ T p = some (.lst (acc2.map D.bl)) ∧ acc2.length + suf.length + r.length * n ≤ 10000 ∧ rows.all allFr = (acc2.all (fun b => b) && (suf.all isFr && r.all allFr))) ?_ ?_ _ _ ⟨fun r h => h, acc, sT, hT, by omega, e⟩
        · rintro T ⟨-, acc2, sT, hT, hlen, e⟩
          refine ⟨trivial, ih T ⟨fun x hx => hmem x (List.mem_cons_of_mem _ hx), acc2, sT, hT, by simp only [List.length_nil] at hlen; omega, by rw [e, List.all_nil, Bool.true_and]⟩⟩
        · rintro x rr T ⟨hx, acc2, sT, hT, hlen, e⟩ ih2
          refine ⟨trivial, ?_⟩
          have px := hpe x (hx x List.mem_cons_self)
          walk_at "s"
          refine ⟨x, rfl, px.nr, px.two, ?_⟩
          walk_at "s"
          rw [List.length_cons] at hlen
          rw [List.all_cons] at e
          refine ⟨by rw [List.length_map]; show _ < 2 ^ 24; omega, ?_⟩
          refine ih2 _ ⟨fun z hz => hx z (List.mem_cons_of_mem _ hz), acc2 ++ [isFr x], sT.put_to _ hpn, by rw [put_same, List.map_append]; rfl, by rw [List.length_append, List.length_singleton]; omega, ?_⟩
          rw [e, List.all_append, List.all_cons, List.all_nil, Bool.and_true, Bool.and_assoc, Bool.and_assoc]
    | _ => cases hg
/-! gauges, webs, the judge -/
structure GW where
  letters : Nat
  rows : List (List Nat)
  shows : List Rat
  web : List (List (List Mv))
def nodeD (n : List (List Mv)) : D := .tup (n.map cornerD)
def webD (w : List (List (List Mv))) : D := .tup (w.map nodeD)
def gaugeD (letters : Nat) (rows : List (List Nat)) (shows : List Rat) : D := .tup [.str (PySem.Str.ofString "gauge"), .int (letters : Int), .tup (rows.map natsD), .tup (shows.map qD)]
/-- k: bits of what is shown; m: moves of a corner -/
structure GOk (k letters states : Nat) (rows : List (List Nat)) (shows : List Rat) : Prop where
  rl : rows.length = states
  sl : shows.length = states
  r : ∀ r ∈ rows, r.length = letters ∧ ∀ i ∈ r, i < states
  b : ∀ x ∈ shows, Bits k x
  s0 : 0 < states
  s1 : states ≤ 64
  l0 : 0 < letters
  l1 : letters ≤ 64
structure WOk (m letters nodes : Nat) (web : List (List (List Mv))) : Prop where
  wl : web.length = nodes
  n : ∀ nd ∈ web, nd.length ≤ 64 ∧ ∀ c ∈ nd, c ≠ [] ∧ c.length ≤ m ∧ ∀ v ∈ c, MvOk letters nodes v
  n0 : 0 < nodes
  n1 : nodes ≤ 64
def belowD (s n : Nat) : D := .tup [.str (PySem.Str.ofString "below"), .int (s : Int), .int (n : Int)]
def growsD (s n a : Nat) : D := .tup [.str (PySem.Str.ofString "grows"), .int (s : Int), .int (n : Int), .int (a : Int)]
def cAt (nd : List (List Mv)) (a : Nat) : List Mv := nd.getD a []
def hV (rows : List (List Nat)) (nd : List (List Mv)) (t : List (List Rat)) (s n : Nat) (a : Nat) : Option D := if Grow (cAt nd a) (rows.getD s []) t (tabAt t s n) then some (growsD s n a) else none
def gV (rows : List (List Nat)) (shows : List Rat) (web : List (List (List Mv))) (t : List (List Rat)) (s n : Nat) : Option D :=
  if tabAt t s n < shows.getD s 0 then some (belowD s n) else (List.range (web.getD n []).length).findSome? (hV rows (web.getD n []) t s n)
def fV (rows : List (List Nat)) (shows : List Rat) (web : List (List (List Mv))) (t : List (List Rat)) (nodes s : Nat) : Option D := (List.range nodes).findSome? (gV rows shows web t s)
def verdict (rows : List (List Nat)) (shows : List Rat) (web : List (List (List Mv))) (t : List (List Rat)) : D := ((List.range rows.length).findSome? (fV rows shows web t web.length)).getD .non
theorem fs_cons {α β : Type} {f : α → Option β} {a : α} {l : List α} : (a :: l).findSome? f = (f a).or (l.findSome? f) := by
  rw [List.findSome?_cons]
  cases f a <;> rfl
structure JOk (k m letters states nodes : Nat) (rows : List (List Nat)) (shows : List Rat) (web : List (List (List Mv))) (t : List (List Rat)) : Prop where
  g : GOk k letters states rows shows
  w : WOk m letters nodes web
  t : TabB k states nodes t
  z : tok m (k + 10)
theorem tbits_mono {a b k : Nat} (h : a ≤ b) : tbits a k ≤ tbits b k := by
  unfold tbits
  have := Nat.mul_le_mul_right k h
  omega
section
variable {k m letters states nodes : Nat} {rows : List (List Nat)} {shows : List Rat} {web : List (List (List Mv))} {t : List (List Rat)}
theorem JOk.step (h : JOk k m letters states nodes rows shows web t) {s n a : Nat} (hs : s < states) (hn : n < nodes) (ha : a < (web.getD n []).length) : StepOk k letters states nodes (cAt (web.getD n []) a) (rows.getD s []) t ∧ (cAt (web.getD n []) a).length ≤ 1000 ∧ tok (cAt (web.getD n []) a).length (k + 10) ∧
    rows[s]? = some (rows.getD s []) ∧ web[n]? = some (web.getD n []) ∧ (web.getD n [])[a]? = some (cAt (web.getD n []) a) := by
  have hr : s < rows.length := by rw [h.g.rl]; exact hs
  have hw : n < web.length := by rw [h.w.wl]; exact hn
  have er : rows.getD s [] = rows[s] := by rw [List.getD_eq_getElem?_getD, List.getElem?_eq_getElem hr]; rfl
  have ew : web.getD n [] = web[n] := by rw [List.getD_eq_getElem?_getD, List.getElem?_eq_getElem hw]; rfl
  have ec : cAt (web.getD n []) a = (web.getD n [])[a] := by rw [cAt, List.getD_eq_getElem?_getD, List.getElem?_eq_getElem ha]; rfl
  have hnd := h.w.n (web.getD n []) (by rw [ew]; exact List.getElem_mem hw)
  have hc := hnd.2 (cAt (web.getD n []) a) (by rw [ec]; exact List.getElem_mem ha)
  have hrr := h.g.r (rows.getD s []) (by rw [er]; exact List.getElem_mem hr)
  have hz := h.z
  have hle := hc.2.1
  have hmul : (cAt (web.getD n []) a).length * (k + 10) ≤ m * (k + 10) := Nat.mul_le_mul_right _ hle
  have hmul2 : m * 10 ≤ m * (k + 10) := Nat.mul_le_mul_left _ (by omega)
  unfold tok at hz
  refine ⟨⟨hc.2.2, hrr.1, hrr.2, h.t⟩, by omega, ⟨by omega, by omega⟩, by rw [er]; exact List.getElem?_eq_getElem hr, by rw [ew]; exact List.getElem?_eq_getElem hw, by rw [ec]; exact List.getElem?_eq_getElem ha⟩
theorem JOk.show (h : JOk k m letters states nodes rows shows web t) {s : Nat} (hs : s < states) : shows[s]? = some (shows.getD s 0) ∧ Bits k (shows.getD s 0) ∧ rows[s]? = some (rows.getD s []) := by
  have hl : s < shows.length := by rw [h.g.sl]; exact hs
  have hr : s < rows.length := by rw [h.g.rl]; exact hs
  have e : shows.getD s 0 = shows[s] := by rw [List.getD_eq_getElem?_getD, List.getElem?_eq_getElem hl]; rfl
  have er : rows.getD s [] = rows[s] := by rw [List.getD_eq_getElem?_getD, List.getElem?_eq_getElem hr]; rfl
  rw [e, er]
  exact ⟨List.getElem?_eq_getElem hl, h.g.b _ (List.getElem_mem hl), List.getElem?_eq_getElem hr⟩
theorem JOk.node (h : JOk k m letters states nodes rows shows web t) {n : Nat} (hn : n < nodes) : web[n]? = some (web.getD n []) ∧ (web.getD n []).length ≤ 64 := by
  have hw : n < web.length := by rw [h.w.wl]; exact hn
  have ew : web.getD n [] = web[n] := by rw [List.getD_eq_getElem?_getD, List.getElem?_eq_getElem hw]; rfl
  have hnd := h.w.n (web.getD n []) (by rw [ew]; exact List.getElem_mem hw)
  exact ⟨by rw [ew]; exact List.getElem?_eq_getElem hw, hnd.1⟩
end
theorem atI_map {α : Type} {f : α → D} {l : List α} {i : Nat} {x : α} (h : l[i]? = some x) : atI (l.map f) (i : Int) = some (f x) := atI_nat (by rw [List.getElem?_map, h]; rfl)
def spFirst : SpD := fun ds st R _ => ∃ (k m letters states nodes : Nat) (rows : List (List Nat)) (shows : List Rat) (web : List (List (List Mv))) (t : List (List Rat)), ds = [gaugeD letters rows shows, webD web, tabD t] ∧ JOk k m letters states nodes rows shows web t ∧ R (verdict rows shows web t) st
theorem len_first : ∀ ds st R Rx, spFirst ds st R Rx → ds.length = 3 := by
  rintro ds st R Rx ⟨_, _, _, _, _, _, _, _, _, rfl, -⟩; rfl
end C
end DL

namespace DL
namespace C
open PySem L2
local macro_rules | `(tactic| walk_at "look") => `(tactic| first
  | assumption
  | exact put_same
  | (refine look_ne (by first | assumption | exact Ne.symm (by assumption)) ?_; walk_at "look")
  | (refine look_new (by assumption) ?_; walk_at "look"))
local macro_rules | `(tactic| walk_at "side") => `(tactic| first | assumption | exact trivial | decide | omega | exact ⟨by assumption, by assumption⟩ | exact ⟨by omega, by omega⟩ | exact ⟨by decide, by decide⟩ | exact ⟨by decide, by decide, by decide⟩ | (exact .inl (.inl ⟨by decide, by decide⟩)) | (exact .inl (.inr ⟨by decide, by decide⟩)) | (exact .inl (.inl ⟨by omega, by omega⟩)) | (exact .inl (.inr ⟨by omega, by omega⟩)))
local macro_rules | `(tactic| walk_at "opt") => `(tactic| first | (with_reducible exact atI_0 _ _) | (with_reducible exact atI_1 _ _ _) | (with_reducible exact atI_2 _ _ _ _) | (with_reducible exact atI_3 _ _ _ _ _) | (with_reducible exact atI_4 _ _ _ _ _ _) | assumption | exact atI_0 _ _ | exact atI_1 _ _ _ | exact atI_2 _ _ _ _ | exact atI_3 _ _ _ _ _ | exact atI_4 _ _ _ _ _ _ | exact boolsOf_map _ | exact intsOf_map _ | exact rfl)
local macro_rules | `(tactic| walk_at "s1") => `(tactic| first
  | ((with_reducible refine' s_var ?k1 ?_); (case k1 => exact rfl))
  | with_reducible refine s_bin ?_
  | with_reducible refine s_c ?_
  | with_reducible refine s_seqM ?_
  | with_reducible refine s_asB ?_
  | with_reducible refine s_asI ?_
  | with_reducible refine s_asRI ?_
  | with_reducible refine s_acons ?_
  | with_reducible refine s_anil ?_
  | with_reducible refine s_call ?_
  | with_reducible refine s_cb ?_
  | with_reducible refine s_set ?_
  | with_reducible refine s_ixT ?_
  | with_reducible refine s_ixL ?_
  | with_reducible refine s_ixS ?_
  | ((with_reducible refine' s_getL ?k1 ?_); (case k1 => walk_at "look"))
  | ((with_reducible refine' s_opt ?k1 ?_); (case k1 => walk_at "opt"))
  | with_reducible refine s_binT ?_
  | with_reducible refine s_tup ?_
  | with_reducible refine s_tpT ?_
  | with_reducible refine s_lst ?_
  | with_reducible refine s_ret ?_
  | with_reducible refine s_if ?_
  | with_reducible refine s_nextM ?_
  | with_reducible refine s_drop ?_
  | with_reducible refine s_par ?_
  | with_reducible refine s_asg ?_
  | with_reducible refine s_gN ?_
  | ((with_reducible refine' s_gT ?k1 ?_); (case k1 => exact rfl))
  | with_reducible refine s_gsC ?_
  | with_reducible refine s_gsN ?_
  | with_reducible refine s_gIx ?_
  | with_reducible refine s_setD ?_
  | with_reducible refine s_for ?_
  | with_reducible refine s_b ?_
  | with_reducible refine s_and ?_
  | with_reducible refine s_or ?_
  | with_reducible refine s_not ?_
  | with_reducible refine s_ife ?_
  | with_reducible refine s_neg ?_
  | with_reducible refine s_notV ?_
  | with_reducible refine s_andV ?_
  | with_reducible refine s_orV ?_
  | with_reducible refine s_isi ?_
  | with_reducible refine s_m ?_
  | with_reducible refine s_none ?_
  | with_reducible refine s_noneT ?_
  | with_reducible refine s_sl ?_
  | with_reducible refine s_oN ?_
  | with_reducible refine s_oS ?_
  | with_reducible refine s_lc ?_
  | with_reducible refine s_bN ?_
  | with_reducible refine s_bT ?_
  | with_reducible refine s_bTC ?_
  | with_reducible refine s_bTN ?_
  | with_reducible refine s_it ?_
  | with_reducible refine s_rng ?_
  | with_reducible refine s_zip ?_
  | with_reducible refine s_zip2 ?_
  | with_reducible refine s_enum ?_
  | with_reducible refine s_enum1 ?_
  | with_reducible refine s_yes ?_
  | with_reducible refine s_cT ?_
  | with_reducible refine s_cF ?_
  | with_reducible refine s_retN ?_
  | with_reducible refine s_try ?_
  | with_reducible refine s_raise0 ?_
  | with_reducible refine s_raise1 ?_
  | with_reducible refine s_isE ?_
  | with_reducible refine s_fld ?_
  | with_reducible refine s_brk ?_
  | with_reducible refine s_cnt ?_
  | ((with_reducible refine' s_aug ?k1 ?_); (case k1 => exact rfl))
  | with_reducible refine s_augix ?_
  | with_reducible refine s_addI ?_
  | ((with_reducible refine' s_addT ?k1 ?_); (case k1 => walk_at "side"))
  | ((with_reducible refine' s_addS ?k1 ?_); (case k1 => walk_at "side"))
  | with_reducible refine s_catL ?_
  | with_reducible refine s_subI ?_
  | ((with_reducible refine' s_mulI ?k1 ?_); (case k1 => walk_at "side"))
  | ((with_reducible refine' s_divI ?k1 ?_); (case k1 => walk_at "side"))
  | ((with_reducible refine' s_modI ?k1 ?_); (case k1 => walk_at "side"))
  | ((with_reducible refine' s_powI ?k1 ?_); (case k1 => walk_at "side"))
  | ((with_reducible refine' s_shlI ?k1 ?_); (case k1 => walk_at "side"))
  | with_reducible refine s_iaddI ?_
  | ((with_reducible refine' s_iaddS ?k1 ?_); (case k1 => walk_at "side"))
  | with_reducible refine s_eqI ?_
  | with_reducible refine s_neI ?_
  | with_reducible refine s_eqS ?_
  | with_reducible refine s_neS ?_
  | with_reducible refine s_eqB ?_
  | with_reducible refine s_neB ?_
  | with_reducible refine s_cmp ?_
  | ((with_reducible refine' s_ixX ?k1 ?_); (case k1 => walk_at "side"))
  | with_reducible refine s_lenT ?_
  | with_reducible refine s_lenL ?_
  | with_reducible refine s_lenC ?_
  | ((with_reducible refine' s_lenS ?k1 ?_); (case k1 => walk_at "side"))
  | with_reducible refine s_abs ?_
  | with_reducible refine s_intI ?_
  | with_reducible refine s_intB ?_
  | with_reducible refine s_gcd ?_
  | with_reducible refine s_listT ?_
  | with_reducible refine s_listL ?_
  | with_reducible refine s_tupT ?_
  | with_reducible refine s_tupL ?_
  | with_reducible refine s_all ?_
  | with_reducible refine s_any ?_
  | with_reducible refine s_sum ?_
  | with_reducible refine s_sumAT ?_
  | with_reducible refine s_sumAL ?_
  | with_reducible refine s_cnT ?_
  | with_reducible refine s_cnF ?_
  | with_reducible refine s_par3 ?_
  | with_reducible refine s_max2 ?_
  | with_reducible refine s_min2 ?_
  | with_reducible refine s_chain ?_
  | with_reducible refine s_chainT ?_
  | with_reducible refine s_inL ?_
  | with_reducible refine s_inT ?_
  | with_reducible refine s_append ?_
  | with_reducible refine s_extend ?_
  | with_reducible refine s_popAt ?_
  | with_reducible refine s_pop ?_
  | with_reducible refine s_slT ?_
  | with_reducible refine s_slL ?_
  | with_reducible refine s_itT ?_
  | with_reducible refine s_itL ?_
  | with_reducible refine s_itC ?_
  | ((with_reducible refine' s_rng1 ?k1 ?_); (case k1 => walk_at "side"))
  | ((with_reducible refine' s_rng2 ?k1 ?_); (case k1 => walk_at "side"))
  | ((with_reducible refine' s_rngD ?k1 ?_); (case k1 => walk_at "side"))
  | ((with_reducible refine' s_isLst ?k1 ?_); (case k1 => walk_at "look"))
  | ((with_reducible refine' s_lstOkL ?k1 ?_); (case k1 => walk_at "look"))
  | ((with_reducible refine' And.intro ?k1 ?_); (case k1 => walk_at "side")))
local macro_rules | `(tactic| walk_at "s") => `(tactic| repeat (walk_at "s1"))
theorem cut_to {ds : List D} {z : Int} (h0 : 0 ≤ z) (h1 : z ≤ ds.length) : cutD ds none (some z) = ds.take z.toNat := by
  have e1 : HT.sIx ds.length 0 none = 0 := rfl
  have e2 : HT.sIx ds.length ds.length (some z) = z.toNat := by
    unfold HT.sIx
    simp only []
    first | (split <;> omega) | omega
  unfold cutD
  rw [e1, e2, List.drop_zero, Nat.sub_zero]
theorem cut_from {ds : List D} {z : Int} (h0 : 0 ≤ z) (h1 : z ≤ ds.length) : cutD ds (some z) none = ds.drop z.toNat := by
  have e1 : HT.sIx ds.length 0 (some z) = z.toNat := by
    unfold HT.sIx
    simp only []
    first | (split <;> omega) | omega
  have e2 : HT.sIx ds.length ds.length none = ds.length := rfl
  unfold cutD
  rw [e1, e2, List.take_of_length_le (by rw [List.length_drop]; omega)]
/-! drawn webs and gauges -/
def spWeight : SpD := fun ds st R _ => ∃ (d c : Addr) (ns : List Int), ds = [.ref d] ∧ DK st d c ns ∧ ∀ w st', 0 < w → w ≤ 1000 → Dr d c ns st st' → R (.int w) st'
theorem len_weight : ∀ ds st R Rx, spWeight ds st R Rx → ds.length = 1 := by
  rintro ds st R Rx ⟨_, _, _, rfl, -⟩; rfl
theorem read_weight : ∀ ds st R Rx, spWeight ds st R Rx → wb_law_weight spRare spDraw (bodyEd R Rx) (startD 1 ds) st := by
  rintro ds st R Rx ⟨d, c, ns, rfl, dk, k⟩
  unfold wb_law_weight bodyEd
  walk_at "s"
  refine ⟨d, c, ns, _, rfl, dk, by omega, by omega, fun b st1 r1 => ?_⟩
  walk_at "s"
  refine s_b2 (fun e => ?_) (fun e => ?_)
  · walk_at "s"
    refine ⟨d, c, ns, _, rfl, r1.dk, by omega, sm (by omega) (by omega), fun v st2 h0 h1 r2 => ?_⟩
    walk_at "s"
    exact s_end (k _ _ (by omega) (by omega) (r1.trans r2))
  · walk_at "s"
    refine ⟨d, c, ns, _, rfl, r1.dk, by omega, sm (by omega) (by omega), fun v st2 h0 h1 r2 => ?_⟩
    walk_at "s"
    exact s_end (k _ _ (by omega) (by omega) (r1.trans r2))
def spCorner : SpD := fun ds st R _ => ∃ (d c : Addr) (ns : List Int) (letters nodes most : Nat), ds = [.ref d, .int (letters : Int), .int (nodes : Int), .int (most : Int)] ∧ DK st d c ns ∧ 0 < letters ∧ letters ≤ 64 ∧ 0 < nodes ∧ nodes ≤ 64 ∧ 0 < most ∧ most ≤ 64 ∧
  ∀ cr st', cr ≠ [] → cr.length ≤ most → (∀ m ∈ cr, MvOk letters nodes m) → Dr d c ns st st' → R (cornerD cr) st'
theorem len_corner : ∀ ds st R Rx, spCorner ds st R Rx → ds.length = 4 := by
  rintro ds st R Rx ⟨_, _, _, _, _, _, rfl, -⟩; rfl
/-- pairs of a letter and a node -/
def pairD (p : Nat × Nat) : D := .tup [.int (p.1 : Int), .int (p.2 : Int)]
theorem pairs_perm {ps : List (Nat × Nat)} : ∀ {es : List D}, es.Perm (ps.map pairD) → ∃ qs : List (Nat × Nat), es = qs.map pairD ∧ qs.Perm ps := by
  intro es h
  generalize hp : ps.map pairD = l at h
  induction h generalizing ps with
  | nil =>
    cases ps with
    | nil => exact ⟨[], rfl, .nil⟩
    | cons _ _ => cases hp
  | cons x _ ih =>
    cases ps with
    | nil => cases hp
    | cons p ps =>
      obtain ⟨rfl, rfl⟩ := List.cons.inj hp
      obtain ⟨qs, rfl, pm⟩ := ih rfl
      exact ⟨p :: qs, rfl, pm.cons p⟩
  | swap x y l =>
    match ps, hp with
    | p :: q :: ps, hp =>
      obtain ⟨rfl, h2⟩ := List.cons.inj hp
      obtain ⟨rfl, rfl⟩ := List.cons.inj h2
      exact ⟨q :: p :: ps, rfl, .swap ..⟩
  | trans _ _ ih1 ih2 =>
    obtain ⟨qs, rfl, pm⟩ := ih2 hp
    obtain ⟨rs, rfl, pm2⟩ := ih1 rfl
    exact ⟨rs, rfl, pm2.trans pm⟩
theorem read_corner : ∀ ds st R Rx, spCorner ds st R Rx → wb_law_corner spShuffled spDraw spWeight (bodyEd R Rx) (startD 9 ds) st := by
  rintro ds st R Rx ⟨d, c, ns, letters, nodes, most, rfl, dk, hl0, hl1, hn0, hn1, hm0, hm1, k⟩
  unfold wb_law_corner bodyEd
  walk_at "s"
  intro p hp
  have pd := dk.ne_new hp
  have pc : p ≠ c := fun e => by rw [e, dk.hc] at hp; cases hp
  walk_at "s"
  rw [Int.toNat_natCast]
  refine for_ind (fun rest ep T => ∃ (j : Nat) (ps : List (Nat × Nat)) (x5 x6 x7 x8 : Option D), rest = ((List.range letters).drop j).map (fun i : Nat => D.int (0 + (i : Int))) ∧ j ≤ letters ∧ ps.length = j * nodes ∧ (∀ q ∈ ps, q.1 < letters ∧ q.2 < nodes) ∧ T p = some (.lst (ps.map pairD)) ∧ Dr d c ns st T ∧
    ep = [some (.ref d), some (.int (letters : Int)), some (.int (nodes : Int)), some (.int (most : Int)), some (.ref p), x5, x6, x7, x8]) ?_ ?_ _ _ _ ⟨0, [], none, none, none, none, rfl, Nat.zero_le _, by rw [Nat.zero_mul]; rfl, fun q hq => by (cases hq), put_same, (Dr.refl dk).new hp, rfl⟩
  · rintro ep T ⟨j, ps, x5, x6, x7, x8, e, hj, hlen, hps, hT, r, rfl⟩
    refine ⟨trivial, ?_⟩
    have hj2 : j = letters := by
      have : ((List.range letters).drop j) = [] := by
        cases q : (List.range letters).drop j with
        | nil => rfl
        | cons _ _ => rw [q] at e; cases e
      have := congrArg List.length this
      rw [List.length_drop, List.length_range] at this
      simp only [List.length_nil] at this
      omega
    subst hj2
    have hpos : 0 < j * nodes := Nat.mul_pos hl0 hn0
    have hle : j * nodes ≤ 64 * 64 := Nat.mul_le_mul hl1 hn1
    walk_at "s"
    refine ⟨d, c, ns, _, ps.map pairD, rfl, r.dk, by rw [List.length_map]; omega, .inr ⟨p, rfl, pd, hT⟩, fun es q T2 pm hq qd r2 hq2 => ?_⟩
    obtain ⟨qs, rfl, pm2⟩ := pairs_perm pm
    have hT2 := r2.sx p _ pd hT
    walk_at "s"
    refine ⟨d, c, ns, _, rfl, r2.dk, by omega, sm (by omega) (by omega), fun v T3 h0 h1 r3 => ?_⟩
    have hq3 := r3.sx q _ qd hq2
    have hT3 := r3.sx p _ pd hT2
    walk_at "s"
    intro u hu
    have nqu : q ≠ u := fun e => by rw [e, hu] at hq3; cases hq3
    have l1 : ps.length = qs.length := pm2.length_eq.symm
    rw [List.length_map]
    have hz : ∃ z : Int, (if 1 + v < (ps.length : Int) then 1 + v else (ps.length : Int)) = z ∧ 0 < z ∧ z ≤ ps.length ∧ z ≤ 1 + v := by
      split
      · exact ⟨_, rfl, by omega, by omega, by omega⟩
      · exact ⟨_, rfl, by omega, by omega, by omega⟩
    obtain ⟨z, ez, z0, z1, z2⟩ := hz
    rw [ez, cut_to (by omega) (by rw [List.length_map, ← l1]; exact z1), ← List.map_take]
    have hcut : ∀ x ∈ qs.take z.toNat, x.1 < j ∧ x.2 < nodes := fun x hx => hps x (pm2.mem_iff.mp (List.mem_of_mem_take hx))
    have hclen : (qs.take z.toNat).length = z.toNat := by rw [List.length_take]; omega
    have dk3 := r3.dk.new (o := .lst ((qs.take z.toNat).map pairD)) hu
    have hu3 := put_same (st := T3) (a := u) (o := .lst ((qs.take z.toNat).map pairD))
    have r13 : Dr d c ns st (DL.put T3 u (.lst ((qs.take z.toNat).map pairD))) := ((r.trans r2).trans r3).new hu
    generalize DL.put T3 u (.lst ((qs.take z.toNat).map pairD)) = T4 at dk3 hu3 r13 ⊢
    generalize qs.take z.toNat = cs at hcut hclen hu3 ⊢
    walk_at "s"
    refine s_getL hu3 (.inr ⟨fun x hx => ?_, fun es' w pm3 _ hw => ?_⟩)
    · obtain ⟨y, -, rfl⟩ := List.mem_map.mp hx
      exact ⟨_, _, rfl⟩
    obtain ⟨ts, rfl, pm4⟩ := pairs_perm pm3
    walk_at "s"
    have wd := dk3.ne_new hw
    refine lc_ind (fun items acc T => ∃ (done : List Mv) (suf : List (Nat × Nat)), items = suf.map pairD ∧ acc = done.map moveD ∧ done.length + suf.length = z.toNat ∧ (∀ x ∈ suf, x.1 < j ∧ x.2 < nodes) ∧ (∀ m ∈ done, MvOk j nodes m) ∧ Dr d c ns st T ∧ T w = some (.lst (ts.map pairD))) ?_ ?_ _ _ _ ⟨[], ts, rfl, rfl, by rw [pm4.length_eq, hclen]; exact Nat.zero_add _, fun x hx => hcut x (pm4.mem_iff.mp hx), fun m hm => by (cases hm), r13.new hw, put_same⟩
    · rintro acc T5 ⟨done, suf, e5, rfl, hlen5, -, hdone, r5, hw5⟩
      refine ⟨hw5, ?_⟩
      have : suf = [] := by cases suf with
        | nil => rfl
        | cons _ _ => cases e5
      subst this
      rw [List.length_nil, Nat.add_zero] at hlen5
      intro y hy
      walk_at "s"
      refine s_endS (Sub.put_new hy) (k done _ (fun e => by rw [e] at hlen5; simp only [List.length_nil] at hlen5; omega) (by omega) hdone r5)
    · rintro x rr acc T5 ⟨done, suf, e5, rfl, hlen5, hsuf, hdone, r5, hw5⟩ ih5
      refine ⟨hw5, ?_⟩
      cases suf with
      | nil => cases e5
      | cons y suf =>
      obtain ⟨rfl, rfl⟩ := List.cons.inj e5
      have hy := hsuf y List.mem_cons_self
      rw [List.length_cons] at hlen5
      unfold pairD
      walk_at "s"
      refine ⟨d, c, ns, rfl, r5.dk, fun wt T6 w0 w1 r6 => ?_⟩
      walk_at "s"
      refine ⟨by rw [List.length_map]; show _ < 2 ^ 24; omega, ?_⟩
      refine ih5 _ _ ⟨done ++ [(wt, y.1, y.2)], suf, rfl, by rw [List.map_append]; rfl, by rw [List.length_append, List.length_singleton]; omega, fun q hq => hsuf q (List.mem_cons_of_mem _ hq), fun m hm => ?_, r5.trans r6, r6.sx w _ wd hw5⟩
      rcases List.mem_append.mp hm with hm | hm
      · exact hdone m hm
      · rw [List.mem_singleton.mp hm]
        exact ⟨w0, w1, hy.1, hy.2⟩
  · rintro d0 rr ep T ⟨j, ps, x5, x6, x7, x8, e, hj, hlen, hps, hT, r, rfl⟩ ih
    refine ⟨trivial, ?_⟩
    have hjl : j < letters := by
      rcases Nat.lt_or_ge j letters with h | h
      · exact h
      · rw [List.drop_eq_nil_of_le (by rw [List.length_range]; exact h)] at e; cases e
    rw [List.drop_eq_getElem_cons (by rw [List.length_range]; exact hjl), List.getElem_range] at e
    obtain ⟨rfl, rfl⟩ := List.cons.inj e
    have hle : (j + 1) * nodes ≤ 64 * 64 := Nat.mul_le_mul (by omega) hn1
    rw [Nat.succ_mul] at hle
    walk_at "s"
    rw [Int.toNat_natCast]
    refine lc_calm (fun x => .tup [.int (j : Int), x]) (fun _ => true) trivial (by rw [List.length_map, List.length_range]; show _ ≤ 2 ^ 24; simp only [List.length_nil]; omega) (fun x hx kk kn h1 h2 => ?_) ?_
    · obtain ⟨i, -, rfl⟩ := List.mem_map.mp hx
      walk_at "s"
      have := h1 rfl
      rw [← Int.zero_add (j : Int)] at this
      exact this
    · rw [List.filter_eq_self.mpr (fun _ _ => rfl), List.map_map, List.nil_append]
      intro u hu
      have npu : p ≠ u := fun e => by rw [e, hu] at hT; cases hT
      have nud := r.dk.ne_new hu
      have nuc : u ≠ c := fun e => by rw [e, r.dk.hc] at hu; cases hu
      walk_at "s"
      refine ⟨by rw [List.length_map, List.length_map, List.length_range, hlen]; show _ ≤ 2 ^ 24; omega, ?_⟩
      refine ih _ _ ⟨j + 1, ps ++ (List.range nodes).map fun i => (j, i), _, _, _, _, rfl, hjl, ?_, fun q hq => ?_, ?_, ⟨(r.sx.trans (Sx.new hu)).put_off hp, (r.dk.new hu).putL pd pc⟩, rfl⟩
      · rw [List.length_append, List.length_map, List.length_range, hlen, Nat.succ_mul]
      · rcases List.mem_append.mp hq with hq | hq
        · exact hps q hq
        · obtain ⟨i, hi, rfl⟩ := List.mem_map.mp hq
          exact ⟨hjl, List.mem_range.mp hi⟩
      · rw [put_same, List.map_append, List.map_map]
        congr 3
        refine List.map_congr_left fun i _ => ?_
        show D.tup [.int (j : Int), .int (0 + (i : Int))] = D.tup [.int (j : Int), .int (i : Int)]
        rw [Int.zero_add]
end C
end DL

namespace DL
namespace C
open PySem L2
local macro_rules | `(tactic| walk_at "look") => `(tactic| first
  | assumption
  | exact put_same
  | (refine look_ne (by first | assumption | exact Ne.symm (by assumption)) ?_; walk_at "look")
  | (refine look_new (by assumption) ?_; walk_at "look"))
local macro_rules | `(tactic| walk_at "side") => `(tactic| first | assumption | exact trivial | decide | omega | exact ⟨by assumption, by assumption⟩ | exact ⟨by omega, by omega⟩ | exact ⟨by decide, by decide⟩ | exact ⟨by decide, by decide, by decide⟩ | (exact .inl (.inl ⟨by decide, by decide⟩)) | (exact .inl (.inr ⟨by decide, by decide⟩)) | (exact .inl (.inl ⟨by omega, by omega⟩)) | (exact .inl (.inr ⟨by omega, by omega⟩)))
local macro_rules | `(tactic| walk_at "opt") => `(tactic| first | (with_reducible exact atI_0 _ _) | (with_reducible exact atI_1 _ _ _) | (with_reducible exact atI_2 _ _ _ _) | (with_reducible exact atI_3 _ _ _ _ _) | (with_reducible exact atI_4 _ _ _ _ _ _) | assumption | exact atI_0 _ _ | exact atI_1 _ _ _ | exact atI_2 _ _ _ _ | exact atI_3 _ _ _ _ _ | exact atI_4 _ _ _ _ _ _ | exact boolsOf_map _ | exact intsOf_map _ | exact rfl)
local macro_rules | `(tactic| walk_at "s1") => `(tactic| first
  | ((with_reducible refine' s_var ?k1 ?_); (case k1 => exact rfl))
  | with_reducible refine s_bin ?_
  | with_reducible refine s_c ?_
  | with_reducible refine s_seqM ?_
  | with_reducible refine s_asB ?_
  | with_reducible refine s_asI ?_
  | with_reducible refine s_asRI ?_
  | with_reducible refine s_acons ?_
  | with_reducible refine s_anil ?_
  | with_reducible refine s_call ?_
  | with_reducible refine s_cb ?_
  | with_reducible refine s_set ?_
  | with_reducible refine s_ixT ?_
  | with_reducible refine s_ixL ?_
  | with_reducible refine s_ixS ?_
  | ((with_reducible refine' s_getL ?k1 ?_); (case k1 => walk_at "look"))
  | ((with_reducible refine' s_opt ?k1 ?_); (case k1 => walk_at "opt"))
  | with_reducible refine s_binT ?_
  | with_reducible refine s_tup ?_
  | with_reducible refine s_tpT ?_
  | with_reducible refine s_lst ?_
  | with_reducible refine s_ret ?_
  | with_reducible refine s_if ?_
  | with_reducible refine s_nextM ?_
  | with_reducible refine s_drop ?_
  | with_reducible refine s_par ?_
  | with_reducible refine s_asg ?_
  | with_reducible refine s_gN ?_
  | ((with_reducible refine' s_gT ?k1 ?_); (case k1 => exact rfl))
  | with_reducible refine s_gsC ?_
  | with_reducible refine s_gsN ?_
  | with_reducible refine s_gIx ?_
  | with_reducible refine s_setD ?_
  | with_reducible refine s_for ?_
  | with_reducible refine s_b ?_
  | with_reducible refine s_and ?_
  | with_reducible refine s_or ?_
  | with_reducible refine s_not ?_
  | with_reducible refine s_ife ?_
  | with_reducible refine s_neg ?_
  | with_reducible refine s_notV ?_
  | with_reducible refine s_andV ?_
  | with_reducible refine s_orV ?_
  | with_reducible refine s_isi ?_
  | with_reducible refine s_m ?_
  | with_reducible refine s_none ?_
  | with_reducible refine s_noneT ?_
  | with_reducible refine s_sl ?_
  | with_reducible refine s_oN ?_
  | with_reducible refine s_oS ?_
  | with_reducible refine s_lc ?_
  | with_reducible refine s_bN ?_
  | with_reducible refine s_bT ?_
  | with_reducible refine s_bTC ?_
  | with_reducible refine s_bTN ?_
  | with_reducible refine s_it ?_
  | with_reducible refine s_rng ?_
  | with_reducible refine s_zip ?_
  | with_reducible refine s_zip2 ?_
  | with_reducible refine s_enum ?_
  | with_reducible refine s_enum1 ?_
  | with_reducible refine s_yes ?_
  | with_reducible refine s_cT ?_
  | with_reducible refine s_cF ?_
  | with_reducible refine s_retN ?_
  | with_reducible refine s_try ?_
  | with_reducible refine s_raise0 ?_
  | with_reducible refine s_raise1 ?_
  | with_reducible refine s_isE ?_
  | with_reducible refine s_fld ?_
  | with_reducible refine s_brk ?_
  | with_reducible refine s_cnt ?_
  | ((with_reducible refine' s_aug ?k1 ?_); (case k1 => exact rfl))
  | with_reducible refine s_augix ?_
  | with_reducible refine s_addI ?_
  | ((with_reducible refine' s_addT ?k1 ?_); (case k1 => walk_at "side"))
  | ((with_reducible refine' s_addS ?k1 ?_); (case k1 => walk_at "side"))
  | with_reducible refine s_catL ?_
  | with_reducible refine s_subI ?_
  | ((with_reducible refine' s_mulI ?k1 ?_); (case k1 => walk_at "side"))
  | ((with_reducible refine' s_divI ?k1 ?_); (case k1 => walk_at "side"))
  | ((with_reducible refine' s_modI ?k1 ?_); (case k1 => walk_at "side"))
  | ((with_reducible refine' s_powI ?k1 ?_); (case k1 => walk_at "side"))
  | ((with_reducible refine' s_shlI ?k1 ?_); (case k1 => walk_at "side"))
  | with_reducible refine s_iaddI ?_
  | ((with_reducible refine' s_iaddS ?k1 ?_); (case k1 => walk_at "side"))
  | with_reducible refine s_eqI ?_
  | with_reducible refine s_neI ?_
  | with_reducible refine s_eqS ?_
  | with_reducible refine s_neS ?_
  | with_reducible refine s_eqB ?_
  | with_reducible refine s_neB ?_
  | with_reducible refine s_cmp ?_
  | ((with_reducible refine' s_ixX ?k1 ?_); (case k1 => walk_at "side"))
  | with_reducible refine s_lenT ?_
  | with_reducible refine s_lenL ?_
  | with_reducible refine s_lenC ?_
  | ((with_reducible refine' s_lenS ?k1 ?_); (case k1 => walk_at "side"))
  | with_reducible refine s_abs ?_
  | with_reducible refine s_intI ?_
  | with_reducible refine s_intB ?_
  | with_reducible refine s_gcd ?_
  | with_reducible refine s_listT ?_
  | with_reducible refine s_listL ?_
  | with_reducible refine s_tupT ?_
  | with_reducible refine s_tupL ?_
  | with_reducible refine s_all ?_
  | with_reducible refine s_any ?_
  | with_reducible refine s_sum ?_
  | with_reducible refine s_sumAT ?_
  | with_reducible refine s_sumAL ?_
  | with_reducible refine s_cnT ?_
  | with_reducible refine s_cnF ?_
  | with_reducible refine s_par3 ?_
  | with_reducible refine s_max2 ?_
  | with_reducible refine s_min2 ?_
  | with_reducible refine s_chain ?_
  | with_reducible refine s_chainT ?_
  | with_reducible refine s_inL ?_
  | with_reducible refine s_inT ?_
  | with_reducible refine s_append ?_
  | with_reducible refine s_extend ?_
  | with_reducible refine s_popAt ?_
  | with_reducible refine s_pop ?_
  | with_reducible refine s_slT ?_
  | with_reducible refine s_slL ?_
  | with_reducible refine s_itT ?_
  | with_reducible refine s_itL ?_
  | with_reducible refine s_itC ?_
  | ((with_reducible refine' s_rng1 ?k1 ?_); (case k1 => walk_at "side"))
  | ((with_reducible refine' s_rng2 ?k1 ?_); (case k1 => walk_at "side"))
  | ((with_reducible refine' s_rngD ?k1 ?_); (case k1 => walk_at "side"))
  | ((with_reducible refine' s_isLst ?k1 ?_); (case k1 => walk_at "look"))
  | ((with_reducible refine' s_lstOkL ?k1 ?_); (case k1 => walk_at "look"))
  | ((with_reducible refine' And.intro ?k1 ?_); (case k1 => walk_at "side")))
local macro_rules | `(tactic| walk_at "s") => `(tactic| repeat (walk_at "s1"))
/-- a node of a web -/
structure NdOk (m letters nodes : Nat) (nd : List (List Mv)) : Prop where
  l : nd.length ≤ 64
  c : ∀ c ∈ nd, c ≠ [] ∧ c.length ≤ m ∧ ∀ v ∈ c, MvOk letters nodes v
def spWeb : SpD := fun ds st R _ => ∃ (d c : Addr) (ns : List Int) (letters nodes corners most : Nat), ds = [.ref d, .int (letters : Int), .int (nodes : Int), .int (corners : Int), .int (most : Int)] ∧ DK st d c ns ∧ 0 < letters ∧ letters ≤ 64 ∧ 0 < nodes ∧ nodes ≤ 64 ∧ 0 < corners ∧ corners ≤ 64 ∧ 0 < most ∧ most ≤ 64 ∧
  ∀ web st', WOk most letters nodes web → Dr d c ns st st' → R (webD web) st'
theorem len_web : ∀ ds st R Rx, spWeb ds st R Rx → ds.length = 5 := by
  rintro ds st R Rx ⟨_, _, _, _, _, _, _, rfl, -⟩; rfl
theorem drop_end {α : Type} {f : Nat → α} {j n : Nat} (e : [] = ((List.range n).drop j).map f) (hj : j ≤ n) : j = n := by
  have : ((List.range n).drop j) = [] := by
    cases q : (List.range n).drop j with
    | nil => rfl
    | cons _ _ => rw [q] at e; cases e
  have := congrArg List.length this
  rw [List.length_drop, List.length_range] at this
  simp only [List.length_nil] at this
  omega
theorem drop_more {α : Type} {f : Nat → α} {j n : Nat} {x : α} {r : List α} (e : x :: r = ((List.range n).drop j).map f) : j < n ∧ x = f j ∧ r = ((List.range n).drop (j + 1)).map f := by
  have hj : j < n := by
    rcases Nat.lt_or_ge j n with h | h
    · exact h
    · rw [List.drop_eq_nil_of_le (by rw [List.length_range]; exact h)] at e; cases e
  rw [List.drop_eq_getElem_cons (by rw [List.length_range]; exact hj), List.getElem_range] at e
  obtain ⟨e1, e2⟩ := List.cons.inj e
  exact ⟨hj, e1, e2⟩
theorem read_web : ∀ ds st R Rx, spWeb ds st R Rx → wb_law_web spDraw spCorner (bodyEd R Rx) (startD 8 ds) st := by
  rintro ds st R Rx ⟨d, c, ns, letters, nodes, corners, most, rfl, dk, hl0, hl1, hn0, hn1, hc0, hc1, hm0, hm1, k⟩
  unfold wb_law_web bodyEd
  walk_at "s"
  intro p hp
  have pd := dk.ne_new hp
  have pc : p ≠ c := fun e => by rw [e, dk.hc] at hp; cases hp
  walk_at "s"
  rw [Int.toNat_natCast]
  refine for_ind (fun rest ep T => ∃ (j : Nat) (web : List (List (List Mv))) (x6 x7 : Option D), rest = ((List.range nodes).drop j).map (fun i : Nat => D.int (0 + (i : Int))) ∧ j ≤ nodes ∧ web.length = j ∧ (∀ nd ∈ web, NdOk most letters nodes nd) ∧ T p = some (.lst (web.map nodeD)) ∧ Dr d c ns st T ∧
    ep = [some (.ref d), some (.int (letters : Int)), some (.int (nodes : Int)), some (.int (corners : Int)), some (.int (most : Int)), some (.ref p), x6, x7]) ?_ ?_ _ _ _ ⟨0, [], none, none, rfl, Nat.zero_le _, rfl, fun q hq => by (cases hq), put_same, (Dr.refl dk).new hp, rfl⟩
  · rintro ep T ⟨j, web, x6, x7, e, hj, hlen, hw, hT, r, rfl⟩
    refine ⟨trivial, ?_⟩
    have := drop_end e hj
    walk_at "s"
    exact s_end (k web T ⟨by omega, fun nd h => ⟨(hw nd h).l, (hw nd h).c⟩, hn0, hn1⟩ r)
  · rintro d0 rr ep T ⟨j, web, x6, x7, e, hj, hlen, hw, hT, r, rfl⟩ ih
    refine ⟨trivial, ?_⟩
    obtain ⟨hjl, rfl, rfl⟩ := drop_more e
    have full : ∀ (nx : DE → DS → Prop) (rt : D → DS → Prop) (bk ct : DE → DS → Prop) (ex : Xn → DE → DS → Prop), (∀ nd st', NdOk most letters nodes nd → st' p = some (.lst ((web ++ [nd]).map nodeD)) → Dr d c ns st st' →
          nx [some (.ref d), some (.int (letters : Int)), some (.int (nodes : Int)), some (.int (corners : Int)), some (.int (most : Int)), some (.ref p), some (.int (0 + (j : Int))), x7] st') → ∀ T2, Dr d c ns T T2 →
        (wDrop (wM appendD (wVar 5) (wACons (wCB tupleD (wACons (wLc (wRng (wACons (wBin addD (wC (.int 1)) (wCall spDraw (wACons (wVar 0) (wACons (wVar 3) wANil)))) wANil)) (bN 7) [7] wYes (wCall spCorner (wACons (wVar 0) (wACons (wVar 1) (wACons (wVar 2) (wACons (wVar 4) wANil)))))) wANil)) wANil)))
          { nx := nx, rt := rt, bk := bk, ct := ct, ex := ex }
          [some (.ref d), some (.int (letters : Int)), some (.int (nodes : Int)), some (.int (corners : Int)), some (.int (most : Int)), some (.ref p), some (.int (0 + (j : Int))), x7] T2 := by
      intro nx rt bk ct ex hnx
      intro T2 r2
      have hT2 := r2.sx p _ pd hT
      walk_at "s"
      refine ⟨d, c, ns, _, rfl, r2.dk, by omega, sm (by omega) (by omega), fun v T3 v0 v1 r3 => ?_⟩
      have hT3 := r3.sx p _ pd hT2
      walk_at "s"
      refine lc_ind (fun items acc T => ∃ nd : List (List Mv), acc = nd.map cornerD ∧ items.length + nd.length = (1 + v).toNat ∧ (∀ c ∈ nd, c ≠ [] ∧ c.length ≤ most ∧ ∀ v ∈ c, MvOk letters nodes v) ∧ T p = some (.lst (web.map nodeD)) ∧ Dr d c ns st T) ?_ ?_ _ _ _ ⟨[], rfl, by rw [List.length_map, List.length_range]; rfl, fun q hq => by (cases hq), hT3, (r.trans r2).trans r3⟩
      · rintro acc T4 ⟨nd, rfl, hl4, hnd, hT4, r4⟩
        refine ⟨trivial, ?_⟩
        intro u hu
        have npu : p ≠ u := fun e => by rw [e, hu] at hT4; cases hT4
        walk_at "s"
        refine ⟨by rw [List.length_map]; show _ < 2 ^ 24; omega, ?_⟩
        simp only [List.length_nil] at hl4
        exact hnx nd _ ⟨by omega, hnd⟩ (by rw [put_same, List.map_append]; rfl) ⟨(r4.sx.trans (Sx.new hu)).put_off hp, (r4.dk.new hu).putL pd pc⟩
      · rintro x rr2 acc T4 ⟨nd, rfl, hl4, hnd, hT4, r4⟩ ih4
        refine ⟨trivial, ?_⟩
        simp only [List.length_cons] at hl4
        walk_at "s"
        refine ⟨d, c, ns, letters, nodes, most, rfl, r4.dk, hl0, hl1, hn0, hn1, hm0, hm1, fun cr T5 c1 c2 c3 r5 => ?_⟩
        refine ⟨by rw [List.length_map]; show _ < 2 ^ 24; omega, ?_⟩
        refine ih4 _ _ ⟨nd ++ [cr], by rw [List.map_append]; rfl, by rw [List.length_append, List.length_singleton]; omega, fun q hq => ?_, r5.sx p _ pd hT4, r4.trans r5⟩
        rcases List.mem_append.mp hq with hq | hq
        · exact hnd q hq
        · rw [List.mem_singleton.mp hq]; exact ⟨c1, c2, c3⟩
    have next : ∀ nd st', NdOk most letters nodes nd → st' p = some (.lst ((web ++ [nd]).map nodeD)) → Dr d c ns st st' → _ := fun nd st' h1 h2 h3 => ih [some (.ref d), some (.int (letters : Int)), some (.int (nodes : Int)), some (.int (corners : Int)), some (.int (most : Int)), some (.ref p), some (.int (0 + (j : Int))), x7] st'
      ⟨j + 1, web ++ [nd], _, _, rfl, hjl, by rw [List.length_append, List.length_singleton, hlen], fun q hq => by
        rcases List.mem_append.mp hq with hq | hq
        · exact hw q hq
        · rw [List.mem_singleton.mp hq]; exact h1, h2, h3, rfl⟩
    walk_at "s"
    refine s_dec (fun e1 => ?_) (fun e1 => ?_)
    · walk_at "s"
      refine ⟨d, c, ns, _, rfl, r.dk, by omega, sm (by omega) (by omega), fun v T2 v0 v1 r2 => ?_⟩
      have hT2 := r2.sx p _ pd hT
      walk_at "s"
      refine s_dec (fun e2 => ?_) (fun e2 => ?_)
      · walk_at "s"
        refine ⟨by rw [List.length_map]; show _ < 2 ^ 24; omega, ?_⟩
        refine next [] _ ⟨by decide, fun q hq => by (cases hq)⟩ (by rw [put_same, List.map_append]; rfl) ⟨(r.trans r2).sx.put_off hp, r2.dk.putL pd pc⟩
      · exact full _ _ _ _ _ next T2 r2
    · first
        | exact full _ _ _ _ _ next T (Dr.refl r.dk)
        | (refine s_cF ?_; exact full _ _ _ _ _ next T (Dr.refl r.dk))
def spRows : SpD := fun ds st R _ => ∃ (d c : Addr) (ns : List Int) (letters states : Nat), ds = [.ref d, .int (letters : Int), .int (states : Int)] ∧ DK st d c ns ∧ 0 < letters ∧ letters ≤ 64 ∧ 0 < states ∧ states ≤ 64 ∧
  ∀ (rows : List (List Nat)) (st' : DS), rows.length = states → (∀ r ∈ rows, r.length = letters ∧ ∀ i ∈ r, i < states) → Dr d c ns st st' → R (.tup (rows.map natsD)) st'
theorem len_rows : ∀ ds st R Rx, spRows ds st R Rx → ds.length = 3 := by
  rintro ds st R Rx ⟨_, _, _, _, _, rfl, -⟩; rfl
theorem read_rows : ∀ ds st R Rx, spRows ds st R Rx → wb_law_rows_of_states spDraw (bodyEd R Rx) (startD 5 ds) st := by
  rintro ds st R Rx ⟨d, c, ns, letters, states, rfl, dk, hl0, hl1, hs0, hs1, k⟩
  unfold wb_law_rows_of_states bodyEd
  walk_at "s"
  rw [Int.toNat_natCast]
  refine lc_ind (fun items acc T => ∃ rows : List (List Nat), acc = rows.map natsD ∧ items.length + rows.length = states ∧ (∀ r ∈ rows, r.length = letters ∧ ∀ i ∈ r, i < states) ∧ Dr d c ns st T) ?_ ?_ _ _ _ ⟨[], rfl, by rw [List.length_map, List.length_range]; rfl, fun q hq => by (cases hq), Dr.refl dk⟩
  · rintro acc T ⟨rows, rfl, hl, hr, r⟩
    refine ⟨trivial, ?_⟩
    intro u hu
    walk_at "s"
    exact s_end (k rows _ (by simp only [List.length_nil] at hl; omega) hr (r.new hu))
  · rintro x rr acc T ⟨rows, rfl, hl, hr, r⟩ ih
    refine ⟨trivial, ?_⟩
    simp only [List.length_cons] at hl
    walk_at "s"
    rw [Int.toNat_natCast]
    refine lc_ind (fun items acc T => ∃ row : List Nat, acc = row.map (fun i : Nat => D.int (i : Int)) ∧ items.length + row.length = letters ∧ (∀ i ∈ row, i < states) ∧ Dr d c ns st T) ?_ ?_ _ _ _ ⟨[], rfl, by rw [List.length_map, List.length_range]; rfl, fun q hq => by (cases hq), r⟩
    · rintro acc T2 ⟨row, rfl, hl2, hr2, r2⟩
      refine ⟨trivial, ?_⟩
      intro u hu
      walk_at "s"
      refine ⟨by rw [List.length_map]; show _ < 2 ^ 24; omega, ?_⟩
      refine ih _ _ ⟨rows ++ [row], by rw [List.map_append]; rfl, by rw [List.length_append, List.length_singleton]; omega, fun q hq => ?_, r2.new hu⟩
      rcases List.mem_append.mp hq with hq | hq
      · exact hr q hq
      · rw [List.mem_singleton.mp hq]; exact ⟨by simp only [List.length_nil] at hl2; omega, hr2⟩
    · rintro y rr2 acc T2 ⟨row, rfl, hl2, hr2, r2⟩ ih2
      refine ⟨trivial, ?_⟩
      simp only [List.length_cons] at hl2
      walk_at "s"
      refine ⟨d, c, ns, _, rfl, r2.dk, by omega, sm (by omega) (by omega), fun v T3 v0 v1 r3 => ?_⟩
      obtain ⟨i, rfl⟩ := Int.eq_ofNat_of_zero_le v0
      refine ⟨by rw [List.length_map]; show _ < 2 ^ 24; omega, ?_⟩
      refine ih2 _ _ ⟨row ++ [i], by rw [List.map_append]; rfl, by rw [List.length_append, List.length_singleton]; omega, fun q hq => ?_, r2.trans r3⟩
      rcases List.mem_append.mp hq with hq | hq
      · exact hr2 q hq
      · rw [List.mem_singleton.mp hq]; omega
end C
end DL

namespace DL
namespace C
open PySem L2
local macro_rules | `(tactic| walk_at "look") => `(tactic| first
  | assumption
  | exact put_same
  | (refine look_ne (by first | assumption | exact Ne.symm (by assumption)) ?_; walk_at "look")
  | (refine look_new (by assumption) ?_; walk_at "look"))
local macro_rules | `(tactic| walk_at "side") => `(tactic| first | assumption | exact trivial | decide | omega | exact ⟨by assumption, by assumption⟩ | exact ⟨by omega, by omega⟩ | exact ⟨by decide, by decide⟩ | exact ⟨by decide, by decide, by decide⟩ | (exact .inl (.inl ⟨by decide, by decide⟩)) | (exact .inl (.inr ⟨by decide, by decide⟩)) | (exact .inl (.inl ⟨by omega, by omega⟩)) | (exact .inl (.inr ⟨by omega, by omega⟩)))
local macro_rules | `(tactic| walk_at "opt") => `(tactic| first | (with_reducible exact atI_0 _ _) | (with_reducible exact atI_1 _ _ _) | (with_reducible exact atI_2 _ _ _ _) | (with_reducible exact atI_3 _ _ _ _ _) | (with_reducible exact atI_4 _ _ _ _ _ _) | assumption | exact atI_0 _ _ | exact atI_1 _ _ _ | exact atI_2 _ _ _ _ | exact atI_3 _ _ _ _ _ | exact atI_4 _ _ _ _ _ _ | exact boolsOf_map _ | exact intsOf_map _ | exact rfl)
local macro_rules | `(tactic| walk_at "s1") => `(tactic| first
  | ((with_reducible refine' s_var ?k1 ?_); (case k1 => exact rfl))
  | with_reducible refine s_bin ?_
  | with_reducible refine s_c ?_
  | with_reducible refine s_seqM ?_
  | with_reducible refine s_asB ?_
  | with_reducible refine s_asI ?_
  | with_reducible refine s_asRI ?_
  | with_reducible refine s_acons ?_
  | with_reducible refine s_anil ?_
  | with_reducible refine s_call ?_
  | with_reducible refine s_cb ?_
  | with_reducible refine s_set ?_
  | with_reducible refine s_ixT ?_
  | with_reducible refine s_ixL ?_
  | with_reducible refine s_ixS ?_
  | ((with_reducible refine' s_getL ?k1 ?_); (case k1 => walk_at "look"))
  | ((with_reducible refine' s_opt ?k1 ?_); (case k1 => walk_at "opt"))
  | with_reducible refine s_binT ?_
  | with_reducible refine s_tup ?_
  | with_reducible refine s_tpT ?_
  | with_reducible refine s_lst ?_
  | with_reducible refine s_ret ?_
  | with_reducible refine s_if ?_
  | with_reducible refine s_nextM ?_
  | with_reducible refine s_drop ?_
  | with_reducible refine s_par ?_
  | with_reducible refine s_asg ?_
  | with_reducible refine s_gN ?_
  | ((with_reducible refine' s_gT ?k1 ?_); (case k1 => exact rfl))
  | with_reducible refine s_gsC ?_
  | with_reducible refine s_gsN ?_
  | with_reducible refine s_gIx ?_
  | with_reducible refine s_setD ?_
  | with_reducible refine s_for ?_
  | with_reducible refine s_b ?_
  | with_reducible refine s_and ?_
  | with_reducible refine s_or ?_
  | with_reducible refine s_not ?_
  | with_reducible refine s_ife ?_
  | with_reducible refine s_neg ?_
  | with_reducible refine s_notV ?_
  | with_reducible refine s_andV ?_
  | with_reducible refine s_orV ?_
  | with_reducible refine s_isi ?_
  | with_reducible refine s_m ?_
  | with_reducible refine s_none ?_
  | with_reducible refine s_noneT ?_
  | with_reducible refine s_sl ?_
  | with_reducible refine s_oN ?_
  | with_reducible refine s_oS ?_
  | with_reducible refine s_lc ?_
  | with_reducible refine s_bN ?_
  | with_reducible refine s_bT ?_
  | with_reducible refine s_bTC ?_
  | with_reducible refine s_bTN ?_
  | with_reducible refine s_it ?_
  | with_reducible refine s_rng ?_
  | with_reducible refine s_zip ?_
  | with_reducible refine s_zip2 ?_
  | with_reducible refine s_enum ?_
  | with_reducible refine s_enum1 ?_
  | with_reducible refine s_yes ?_
  | with_reducible refine s_cT ?_
  | with_reducible refine s_cF ?_
  | with_reducible refine s_retN ?_
  | with_reducible refine s_try ?_
  | with_reducible refine s_raise0 ?_
  | with_reducible refine s_raise1 ?_
  | with_reducible refine s_isE ?_
  | with_reducible refine s_fld ?_
  | with_reducible refine s_brk ?_
  | with_reducible refine s_cnt ?_
  | ((with_reducible refine' s_aug ?k1 ?_); (case k1 => exact rfl))
  | with_reducible refine s_augix ?_
  | with_reducible refine s_addI ?_
  | ((with_reducible refine' s_addT ?k1 ?_); (case k1 => walk_at "side"))
  | ((with_reducible refine' s_addS ?k1 ?_); (case k1 => walk_at "side"))
  | with_reducible refine s_catL ?_
  | with_reducible refine s_subI ?_
  | ((with_reducible refine' s_mulI ?k1 ?_); (case k1 => walk_at "side"))
  | ((with_reducible refine' s_divI ?k1 ?_); (case k1 => walk_at "side"))
  | ((with_reducible refine' s_modI ?k1 ?_); (case k1 => walk_at "side"))
  | ((with_reducible refine' s_powI ?k1 ?_); (case k1 => walk_at "side"))
  | ((with_reducible refine' s_shlI ?k1 ?_); (case k1 => walk_at "side"))
  | with_reducible refine s_iaddI ?_
  | ((with_reducible refine' s_iaddS ?k1 ?_); (case k1 => walk_at "side"))
  | with_reducible refine s_eqI ?_
  | with_reducible refine s_neI ?_
  | with_reducible refine s_eqS ?_
  | with_reducible refine s_neS ?_
  | with_reducible refine s_eqB ?_
  | with_reducible refine s_neB ?_
  | with_reducible refine s_cmp ?_
  | ((with_reducible refine' s_ixX ?k1 ?_); (case k1 => walk_at "side"))
  | with_reducible refine s_lenT ?_
  | with_reducible refine s_lenL ?_
  | with_reducible refine s_lenC ?_
  | ((with_reducible refine' s_lenS ?k1 ?_); (case k1 => walk_at "side"))
  | with_reducible refine s_abs ?_
  | with_reducible refine s_intI ?_
  | with_reducible refine s_intB ?_
  | with_reducible refine s_gcd ?_
  | with_reducible refine s_listT ?_
  | with_reducible refine s_listL ?_
  | with_reducible refine s_tupT ?_
  | with_reducible refine s_tupL ?_
  | with_reducible refine s_all ?_
  | with_reducible refine s_any ?_
  | with_reducible refine s_sum ?_
  | with_reducible refine s_sumAT ?_
  | with_reducible refine s_sumAL ?_
  | with_reducible refine s_cnT ?_
  | with_reducible refine s_cnF ?_
  | with_reducible refine s_par3 ?_
  | with_reducible refine s_max2 ?_
  | with_reducible refine s_min2 ?_
  | with_reducible refine s_chain ?_
  | with_reducible refine s_chainT ?_
  | with_reducible refine s_inL ?_
  | with_reducible refine s_inT ?_
  | with_reducible refine s_append ?_
  | with_reducible refine s_extend ?_
  | with_reducible refine s_popAt ?_
  | with_reducible refine s_pop ?_
  | with_reducible refine s_slT ?_
  | with_reducible refine s_slL ?_
  | with_reducible refine s_itT ?_
  | with_reducible refine s_itL ?_
  | with_reducible refine s_itC ?_
  | ((with_reducible refine' s_rng1 ?k1 ?_); (case k1 => walk_at "side"))
  | ((with_reducible refine' s_rng2 ?k1 ?_); (case k1 => walk_at "side"))
  | ((with_reducible refine' s_rngD ?k1 ?_); (case k1 => walk_at "side"))
  | ((with_reducible refine' s_isLst ?k1 ?_); (case k1 => walk_at "look"))
  | ((with_reducible refine' s_lstOkL ?k1 ?_); (case k1 => walk_at "look"))
  | ((with_reducible refine' And.intro ?k1 ?_); (case k1 => walk_at "side")))
local macro_rules | `(tactic| walk_at "s") => `(tactic| repeat (walk_at "s1"))
theorem fr_q {n m : Int} (hm : 0 < m) (hc : Nat.gcd n.natAbs m.natAbs = 1) : fr n m = qD ((n : Rat) / m) := by
  obtain ⟨e1, e2⟩ := rat_of hm hc rfl
  unfold fr qD
  rw [e1, e2]
theorem fr_bits {k : Nat} {n m : Int} (hm : 0 < m) (hc : Nat.gcd n.natAbs m.natAbs = 1) (hn : Bt k n) (hb : Bt k m) : Bits k ((n : Rat) / m) := by
  obtain ⟨e1, e2⟩ := rat_of hm hc rfl
  exact ⟨by rw [e1]; exact hn, by rw [e2]; exact hb⟩
theorem q_zero : qD 0 = .tup [.int 0, .int 1] := rfl
theorem bits_zero {k : Nat} (h : 0 < k) : Bits k 0 := ⟨(show Bt 1 0 by unfold Bt; decide).mono h, (show Bt 1 1 by unfold Bt; decide).mono h⟩
/-- what is shown, drawn: one entry for each state -/
def spGauge (on : Bool) : SpD := fun ds st R _ => ∃ (d c : Addr) (ns : List Int) (letters states : Nat) (rows0 : List (List Nat)), (ds = if on = true then [.ref d, .tup (rows0.map natsD), .int (letters : Int)] else [.ref d, .int (letters : Int), .int (states : Int)]) ∧ DK st d c ns ∧ 0 < letters ∧ letters ≤ 64 ∧ 0 < states ∧ states ≤ 64 ∧
  (on = true → rows0.length = states ∧ ∀ r ∈ rows0, r.length = letters ∧ ∀ i ∈ r, i < states) ∧ ∀ rows shows st', (on = true → rows = rows0) → GOk 3 letters states rows shows → Dr d c ns st st' → R (gaugeD letters rows shows) st'
theorem len_gauge {on : Bool} : ∀ ds st R Rx, spGauge on ds st R Rx → ds.length = 3 := by
  rintro ds st R Rx ⟨_, _, _, _, _, _, e, -⟩
  rw [e]
  cases on <;> rfl
theorem bt3 {i : Int} (h0 : 0 ≤ i) (h1 : i ≤ 7) : Bt 3 i := by unfold Bt; show _ < 8; omega
theorem read_gauge : ∀ ds st R Rx, spGauge false ds st R Rx → wb_law_gauge spDraw spFraction spRows (bodyEd R Rx) (startD 5 ds) st := by
  rintro ds st R Rx ⟨d, c, ns, letters, states, rows0, rfl, dk, hl0, hl1, hs0, hs1, -, k⟩
  rw [if_neg Bool.false_ne_true]
  unfold wb_law_gauge bodyEd
  walk_at "s"
  rw [Int.toNat_natCast]
  refine lc_ind (fun items acc T => ∃ shows : List Rat, acc = shows.map qD ∧ items.length + shows.length = states ∧ (∀ x ∈ shows, Bits 3 x) ∧ Dr d c ns st T) ?_ ?_ _ _ _ ⟨[], rfl, by rw [List.length_map, List.length_range]; rfl, fun q hq => by (cases hq), Dr.refl dk⟩
  · rintro acc T ⟨shows, rfl, hl, hb, r⟩
    refine ⟨trivial, ?_⟩
    intro u hu
    have ud := r.dk.ne_new hu
    simp only [List.length_nil] at hl
    walk_at "s"
    refine ⟨d, c, ns, letters, states, rfl, r.dk.new hu, hl0, hl1, hs0, hs1, fun rows T2 r1 r2 r3 => ?_⟩
    have hu2 := r3.sx u _ ud put_same
    walk_at "s"
    exact s_end (k rows shows T2 (fun z => Bool.noConfusion z) ⟨r1, by omega, r2, hb, hs0, hs1, hl0, hl1⟩ ((r.new hu).trans r3))
  · rintro x rr acc T ⟨shows, rfl, hl, hb, r⟩ ih
    refine ⟨trivial, ?_⟩
    simp only [List.length_cons] at hl
    walk_at "s"
    refine ⟨d, c, ns, _, rfl, r.dk, by omega, sm (by omega) (by omega), fun v T2 v0 v1 r2 => ?_⟩
    walk_at "s"
    refine s_dec (fun e => ?_) (fun e => ?_)
    · walk_at "s"
      refine ⟨d, c, ns, _, _, rfl, r2.dk, by omega, sm (by omega) (by omega), by omega, sm (by omega) (by omega), fun n m T3 n0 n1 m0 m1 hc r3 => ?_⟩
      refine ⟨by rw [List.length_map]; show _ < 2 ^ 24; omega, ?_⟩
      refine ih _ _ ⟨shows ++ [(n : Rat) / m], by rw [List.map_append, fr_q m0 hc]; rfl, by rw [List.length_append, List.length_singleton]; omega, fun q hq => ?_, (r.trans r2).trans r3⟩
      rcases List.mem_append.mp hq with hq | hq
      · exact hb q hq
      · rw [List.mem_singleton.mp hq]; exact fr_bits m0 hc (bt3 n0 (by omega)) (bt3 (by omega) (by omega))
    · walk_at "s"
      refine ⟨by rw [List.length_map]; show _ < 2 ^ 24; omega, ?_⟩
      refine ih _ _ ⟨shows ++ [0], by rw [List.map_append]; rfl, by rw [List.length_append, List.length_singleton]; omega, fun q hq => ?_, r.trans r2⟩
      rcases List.mem_append.mp hq with hq | hq
      · exact hb q hq
      · rw [List.mem_singleton.mp hq]; exact bits_zero (by decide)
theorem read_gauge_on : ∀ ds st R Rx, spGauge true ds st R Rx → wb_law_gauge_on spDraw spFraction (bodyEd R Rx) (startD 5 ds) st := by
  rintro ds st R Rx ⟨d, c, ns, letters, states, rows0, rfl, dk, hl0, hl1, hs0, hs1, hr, k⟩
  obtain ⟨hr1, hr2⟩ := hr rfl
  rw [if_pos rfl]
  unfold wb_law_gauge_on bodyEd
  walk_at "s"
  refine lc_ind (fun items acc T => ∃ shows : List Rat, acc = shows.map qD ∧ items.length + shows.length = states ∧ (∀ x ∈ shows, Bits 3 x) ∧ Dr d c ns st T) ?_ ?_ _ _ _ ⟨[], rfl, by rw [List.length_map, hr1]; rfl, fun q hq => by (cases hq), Dr.refl dk⟩
  · rintro acc T ⟨shows, rfl, hl, hb, r⟩
    refine ⟨trivial, ?_⟩
    intro u hu
    simp only [List.length_nil] at hl
    walk_at "s"
    exact s_end (k rows0 shows _ (fun _ => rfl) ⟨hr1, by omega, hr2, hb, hs0, hs1, hl0, hl1⟩ (r.new hu))
  · rintro x rr acc T ⟨shows, rfl, hl, hb, r⟩ ih
    refine ⟨trivial, ?_⟩
    simp only [List.length_cons] at hl
    walk_at "s"
    refine ⟨d, c, ns, _, rfl, r.dk, by omega, sm (by omega) (by omega), fun v T2 v0 v1 r2 => ?_⟩
    walk_at "s"
    refine s_dec (fun e => ?_) (fun e => ?_)
    · walk_at "s"
      refine ⟨d, c, ns, _, _, rfl, r2.dk, by omega, sm (by omega) (by omega), by omega, sm (by omega) (by omega), fun n m T3 n0 n1 m0 m1 hc r3 => ?_⟩
      refine ⟨by rw [List.length_map]; show _ < 2 ^ 24; omega, ?_⟩
      refine ih _ _ ⟨shows ++ [(n : Rat) / m], by rw [List.map_append, fr_q m0 hc]; rfl, by rw [List.length_append, List.length_singleton]; omega, fun q hq => ?_, (r.trans r2).trans r3⟩
      rcases List.mem_append.mp hq with hq | hq
      · exact hb q hq
      · rw [List.mem_singleton.mp hq]; exact fr_bits m0 hc (bt3 n0 (by omega)) (bt3 (by omega) (by omega))
    · walk_at "s"
      refine ⟨by rw [List.length_map]; show _ < 2 ^ 24; omega, ?_⟩
      refine ih _ _ ⟨shows ++ [0], by rw [List.map_append]; rfl, by rw [List.length_append, List.length_singleton]; omega, fun q hq => ?_, r.trans r2⟩
      rcases List.mem_append.mp hq with hq | hq
      · exact hb q hq
      · rw [List.mem_singleton.mp hq]; exact bits_zero (by decide)
/-! the mean of a corner, a step -/
def meanQ (c : List Mv) (r : List Nat) (t : List (List Rat)) : Rat := sumQ (parts c r t) / (wsum c : Rat)
def mbits (m k : Nat) : Nat := (1 + m * (k + 11)) + (10 + m)
theorem wsum_pos {letters nodes : Nat} : ∀ {c : List Mv}, c ≠ [] → (∀ m ∈ c, MvOk letters nodes m) → 0 < wsum c
  | [], h, _ => absurd rfl h
  | [m], _, h => by
    have := (h m List.mem_cons_self).w0
    show 0 < m.1 + 0
    omega
  | m :: m2 :: c, _, h => by
    have a := (h m List.mem_cons_self).w0
    have b := wsum_pos (c := m2 :: c) (List.cons_ne_nil _ _) fun x hx => h x (List.mem_cons_of_mem _ hx)
    show 0 < m.1 + wsum (m2 :: c)
    omega
def spMean : SpD := fun ds st R _ => ∃ (c : List Mv) (r : List Nat) (t : List (List Rat)) (k m letters states nodes : Nat), ds = [cornerD c, natsD r, tabD t] ∧ StepOk k letters states nodes c r t ∧ c ≠ [] ∧ c.length ≤ m ∧ mbits m k ≤ 8800 ∧ (Bits (mbits m k) (meanQ c r t) → R (qD (meanQ c r t)) st)
theorem len_mean : ∀ ds st R Rx, spMean ds st R Rx → ds.length = 3 := by
  rintro ds st R Rx ⟨_, _, _, _, _, _, _, _, rfl, -⟩; rfl
theorem read_mean : ∀ ds st R Rx, spMean ds st R Rx → wb_law_mean spWsum spOver spSumQ spTimes (bodyEd R Rx) (startD 5 ds) st := by
  rintro ds st R Rx ⟨c, r, t, k, m, letters, states, nodes, rfl, ok, hne, hl, hb, kk⟩
  unfold mbits at hb
  have hcl : c.length * (k + 11) ≤ m * (k + 11) := Nat.mul_le_mul_right _ hl
  have hcl2 : c.length * (k + 10 + 1) = c.length * (k + 11) := rfl
  have hm1 : m * 1 ≤ m * (k + 11) := Nat.mul_le_mul_left _ (by omega)
  have hc0 : 0 < c.length := List.length_pos_iff.mpr hne
  have hk : k + 11 ≤ 8800 := by
    have : 1 * (k + 11) ≤ c.length * (k + 11) := Nat.mul_le_mul_right _ hc0
    omega
  unfold wb_law_mean bodyEd
  walk_at "s"
  refine ⟨c, rfl, by omega, ?_⟩
  unfold cornerD natsD tabD
  walk_at "s"
  refine lc_ind (fun items acc st2 => ∃ p2 s2, c = p2 ++ s2 ∧ items = s2.map moveD ∧ acc = (parts p2 r t).map qD ∧ st2 = st) ?_ ?_ _ _ _ ⟨[], c, rfl, rfl, rfl, rfl⟩
  · rintro acc st2 ⟨p2, s2, e, e2, rfl, rfl⟩
    refine ⟨trivial, ?_⟩
    have : s2 = [] := by cases s2 with
      | nil => rfl
      | cons _ _ => cases e2
    subst this
    rw [List.append_nil] at e
    subst e
    intro u hu
    refine ⟨_, parts c r t, k + 10, rfl, .inr ⟨u, rfl, put_same⟩, by rw [parts_map]; omega, parts_bits ok, fun hz => ?_⟩
    rw [parts_map] at hz
    walk_at "s"
    have w0 := wsum_pos hne ok.c
    refine over_q (y := (wsum c : Rat)) hz (bits_int (wsum_bt ok.c) (by omega)) (cast_ne (by omega)) (by omega) fun bz => ?_
    exact s_endS (Sub.put_new hu) (kk (bz.mono (by unfold mbits; omega)))
  · rintro d rr acc st2 ⟨p2, s2, e, e2, rfl, rfl⟩ ih
    refine ⟨trivial, ?_⟩
    cases s2 with
    | nil => cases e2
    | cons mv s2 =>
    obtain ⟨rfl, rfl⟩ := List.cons.inj e2
    have hm : mv ∈ c := by rw [e]; exact List.mem_append_right _ List.mem_cons_self
    have hlen : p2.length + 1 ≤ c.length := by rw [e, List.length_append, List.length_cons]; omega
    have mo := ok.c mv hm
    have a1 := nat_at (r := r) (i := mv.2.1) (by rw [ok.rl]; exact mo.l)
    obtain ⟨a2, a3, b3⟩ := ok.t.at (ok.st hm) mo.a
    unfold moveD
    walk_at "s"
    refine times_q (x := ((mv.1 : Int) : Rat)) (bits_w mo) b3 (by omega) fun _ => ?_
    refine ⟨by rw [List.length_map, parts_map]; show _ < 2 ^ 24; omega, ?_⟩
    exact ih _ _ ⟨p2 ++ [mv], s2, by rw [e, List.append_assoc]; rfl, rfl, by rw [parts, parts, List.map_append, List.map_append]; rfl, rfl⟩
end C
end DL

namespace DL
namespace C
open PySem L2
local macro_rules | `(tactic| walk_at "look") => `(tactic| first
  | assumption
  | exact put_same
  | (refine look_ne (by first | assumption | exact Ne.symm (by assumption)) ?_; walk_at "look")
  | (refine look_new (by assumption) ?_; walk_at "look"))
local macro_rules | `(tactic| walk_at "side") => `(tactic| first | assumption | exact trivial | decide | omega | exact ⟨by assumption, by assumption⟩ | exact ⟨by omega, by omega⟩ | exact ⟨by decide, by decide⟩ | exact ⟨by decide, by decide, by decide⟩ | (exact .inl (.inl ⟨by decide, by decide⟩)) | (exact .inl (.inr ⟨by decide, by decide⟩)) | (exact .inl (.inl ⟨by omega, by omega⟩)) | (exact .inl (.inr ⟨by omega, by omega⟩)))
local macro_rules | `(tactic| walk_at "opt") => `(tactic| first | (with_reducible exact atI_0 _ _) | (with_reducible exact atI_1 _ _ _) | (with_reducible exact atI_2 _ _ _ _) | (with_reducible exact atI_3 _ _ _ _ _) | (with_reducible exact atI_4 _ _ _ _ _ _) | assumption | exact atI_0 _ _ | exact atI_1 _ _ _ | exact atI_2 _ _ _ _ | exact atI_3 _ _ _ _ _ | exact atI_4 _ _ _ _ _ _ | exact boolsOf_map _ | exact intsOf_map _ | exact rfl)
local macro_rules | `(tactic| walk_at "s1") => `(tactic| first
  | ((with_reducible refine' s_var ?k1 ?_); (case k1 => exact rfl))
  | with_reducible refine s_bin ?_
  | with_reducible refine s_c ?_
  | with_reducible refine s_seqM ?_
  | with_reducible refine s_asB ?_
  | with_reducible refine s_asI ?_
  | with_reducible refine s_asRI ?_
  | with_reducible refine s_acons ?_
  | with_reducible refine s_anil ?_
  | with_reducible refine s_call ?_
  | with_reducible refine s_cb ?_
  | with_reducible refine s_set ?_
  | with_reducible refine s_ixT ?_
  | with_reducible refine s_ixL ?_
  | with_reducible refine s_ixS ?_
  | ((with_reducible refine' s_getL ?k1 ?_); (case k1 => walk_at "look"))
  | ((with_reducible refine' s_opt ?k1 ?_); (case k1 => walk_at "opt"))
  | with_reducible refine s_binT ?_
  | with_reducible refine s_tup ?_
  | with_reducible refine s_tpT ?_
  | with_reducible refine s_lst ?_
  | with_reducible refine s_ret ?_
  | with_reducible refine s_if ?_
  | with_reducible refine s_nextM ?_
  | with_reducible refine s_drop ?_
  | with_reducible refine s_par ?_
  | with_reducible refine s_asg ?_
  | with_reducible refine s_gN ?_
  | ((with_reducible refine' s_gT ?k1 ?_); (case k1 => exact rfl))
  | with_reducible refine s_gsC ?_
  | with_reducible refine s_gsN ?_
  | with_reducible refine s_gIx ?_
  | with_reducible refine s_setD ?_
  | with_reducible refine s_for ?_
  | with_reducible refine s_b ?_
  | with_reducible refine s_and ?_
  | with_reducible refine s_or ?_
  | with_reducible refine s_not ?_
  | with_reducible refine s_ife ?_
  | with_reducible refine s_neg ?_
  | with_reducible refine s_notV ?_
  | with_reducible refine s_andV ?_
  | with_reducible refine s_orV ?_
  | with_reducible refine s_isi ?_
  | with_reducible refine s_m ?_
  | with_reducible refine s_none ?_
  | with_reducible refine s_noneT ?_
  | with_reducible refine s_sl ?_
  | with_reducible refine s_oN ?_
  | with_reducible refine s_oS ?_
  | with_reducible refine s_lc ?_
  | with_reducible refine s_bN ?_
  | with_reducible refine s_bT ?_
  | with_reducible refine s_bTC ?_
  | with_reducible refine s_bTN ?_
  | with_reducible refine s_it ?_
  | with_reducible refine s_rng ?_
  | with_reducible refine s_zip ?_
  | with_reducible refine s_zip2 ?_
  | with_reducible refine s_enum ?_
  | with_reducible refine s_enum1 ?_
  | with_reducible refine s_yes ?_
  | with_reducible refine s_cT ?_
  | with_reducible refine s_cF ?_
  | with_reducible refine s_retN ?_
  | with_reducible refine s_try ?_
  | with_reducible refine s_raise0 ?_
  | with_reducible refine s_raise1 ?_
  | with_reducible refine s_isE ?_
  | with_reducible refine s_fld ?_
  | with_reducible refine s_brk ?_
  | with_reducible refine s_cnt ?_
  | ((with_reducible refine' s_aug ?k1 ?_); (case k1 => exact rfl))
  | with_reducible refine s_augix ?_
  | with_reducible refine s_addI ?_
  | ((with_reducible refine' s_addT ?k1 ?_); (case k1 => walk_at "side"))
  | ((with_reducible refine' s_addS ?k1 ?_); (case k1 => walk_at "side"))
  | with_reducible refine s_catL ?_
  | with_reducible refine s_subI ?_
  | ((with_reducible refine' s_mulI ?k1 ?_); (case k1 => walk_at "side"))
  | ((with_reducible refine' s_divI ?k1 ?_); (case k1 => walk_at "side"))
  | ((with_reducible refine' s_modI ?k1 ?_); (case k1 => walk_at "side"))
  | ((with_reducible refine' s_powI ?k1 ?_); (case k1 => walk_at "side"))
  | ((with_reducible refine' s_shlI ?k1 ?_); (case k1 => walk_at "side"))
  | with_reducible refine s_iaddI ?_
  | ((with_reducible refine' s_iaddS ?k1 ?_); (case k1 => walk_at "side"))
  | with_reducible refine s_eqI ?_
  | with_reducible refine s_neI ?_
  | with_reducible refine s_eqS ?_
  | with_reducible refine s_neS ?_
  | with_reducible refine s_eqB ?_
  | with_reducible refine s_neB ?_
  | with_reducible refine s_cmp ?_
  | ((with_reducible refine' s_ixX ?k1 ?_); (case k1 => walk_at "side"))
  | with_reducible refine s_lenT ?_
  | with_reducible refine s_lenL ?_
  | with_reducible refine s_lenC ?_
  | ((with_reducible refine' s_lenS ?k1 ?_); (case k1 => walk_at "side"))
  | with_reducible refine s_abs ?_
  | with_reducible refine s_intI ?_
  | with_reducible refine s_intB ?_
  | with_reducible refine s_gcd ?_
  | with_reducible refine s_listT ?_
  | with_reducible refine s_listL ?_
  | with_reducible refine s_tupT ?_
  | with_reducible refine s_tupL ?_
  | with_reducible refine s_all ?_
  | with_reducible refine s_any ?_
  | with_reducible refine s_sum ?_
  | with_reducible refine s_sumAT ?_
  | with_reducible refine s_sumAL ?_
  | with_reducible refine s_cnT ?_
  | with_reducible refine s_cnF ?_
  | with_reducible refine s_par3 ?_
  | with_reducible refine s_max2 ?_
  | with_reducible refine s_min2 ?_
  | with_reducible refine s_chain ?_
  | with_reducible refine s_chainT ?_
  | with_reducible refine s_inL ?_
  | with_reducible refine s_inT ?_
  | with_reducible refine s_append ?_
  | with_reducible refine s_extend ?_
  | with_reducible refine s_popAt ?_
  | with_reducible refine s_pop ?_
  | with_reducible refine s_slT ?_
  | with_reducible refine s_slL ?_
  | with_reducible refine s_itT ?_
  | with_reducible refine s_itL ?_
  | with_reducible refine s_itC ?_
  | ((with_reducible refine' s_rng1 ?k1 ?_); (case k1 => walk_at "side"))
  | ((with_reducible refine' s_rng2 ?k1 ?_); (case k1 => walk_at "side"))
  | ((with_reducible refine' s_rngD ?k1 ?_); (case k1 => walk_at "side"))
  | ((with_reducible refine' s_isLst ?k1 ?_); (case k1 => walk_at "look"))
  | ((with_reducible refine' s_lstOkL ?k1 ?_); (case k1 => walk_at "look"))
  | ((with_reducible refine' And.intro ?k1 ?_); (case k1 => walk_at "side")))
local macro_rules | `(tactic| walk_at "s") => `(tactic| repeat (walk_at "s1"))
theorem len_map {α β : Type} {f : α → β} {l : List α} : (l.map f).length = l.length := List.length_map ..
/-- one entry everywhere -/
def flatT (s n : Nat) (e : Rat) : List (List Rat) := List.replicate s (List.replicate n e)
def spFlat : SpD := fun ds st R _ => ∃ (letters : Nat) (rows : List (List Nat)) (shows : List Rat) (web : List (List (List Mv))) (e : Rat), ds = [gaugeD letters rows shows, webD web, qD e] ∧ rows.length ≤ 1000 ∧ web.length ≤ 1000 ∧ R (tabD (flatT rows.length web.length e)) st
theorem len_flat : ∀ ds st R Rx, spFlat ds st R Rx → ds.length = 3 := by
  rintro ds st R Rx ⟨_, _, _, _, _, rfl, -⟩; rfl
theorem map_const {α : Type} {l : List α} {x : D} : (l.map fun _ => x) = List.replicate l.length x := by
  induction l with
  | nil => rfl
  | cons a l ih => rw [List.map_cons, ih]; rfl
theorem read_flat : ∀ ds st R Rx, spFlat ds st R Rx → wb_law_flat (bodyEd R Rx) (startD 5 ds) st := by
  rintro ds st R Rx ⟨letters, rows, shows, web, e, rfl, h1, h2, k⟩
  unfold wb_law_flat bodyEd gaugeD webD
  walk_at "s"
  have ek : tabD (flatT rows.length web.length e) = .tup (List.replicate rows.length (.tup (List.replicate web.length (qD e)))) := by
    unfold tabD flatT
    rw [List.map_replicate, List.map_replicate]
  rw [ek] at k
  refine lc_ind (fun items acc T => acc.length + items.length = rows.length ∧ acc = List.replicate acc.length (.tup (List.replicate web.length (qD e))) ∧ Sub st T) ?_ ?_ _ _ _ ⟨by rw [len_map]; exact Nat.zero_add _, rfl, .refl _⟩
  · rintro acc T ⟨hl, ha, sT⟩
    refine ⟨trivial, ?_⟩
    intro u hu
    walk_at "s"
    rw [List.length_nil, Nat.add_zero] at hl
    rw [hl] at ha
    rw [← ha] at k
    exact s_endS (sT.trans (Sub.put_new hu)) k
  · rintro x rr acc T ⟨hl, ha, sT⟩ ih
    refine ⟨trivial, ?_⟩
    rw [List.length_cons] at hl
    walk_at "s"
    refine lc_calm (fun _ => qD e) (fun _ => true) trivial (by rw [len_map]; show _ ≤ 2 ^ 24; simp only [List.length_nil]; omega) (fun y hy kk kn g1 g2 => ?_) ?_
    · walk_at "s"
      exact g1 rfl
    · rw [List.filter_eq_self.mpr (fun _ _ => rfl), List.nil_append]
      intro u hu
      walk_at "s"
      refine ⟨by show _ < 2 ^ 24; omega, ?_⟩
      refine ih _ _ ⟨by rw [List.length_append, List.length_singleton]; omega, ?_, sT.trans (Sub.put_new hu)⟩
      rw [map_const, len_map, List.length_append, List.length_singleton, List.replicate_succ']
      conv => lhs; rw [ha]
/-- where a table holds what is shown and what the corners bring together -/
def Closed (rows : List (List Nat)) (shows : List Rat) (web : List (List (List Mv))) (t : List (List Rat)) : Prop :=
  ∀ s, s < rows.length → ∀ n, n < web.length → ¬ tabAt t s n < shows.getD s 0 ∧ ∀ a, a < (web.getD n []).length → ¬ Grow (cAt (web.getD n []) a) (rows.getD s []) t (tabAt t s n)
theorem fs_none {β : Type} {f : Nat → Option β} {n : Nat} (h : ∀ i, i < n → f i = none) : (List.range n).findSome? f = none := List.findSome?_eq_none_iff.mpr fun i hi => h i (List.mem_range.mp hi)
theorem closed_verdict {rows : List (List Nat)} {shows : List Rat} {web : List (List (List Mv))} {t : List (List Rat)} (h : Closed rows shows web t) : verdict rows shows web t = .non := by
  unfold verdict
  rw [fs_none fun s hs => ?_]
  · rfl
  · unfold fV
    refine fs_none fun n hn => ?_
    unfold gV
    rw [if_neg (h s hs n hn).1]
    refine fs_none fun a ha => ?_
    unfold hV
    rw [if_neg ((h s hs n hn).2 a ha)]
theorem sumQ_mul (c : Rat) : ∀ l : List Rat, sumQ (l.map fun x => x * c) = sumQ l * c
  | [] => by show (0 : Rat) = 0 * c; rw [Rat.zero_mul]
  | x :: l => by show x * c + sumQ (l.map fun x => x * c) = (x + sumQ l) * c; rw [sumQ_mul c l, Rat.add_mul]
theorem sumQ_w : ∀ c : List Mv, sumQ (c.map fun m => ((m.1 : Int) : Rat)) = (wsum c : Rat)
  | [] => rfl
  | m :: c => by
    show ((m.1 : Int) : Rat) + sumQ (c.map fun m => ((m.1 : Int) : Rat)) = ((m.1 + wsum c : Int) : Rat)
    rw [sumQ_w c, Rat.intCast_add]
theorem sumQ_le {c : List Mv} {f g : Mv → Rat} (h : ∀ m ∈ c, 0 ≤ ((m.1 : Int) : Rat) ∧ f m ≤ g m) : sumQ (c.map fun m => ((m.1 : Int) : Rat) * f m) ≤ sumQ (c.map fun m => ((m.1 : Int) : Rat) * g m) := by
  induction c with
  | nil => exact Rat.le_refl
  | cons m c ih =>
    have a := h m List.mem_cons_self
    have b := ih fun x hx => h x (List.mem_cons_of_mem _ hx)
    show ((m.1 : Int) : Rat) * f m + _ ≤ ((m.1 : Int) : Rat) * g m + _
    have := Rat.mul_le_mul_of_nonneg_left a.2 a.1
    exact Rat.le_trans (Rat.add_le_add_right.mpr this) (Rat.add_le_add_left.mpr b)
theorem w_nonneg {l n : Nat} {m : Mv} (h : MvOk l n m) : (0 : Rat) ≤ ((m.1 : Int) : Rat) := Rat.intCast_nonneg.mpr (by have := h.w0; omega)
/-- entries at most e: no corner brings more -/
theorem no_grow {l n : Nat} {c : List Mv} {r : List Nat} {t : List (List Rat)} {e : Rat} (hc : ∀ m ∈ c, MvOk l n m) (h : ∀ m ∈ c, tabAt t (r.getD m.2.1 0) m.2.2 ≤ e) : ¬ Grow c r t e := by
  unfold Grow
  rw [Rat.not_lt]
  have := sumQ_le (c := c) (f := fun m => tabAt t (r.getD m.2.1 0) m.2.2) (g := fun _ => e) fun m hm => ⟨w_nonneg (hc m hm), h m hm⟩
  have e2 : sumQ (c.map fun m => ((m.1 : Int) : Rat) * e) = (wsum c : Rat) * e := by
    have := sumQ_mul e (c.map fun m => ((m.1 : Int) : Rat))
    rw [List.map_map, sumQ_w] at this
    exact this
  rw [← e2]
  exact this
theorem flat_at {s n : Nat} {e : Rat} {i j : Nat} (hi : i < s) (hj : j < n) : tabAt (flatT s n e) i j = e := by
  unfold tabAt flatT
  rw [List.getD_eq_getElem?_getD, List.getD_eq_getElem?_getD, List.getElem?_replicate, if_pos hi, Option.getD_some, List.getElem?_replicate, if_pos hj]; rfl
theorem flat_b {k s n : Nat} {e : Rat} (h : Bits k e) : TabB k s n (flatT s n e) := by
  refine ⟨List.length_replicate, fun r hr => ?_, fun r hr x hx => ?_⟩
  · rw [(List.mem_replicate.mp hr).2, List.length_replicate]
  · rw [(List.mem_replicate.mp hr).2] at hx
    rw [(List.mem_replicate.mp hx).2]; exact h
theorem flat_closed {k m letters states nodes : Nat} {rows : List (List Nat)} {shows : List Rat} {web : List (List (List Mv))} {e : Rat} (g : GOk k letters states rows shows) (w : WOk m letters nodes web) (h : ∀ x ∈ shows, x ≤ e) : Closed rows shows web (flatT rows.length web.length e) := by
  intro s hs n hn
  rw [flat_at hs hn]
  have hsl : s < shows.length := by rw [g.sl, ← g.rl]; exact hs
  refine ⟨?_, fun a ha => ?_⟩
  · rw [Rat.not_lt, List.getD_eq_getElem?_getD, List.getElem?_eq_getElem hsl]
    exact h _ (List.getElem_mem hsl)
  · have ew : web.getD n [] = web[n] := by rw [List.getD_eq_getElem?_getD, List.getElem?_eq_getElem hn]; rfl
    have ec : cAt (web.getD n []) a = (web.getD n [])[a] := by rw [cAt, List.getD_eq_getElem?_getD, List.getElem?_eq_getElem ha]; rfl
    have hc := (w.n (web.getD n []) (by rw [ew]; exact List.getElem_mem hn)).2 (cAt (web.getD n []) a) (by rw [ec]; exact List.getElem_mem ha)
    refine no_grow hc.2.2 fun mv hmv => ?_
    have mo := hc.2.2 mv hmv
    have er : rows.getD s [] = rows[s] := by rw [List.getD_eq_getElem?_getD, List.getElem?_eq_getElem hs]; rfl
    have hr := g.r (rows.getD s []) (by rw [er]; exact List.getElem_mem hs)
    have hl : mv.2.1 < (rows.getD s []).length := by rw [hr.1]; exact mo.l
    have hst : (rows.getD s []).getD mv.2.1 0 < rows.length := by
      rw [g.rl, List.getD_eq_getElem?_getD (l := rows.getD s []), List.getElem?_eq_getElem hl]
      exact hr.2 _ (List.getElem_mem hl)
    rw [flat_at hst (by rw [w.wl]; exact mo.a)]
    exact Rat.le_refl
end C
end DL

namespace DL
namespace C
open PySem L2
local macro_rules | `(tactic| walk_at "look") => `(tactic| first
  | assumption
  | exact put_same
  | (refine look_ne (by first | assumption | exact Ne.symm (by assumption)) ?_; walk_at "look")
  | (refine look_new (by assumption) ?_; walk_at "look"))
local macro_rules | `(tactic| walk_at "side") => `(tactic| first | assumption | exact trivial | decide | omega | exact ⟨by assumption, by assumption⟩ | exact ⟨by omega, by omega⟩ | exact ⟨by decide, by decide⟩ | exact ⟨by decide, by decide, by decide⟩ | (exact .inl (.inl ⟨by decide, by decide⟩)) | (exact .inl (.inr ⟨by decide, by decide⟩)) | (exact .inl (.inl ⟨by omega, by omega⟩)) | (exact .inl (.inr ⟨by omega, by omega⟩)))
local macro_rules | `(tactic| walk_at "opt") => `(tactic| first | (with_reducible exact atI_0 _ _) | (with_reducible exact atI_1 _ _ _) | (with_reducible exact atI_2 _ _ _ _) | (with_reducible exact atI_3 _ _ _ _ _) | (with_reducible exact atI_4 _ _ _ _ _ _) | assumption | exact atI_0 _ _ | exact atI_1 _ _ _ | exact atI_2 _ _ _ _ | exact atI_3 _ _ _ _ _ | exact atI_4 _ _ _ _ _ _ | exact boolsOf_map _ | exact intsOf_map _ | exact rfl)
local macro_rules | `(tactic| walk_at "s1") => `(tactic| first
  | ((with_reducible refine' s_var ?k1 ?_); (case k1 => exact rfl))
  | with_reducible refine s_bin ?_
  | with_reducible refine s_c ?_
  | with_reducible refine s_seqM ?_
  | with_reducible refine s_asB ?_
  | with_reducible refine s_asI ?_
  | with_reducible refine s_asRI ?_
  | with_reducible refine s_acons ?_
  | with_reducible refine s_anil ?_
  | with_reducible refine s_call ?_
  | with_reducible refine s_cb ?_
  | with_reducible refine s_set ?_
  | with_reducible refine s_ixT ?_
  | with_reducible refine s_ixL ?_
  | with_reducible refine s_ixS ?_
  | ((with_reducible refine' s_getL ?k1 ?_); (case k1 => walk_at "look"))
  | ((with_reducible refine' s_opt ?k1 ?_); (case k1 => walk_at "opt"))
  | with_reducible refine s_binT ?_
  | with_reducible refine s_tup ?_
  | with_reducible refine s_tpT ?_
  | with_reducible refine s_lst ?_
  | with_reducible refine s_ret ?_
  | with_reducible refine s_if ?_
  | with_reducible refine s_nextM ?_
  | with_reducible refine s_drop ?_
  | with_reducible refine s_par ?_
  | with_reducible refine s_asg ?_
  | with_reducible refine s_gN ?_
  | ((with_reducible refine' s_gT ?k1 ?_); (case k1 => exact rfl))
  | with_reducible refine s_gsC ?_
  | with_reducible refine s_gsN ?_
  | with_reducible refine s_gIx ?_
  | with_reducible refine s_setD ?_
  | with_reducible refine s_for ?_
  | with_reducible refine s_b ?_
  | with_reducible refine s_and ?_
  | with_reducible refine s_or ?_
  | with_reducible refine s_not ?_
  | with_reducible refine s_ife ?_
  | with_reducible refine s_neg ?_
  | with_reducible refine s_notV ?_
  | with_reducible refine s_andV ?_
  | with_reducible refine s_orV ?_
  | with_reducible refine s_isi ?_
  | with_reducible refine s_m ?_
  | with_reducible refine s_none ?_
  | with_reducible refine s_noneT ?_
  | with_reducible refine s_sl ?_
  | with_reducible refine s_oN ?_
  | with_reducible refine s_oS ?_
  | with_reducible refine s_lc ?_
  | with_reducible refine s_bN ?_
  | with_reducible refine s_bT ?_
  | with_reducible refine s_bTC ?_
  | with_reducible refine s_bTN ?_
  | with_reducible refine s_it ?_
  | with_reducible refine s_rng ?_
  | with_reducible refine s_zip ?_
  | with_reducible refine s_zip2 ?_
  | with_reducible refine s_enum ?_
  | with_reducible refine s_enum1 ?_
  | with_reducible refine s_yes ?_
  | with_reducible refine s_cT ?_
  | with_reducible refine s_cF ?_
  | with_reducible refine s_retN ?_
  | with_reducible refine s_try ?_
  | with_reducible refine s_raise0 ?_
  | with_reducible refine s_raise1 ?_
  | with_reducible refine s_isE ?_
  | with_reducible refine s_fld ?_
  | with_reducible refine s_brk ?_
  | with_reducible refine s_cnt ?_
  | ((with_reducible refine' s_aug ?k1 ?_); (case k1 => exact rfl))
  | with_reducible refine s_augix ?_
  | with_reducible refine s_addI ?_
  | ((with_reducible refine' s_addT ?k1 ?_); (case k1 => walk_at "side"))
  | ((with_reducible refine' s_addS ?k1 ?_); (case k1 => walk_at "side"))
  | with_reducible refine s_catL ?_
  | with_reducible refine s_subI ?_
  | ((with_reducible refine' s_mulI ?k1 ?_); (case k1 => walk_at "side"))
  | ((with_reducible refine' s_divI ?k1 ?_); (case k1 => walk_at "side"))
  | ((with_reducible refine' s_modI ?k1 ?_); (case k1 => walk_at "side"))
  | ((with_reducible refine' s_powI ?k1 ?_); (case k1 => walk_at "side"))
  | ((with_reducible refine' s_shlI ?k1 ?_); (case k1 => walk_at "side"))
  | with_reducible refine s_iaddI ?_
  | ((with_reducible refine' s_iaddS ?k1 ?_); (case k1 => walk_at "side"))
  | with_reducible refine s_eqI ?_
  | with_reducible refine s_neI ?_
  | with_reducible refine s_eqS ?_
  | with_reducible refine s_neS ?_
  | with_reducible refine s_eqB ?_
  | with_reducible refine s_neB ?_
  | with_reducible refine s_cmp ?_
  | ((with_reducible refine' s_ixX ?k1 ?_); (case k1 => walk_at "side"))
  | with_reducible refine s_lenT ?_
  | with_reducible refine s_lenL ?_
  | with_reducible refine s_lenC ?_
  | ((with_reducible refine' s_lenS ?k1 ?_); (case k1 => walk_at "side"))
  | with_reducible refine s_abs ?_
  | with_reducible refine s_intI ?_
  | with_reducible refine s_intB ?_
  | with_reducible refine s_gcd ?_
  | with_reducible refine s_listT ?_
  | with_reducible refine s_listL ?_
  | with_reducible refine s_tupT ?_
  | with_reducible refine s_tupL ?_
  | with_reducible refine s_all ?_
  | with_reducible refine s_any ?_
  | with_reducible refine s_sum ?_
  | with_reducible refine s_sumAT ?_
  | with_reducible refine s_sumAL ?_
  | with_reducible refine s_cnT ?_
  | with_reducible refine s_cnF ?_
  | with_reducible refine s_par3 ?_
  | with_reducible refine s_max2 ?_
  | with_reducible refine s_min2 ?_
  | with_reducible refine s_chain ?_
  | with_reducible refine s_chainT ?_
  | with_reducible refine s_inL ?_
  | with_reducible refine s_inT ?_
  | with_reducible refine s_append ?_
  | with_reducible refine s_extend ?_
  | with_reducible refine s_popAt ?_
  | with_reducible refine s_pop ?_
  | with_reducible refine s_slT ?_
  | with_reducible refine s_slL ?_
  | with_reducible refine s_itT ?_
  | with_reducible refine s_itL ?_
  | with_reducible refine s_itC ?_
  | ((with_reducible refine' s_rng1 ?k1 ?_); (case k1 => walk_at "side"))
  | ((with_reducible refine' s_rng2 ?k1 ?_); (case k1 => walk_at "side"))
  | ((with_reducible refine' s_rngD ?k1 ?_); (case k1 => walk_at "side"))
  | ((with_reducible refine' s_isLst ?k1 ?_); (case k1 => walk_at "look"))
  | ((with_reducible refine' s_lstOkL ?k1 ?_); (case k1 => walk_at "look"))
  | ((with_reducible refine' And.intro ?k1 ?_); (case k1 => walk_at "side")))
local macro_rules | `(tactic| walk_at "s") => `(tactic| repeat (walk_at "s1"))
/-! amounts, sums of products -/
/-- bits that a fraction takes -/
def bz (x : Rat) : Nat := max x.num.natAbs.log2 x.den.log2 + 1
theorem bits_bz (x : Rat) : Bits (bz x) x := by
  unfold bz
  refine ⟨?_, ?_⟩
  · have h : Bt (x.num.natAbs.log2 + 1) x.num := Nat.lt_log2_self
    exact h.mono (by omega)
  · have h : Bt (x.den.log2 + 1) (x.den : Int) := by
      unfold Bt; rw [Int.natAbs_natCast]; exact Nat.lt_log2_self
    exact h.mono (by omega)
theorem bz_le {k : Nat} {x : Rat} (hk : 0 < k) (h : Bits k x) : bz x ≤ k := by
  have h1 := h.n.log hk
  have h2 := h.d.log hk
  rw [Int.natAbs_natCast] at h2
  unfold bz
  omega
theorem bits_iff {k : Nat} {x : Rat} (hk : 0 < k) : Bits k x ↔ bz x ≤ k := ⟨bz_le hk, fun h => (bits_bz x).mono h⟩
theorem bz_pos (x : Rat) : 0 < bz x := Nat.succ_pos _
def SB (l : List Rat) : Nat := (l.map bz).sum
theorem SB_nil : SB [] = 0 := rfl
theorem SB_cons {x : Rat} {l : List Rat} : SB (x :: l) = bz x + SB l := by unfold SB; rw [List.map_cons, List.sum_cons]
theorem SB_append {a b : List Rat} : SB (a ++ b) = SB a + SB b := by unfold SB; rw [List.map_append, List.sum_append]
theorem SB_le {k : Nat} : ∀ {l : List Rat}, (∀ x ∈ l, bz x ≤ k) → SB l ≤ l.length * k
  | [], _ => by rw [SB_nil]; exact Nat.zero_le _
  | x :: l, h => by
    rw [SB_cons, List.length_cons, Nat.succ_mul]
    have := h x List.mem_cons_self
    have := SB_le (l := l) fun y hy => h y (List.mem_cons_of_mem _ hy)
    omega
theorem SB_take {l : List Rat} (n : Nat) : SB (l.take n) ≤ SB l := by
  have := SB_append (a := l.take n) (b := l.drop n)
  rw [List.take_append_drop] at this
  omega
theorem bz_mem {l : List Rat} {x : Rat} (h : x ∈ l) : bz x ≤ SB l := by
  induction l with
  | nil => cases h
  | cons y l ih =>
    rw [SB_cons]
    rcases List.mem_cons.mp h with rfl | h
    · omega
    · have := ih h; omega
def dotQ (r a : List Rat) : Rat := sumQ (List.zipWith (· * ·) r a)
theorem sumQ_cons (x : Rat) (l : List Rat) : sumQ (x :: l) = x + sumQ l := rfl
theorem dot_take {r a : List Rat} : ∀ {j : Nat}, j < r.length → j < a.length → dotQ (r.take (j + 1)) a = dotQ (r.take j) a + r.getD j 0 * a.getD j 0 := by
  induction r generalizing a with
  | nil => intro j h; cases h
  | cons x r ih =>
    intro j h1 h2
    cases a with
    | nil => cases h2
    | cons y a =>
      cases j with
      | zero =>
        unfold dotQ
        simp only [List.take_succ_cons, List.take_zero, List.zipWith_cons_cons, List.zipWith_nil_left, List.getD_cons_zero, sumQ_cons]
        show x * y + (0 : Rat) = (0 : Rat) + x * y
        grind
      | succ j =>
        have := ih (a := a) (j := j) (by simpa using h1) (by simpa using h2)
        unfold dotQ at this ⊢
        simp only [List.take_succ_cons, List.zipWith_cons_cons, List.getD_cons_succ, sumQ_cons] at this ⊢
        rw [this]
        grind
theorem getD_mem {l : List Rat} {j : Nat} (h : j < l.length) : l[j]? = some (l.getD j 0) := by
  rw [List.getD_eq_getElem?_getD, List.getElem?_eq_getElem h]; rfl
theorem SB_next {l : List Rat} {j : Nat} (h : j < l.length) : SB (l.take (j + 1)) = SB (l.take j) + bz (l.getD j 0) := by
  rw [List.take_succ, getD_mem h, SB_append]
  show SB (l.take j) + SB [l.getD j 0] = _
  rw [SB_cons, SB_nil, Nat.add_zero]
def spDot : SpD := fun ds st R _ => ∃ (rd ad : D) (r a : List Rat), ds = [rd, ad] ∧ RowAt st rd (r.map qD) ∧ RowAt st ad (a.map qD) ∧ r.length ≤ a.length ∧ r.length ≤ 1000000 ∧ 1 + SB r + SB a + r.length ≤ 8900 ∧ (Bits (1 + SB r + SB a + r.length) (dotQ r a) → R (qD (dotQ r a)) st)
theorem len_dot : ∀ ds st R Rx, spDot ds st R Rx → ds.length = 2 := by
  rintro ds st R Rx ⟨_, _, _, _, rfl, -⟩; rfl
theorem qD_num0 {x : Rat} (h : x.num = 0) : x = 0 := Rat.num_eq_zero.mp h
theorem read_dot : ∀ ds st R Rx, spDot ds st R Rx → wb_law_dot spPlus spTimes (bodyEd R Rx) (startD 4 ds) st := by
  rintro ds st R Rx ⟨rd, ad, r, a, rfl, hr, ha, hl, hn, hb, kk⟩
  unfold wb_law_dot bodyEd
  walk_at "s"
  refine s_lenRow hr ?_
  walk_at "s"
  rw [len_map]
  walk_at "s"
  rw [Int.toNat_natCast]
  refine for_rng r.length (fun j ep T => T = st ∧ ∃ x3, ep = [some rd, some ad, some (qD (dotQ (r.take j) a)), x3] ∧ Bits (1 + SB (r.take j) + SB (a.take j) + j) (dotQ (r.take j) a)) ?_ ?_ ⟨rfl, _, rfl, (bits_zero (by decide)).mono (Nat.le_refl 1)⟩
  · rintro ep T ⟨rfl, x3, rfl, b⟩
    refine ⟨trivial, ?_⟩
    walk_at "s"
    rw [List.take_of_length_le (Nat.le_refl _)] at b ⊢
    have := SB_take (l := a) r.length
    exact s_end (kk (b.mono (by omega)))
  · rintro K j ep T hj ⟨rfl, x3, rfl, b⟩ ih
    have hja : j < a.length := by omega
    have er := atI_map (f := qD) (getD_mem hj)
    have ea := atI_map (f := qD) (getD_mem hja)
    have s1 := SB_next hj
    have s2 := SB_next hja
    have t1 := SB_take (l := r) (j + 1)
    have t2 := SB_take (l := a) (j + 1)
    have stay : r.getD j 0 * a.getD j 0 = 0 → K [some rd, some ad, some (qD (dotQ (r.take j) a)), some (.int (j : Int))] T := fun e => ih _ _ ⟨rfl, _, by rw [dot_take hj hja, e, Rat.add_zero], by rw [dot_take hj hja, e, Rat.add_zero]; exact b.mono (by omega)⟩
    refine ⟨trivial, ?_⟩
    walk_at "s"
    refine s_ixRow hr ?_
    refine s_opt er ?_
    have q1 : qD (r.getD j 0) = .tup [.int (r.getD j 0).num, .int ((r.getD j 0).den : Int)] := rfl
    have q2 : qD (a.getD j 0) = .tup [.int (a.getD j 0).num, .int ((a.getD j 0).den : Int)] := rfl
    rw [q1]
    walk_at "s"
    refine s_ndec (fun hne => ?_) (fun he => ?_)
    · walk_at "s"
      refine s_ixRow ha ?_
      refine s_opt ea ?_
      rw [q2]
      walk_at "s"
      refine s_ndec (fun hne2 => ?_) (fun he => ?_)
      · walk_at "s"
        refine s_ixRow hr ?_
        refine s_opt er ?_
        walk_at "s"
        refine s_ixRow ha ?_
        refine s_opt ea ?_
        walk_at "s"
        refine times_q (bits_bz _) (bits_bz _) (by omega) fun bt => ?_
        walk_at "s"
        refine ⟨_, _, _, _, rfl, b, bt, by omega, trivial, fun bp => ?_⟩
        walk_at "s"
        exact ih _ _ ⟨rfl, _, by rw [dot_take hj hja]; rfl, by rw [dot_take hj hja]; exact Bits.mono bp (by omega)⟩
      · walk_at "s"
        exact stay (by rw [qD_num0 he, Rat.mul_zero])
    · walk_at "s"
      exact stay (by rw [qD_num0 he, Rat.zero_mul])
def spWgh : SpD := fun ds st R _ => ∃ (rd ad : D) (r a : List Rat) (k l : Nat), ds = [rd, ad] ∧ RowAt st rd (r.map qD) ∧ RowAt st ad (a.map qD) ∧ r.length = a.length ∧ (∀ x ∈ r, Bits k x) ∧ (∀ x ∈ a, Bits l x) ∧ tok r.length (k + l) ∧ (Bits (tbits r.length (k + l)) (dotQ r a) → R (qD (dotQ r a)) st)
theorem len_wgh : ∀ ds st R Rx, spWgh ds st R Rx → ds.length = 2 := by
  rintro ds st R Rx ⟨_, _, _, _, _, _, rfl, -⟩; rfl
theorem zip_rows : ∀ (r a : List Rat), zipD (r.map qD) (a.map qD) = (r.zip a).map fun p => D.tup [qD p.1, qD p.2]
  | [], _ => by simp [zipD]
  | _ :: _, [] => by simp [zipD]
  | x :: r, y :: a => by
    have := zip_rows r a
    unfold zipD at this ⊢
    rw [List.map_cons, List.map_cons, List.zipWith_cons_cons, this]; rfl
theorem prods_zip (r a : List Rat) : List.zipWith (· * ·) r a = (r.zip a).map fun p => p.1 * p.2 := by
  rw [List.zip, List.map_zipWith]
theorem read_wgh : ∀ ds st R Rx, spWgh ds st R Rx → wb_weighed spTotal spTimes (bodyEd R Rx) (startD 4 ds) st := by
  rintro ds st R Rx ⟨rd, ad, r, a, k, l, rfl, hr, ha, hl, br, ba, tk, kk⟩
  have htk := tk
  unfold tok at htk
  unfold wb_weighed bodyEd
  walk_at "s"
  refine s_itRow hr fun G g => ⟨g, s_itRow ha fun G2 g2 => ?_⟩
  rw [zip_rows]
  refine lc_pre (fun p : Rat × Rat => D.tup [qD p.1, qD p.2]) (r.zip a) (fun pre acc T => T = st ∧ acc = (pre.map fun p => p.1 * p.2).map qD) ?_ ?_ ⟨rfl, rfl⟩
  · rintro acc T ⟨rfl, rfl⟩
    refine ⟨⟨g, g2⟩, ?_⟩
    intro p hp
    rw [← prods_zip]
    have hlen : (List.zipWith (· * ·) r a).length = r.length := by rw [List.length_zipWith]; omega
    refine ⟨_, List.zipWith (· * ·) r a, k + l, rfl, .inr ⟨p, rfl, put_same⟩, by rw [hlen]; exact tk, fun x hx => ?_, fun bb => ?_⟩
    · rw [prods_zip] at hx
      obtain ⟨q, hq, rfl⟩ := List.mem_map.mp hx
      obtain ⟨h1, h2⟩ := List.of_mem_zip hq
      exact (br _ h1).mul (ba _ h2)
    · rw [hlen] at bb
      exact s_endS (Sub.put_new hp) (kk bb)
  · rintro K pre q rest acc T e ⟨rfl, rfl⟩ ih
    refine ⟨⟨g, g2⟩, ?_⟩
    have hq : q ∈ r.zip a := by rw [e]; simp
    obtain ⟨h1, h2⟩ := List.of_mem_zip hq
    have hlz : pre.length < r.length := by
      have : (r.zip a).length = r.length := by rw [List.length_zip]; omega
      rw [e] at this
      simp at this
      omega
    walk_at "s"
    refine times_q (br _ h1) (ba _ h2) (by omega) fun bt => ?_
    refine ⟨by rw [len_map, len_map]; show _ < 2 ^ 24; omega, ih _ _ ⟨rfl, by rw [List.map_append, List.map_append]; rfl⟩⟩
/-! fractions in a thing -/
def ratOf : D → Rat
  | .tup [.int a, .int b] => (a : Rat) / (b : Rat)
  | _ => 0
theorem ratOf_q (x : Rat) : ratOf (qD x) = x := rat_cast x
theorem isFr_inv {d : D} (h : isFr d = true) : d = qD (ratOf d) := by
  unfold isFr at h
  split at h
  · rename_i a b
    rw [Bool.and_eq_true, decide_eq_true_eq, decide_eq_true_eq] at h
    exact fr_q (by omega) h.2
  · cases h
def isAm (d : D) : Bool := isFr d && decide (0 ≤ ratOf d)
def amtsB (n : Nat) : D → Bool
  | .tup ds => decide (ds.length = n) && ds.all isAm
  | _ => false
def ratsOf : D → List Rat
  | .tup ds => ds.map ratOf
  | _ => []
theorem ratsOf_q (xs : List Rat) : ratsOf (.tup (xs.map qD)) = xs := by
  unfold ratsOf
  simp only [List.map_map]
  conv => rhs; rw [← List.map_id xs]
  exact List.map_congr_left fun x _ => ratOf_q x
theorem amts_inv {n : Nat} {d : D} (h : amtsB n d = true) : d = .tup ((ratsOf d).map qD) ∧ (ratsOf d).length = n ∧ ∀ x ∈ ratsOf d, 0 ≤ x := by
  unfold amtsB at h
  split at h
  · rename_i ds
    rw [Bool.and_eq_true, decide_eq_true_eq, List.all_eq_true] at h
    obtain ⟨h1, h2⟩ := h
    unfold ratsOf
    refine ⟨?_, by simp [h1], fun x hx => ?_⟩
    · simp only [List.map_map]
      congr 1
      conv => lhs; rw [← List.map_id ds]
      refine List.map_congr_left fun d hd => ?_
      have := h2 d hd
      unfold isAm at this
      rw [Bool.and_eq_true] at this
      exact isFr_inv this.1
    · simp only at hx
      obtain ⟨d, hd, rfl⟩ := List.mem_map.mp hx
      have := h2 d hd
      unfold isAm at this
      rw [Bool.and_eq_true, decide_eq_true_eq] at this
      exact this.2
  · cases h
theorem isAm_q {x : Rat} : isAm (qD x) = decide (0 ≤ x) := by
  unfold isAm
  rw [isFr_q, ratOf_q, Bool.true_and]
theorem amts_q {n : Nat} {xs : List Rat} (hl : xs.length = n) (h : ∀ x ∈ xs, 0 ≤ x) : amtsB n (.tup (xs.map qD)) = true := by
  unfold amtsB
  rw [Bool.and_eq_true, decide_eq_true_eq, List.all_eq_true]
  refine ⟨by rw [len_map, hl], fun d hd => ?_⟩
  obtain ⟨x, hx, rfl⟩ := List.mem_map.mp hd
  rw [isAm_q]; exact decide_eq_true (h x hx)
def spIsAm : SpD := fun ds st R _ => ∃ d, ds = [d] ∧ nr d = true ∧ (∀ x y, d = .tup [x, y] → nr x = true ∧ nr y = true) ∧ R (.bl (isAm d)) st
theorem len_isam : ∀ ds st R Rx, spIsAm ds st R Rx → ds.length = 1 := by
  rintro ds st R Rx ⟨_, rfl, -⟩; rfl
theorem num_nonneg {x : Rat} : decide (0 ≤ x.num) = decide (0 ≤ x) := decide_eq_decide.mpr Rat.num_nonneg
theorem read_is_amount : ∀ ds st R Rx, spIsAm ds st R Rx → wb_is_amount spIsFr (bodyEd R Rx) (startD 1 ds) st := by
  rintro ds st R Rx ⟨d, rfl, h1, h2, kk⟩
  unfold wb_is_amount bodyEd
  walk_at "s"
  refine ⟨d, rfl, h1, h2, ?_⟩
  walk_at "s"
  refine s_b2 (fun e => ?_) (fun e => ?_)
  · have ed := isFr_inv e
    rw [ed] at kk ⊢
    rw [isAm_q, ← num_nonneg] at kk
    have q1 : qD (ratOf d) = .tup [.int (ratOf d).num, .int ((ratOf d).den : Int)] := rfl
    rw [q1]
    walk_at "s"
    exact s_end kk
  · refine s_end ?_
    unfold isAm at kk
    rw [e] at kk
    exact kk
/-- is_row_of_amounts -/
def spAmts : SpD := fun ds st R _ => ∃ (d : D) (n : Nat), ds = [d, .int (n : Int)] ∧ PureD d ∧ (∀ es, d = .tup es → es.length ≤ 1000000) ∧ R (.bl (amtsB n d)) st
theorem len_amts : ∀ ds st R Rx, spAmts ds st R Rx → ds.length = 2 := by
  rintro ds st R Rx ⟨_, _, rfl, -⟩; rfl
theorem all_map {α : Type} {p : α → Bool} {l : List α} : ((l.map p).all fun b => b) = l.all p := by
  rw [List.all_map]; rfl
theorem amtsB_no {n : Nat} {d : D} (h : isTy .tup d = false) : amtsB n d = false := by
  cases d <;> first | rfl | (exact absurd h (by simp [isTy]))
theorem isTy_tup {d : D} (h : isTy .tup d = true) : ∃ ds, d = .tup ds := by
  cases d <;> first | exact ⟨_, rfl⟩ | (exact absurd h (by simp [isTy]))
theorem read_amts : ∀ ds st R Rx, spAmts ds st R Rx → wb_is_row_of_amounts spIsAm (bodyEd R Rx) (startD 3 ds) st := by
  rintro ds st R Rx ⟨d, n, rfl, hp, hl, kk⟩
  unfold wb_is_row_of_amounts bodyEd
  walk_at "s"
  refine ⟨nr_ok hp.nr, ?_⟩
  walk_at "s"
  cases e : isTy .tup d with
  | false =>
    walk_at "s"
    rw [amtsB_no e] at kk
    exact s_end kk
  | true =>
    obtain ⟨es, rfl⟩ := isTy_tup e
    have hle := hl es rfl
    walk_at "s"
    refine s_ndec (fun hne => ?_) (fun he => ?_)
    · walk_at "s"
      refine s_end ?_
      have e1 : amtsB n (.tup es) = (decide (es.length = n) && es.all isAm) := rfl
      rw [e1, decide_eq_false (by omega)] at kk
      exact kk
    · walk_at "s"
      refine lc_calm (fun d => .bl (isAm d)) (fun _ => true) trivial (by show 0 + es.length ≤ 2 ^ 24; omega) (fun x hx kk kn h1 h2 => ?_) ?_
      · walk_at "s"
        have px := hp.mem x hx
        exact ⟨x, rfl, px.nr, px.two, h1 rfl⟩
      · rw [List.filter_eq_self.mpr (fun _ _ => rfl), List.nil_append]
        intro p hp
        have eb : boolsOf (es.map fun d => D.bl (isAm d)) = some (es.map isAm) := by
          have := boolsOf_map (es.map isAm)
          rw [List.map_map] at this
          exact this
        walk_at "s"
        refine s_endS (Sub.put_new hp) ?_
        have e1 : amtsB n (.tup es) = (decide (es.length = n) && es.all isAm) := rfl
        rw [e1, decide_eq_true (by omega), Bool.true_and] at kk
        rw [all_map]; exact kk
end C
end DL

namespace DL
namespace C
open PySem L2
local macro_rules | `(tactic| walk_at "look") => `(tactic| first
  | assumption
  | exact put_same
  | (refine look_ne (by first | assumption | exact Ne.symm (by assumption)) ?_; walk_at "look")
  | (refine look_new (by assumption) ?_; walk_at "look"))
local macro_rules | `(tactic| walk_at "side") => `(tactic| first | assumption | exact trivial | decide | omega | exact ⟨by assumption, by assumption⟩ | exact ⟨by omega, by omega⟩ | exact ⟨by decide, by decide⟩ | exact ⟨by decide, by decide, by decide⟩ | (exact .inl (.inl ⟨by decide, by decide⟩)) | (exact .inl (.inr ⟨by decide, by decide⟩)) | (exact .inl (.inl ⟨by omega, by omega⟩)) | (exact .inl (.inr ⟨by omega, by omega⟩)))
local macro_rules | `(tactic| walk_at "opt") => `(tactic| first | (with_reducible exact atI_0 _ _) | (with_reducible exact atI_1 _ _ _) | (with_reducible exact atI_2 _ _ _ _) | (with_reducible exact atI_3 _ _ _ _ _) | (with_reducible exact atI_4 _ _ _ _ _ _) | assumption | exact atI_0 _ _ | exact atI_1 _ _ _ | exact atI_2 _ _ _ _ | exact atI_3 _ _ _ _ _ | exact atI_4 _ _ _ _ _ _ | exact boolsOf_map _ | exact intsOf_map _ | exact rfl)
local macro_rules | `(tactic| walk_at "s1") => `(tactic| first
  | ((with_reducible refine' s_var ?k1 ?_); (case k1 => exact rfl))
  | with_reducible refine s_bin ?_
  | with_reducible refine s_c ?_
  | with_reducible refine s_seqM ?_
  | with_reducible refine s_asB ?_
  | with_reducible refine s_asI ?_
  | with_reducible refine s_asRI ?_
  | with_reducible refine s_acons ?_
  | with_reducible refine s_anil ?_
  | with_reducible refine s_call ?_
  | with_reducible refine s_cb ?_
  | with_reducible refine s_set ?_
  | with_reducible refine s_ixT ?_
  | with_reducible refine s_ixL ?_
  | with_reducible refine s_ixS ?_
  | ((with_reducible refine' s_getL ?k1 ?_); (case k1 => walk_at "look"))
  | ((with_reducible refine' s_opt ?k1 ?_); (case k1 => walk_at "opt"))
  | with_reducible refine s_binT ?_
  | with_reducible refine s_tup ?_
  | with_reducible refine s_tpT ?_
  | with_reducible refine s_lst ?_
  | with_reducible refine s_ret ?_
  | with_reducible refine s_if ?_
  | with_reducible refine s_nextM ?_
  | with_reducible refine s_drop ?_
  | with_reducible refine s_par ?_
  | with_reducible refine s_asg ?_
  | with_reducible refine s_gN ?_
  | ((with_reducible refine' s_gT ?k1 ?_); (case k1 => exact rfl))
  | with_reducible refine s_gsC ?_
  | with_reducible refine s_gsN ?_
  | with_reducible refine s_gIx ?_
  | with_reducible refine s_setD ?_
  | with_reducible refine s_for ?_
  | with_reducible refine s_b ?_
  | with_reducible refine s_and ?_
  | with_reducible refine s_or ?_
  | with_reducible refine s_not ?_
  | with_reducible refine s_ife ?_
  | with_reducible refine s_neg ?_
  | with_reducible refine s_notV ?_
  | with_reducible refine s_andV ?_
  | with_reducible refine s_orV ?_
  | with_reducible refine s_isi ?_
  | with_reducible refine s_m ?_
  | with_reducible refine s_none ?_
  | with_reducible refine s_noneT ?_
  | with_reducible refine s_sl ?_
  | with_reducible refine s_oN ?_
  | with_reducible refine s_oS ?_
  | with_reducible refine s_lc ?_
  | with_reducible refine s_bN ?_
  | with_reducible refine s_bT ?_
  | with_reducible refine s_bTC ?_
  | with_reducible refine s_bTN ?_
  | with_reducible refine s_it ?_
  | with_reducible refine s_rng ?_
  | with_reducible refine s_zip ?_
  | with_reducible refine s_zip2 ?_
  | with_reducible refine s_enum ?_
  | with_reducible refine s_enum1 ?_
  | with_reducible refine s_yes ?_
  | with_reducible refine s_cT ?_
  | with_reducible refine s_cF ?_
  | with_reducible refine s_retN ?_
  | with_reducible refine s_try ?_
  | with_reducible refine s_raise0 ?_
  | with_reducible refine s_raise1 ?_
  | with_reducible refine s_isE ?_
  | with_reducible refine s_fld ?_
  | with_reducible refine s_brk ?_
  | with_reducible refine s_cnt ?_
  | ((with_reducible refine' s_aug ?k1 ?_); (case k1 => exact rfl))
  | with_reducible refine s_augix ?_
  | with_reducible refine s_addI ?_
  | ((with_reducible refine' s_addT ?k1 ?_); (case k1 => walk_at "side"))
  | ((with_reducible refine' s_addS ?k1 ?_); (case k1 => walk_at "side"))
  | with_reducible refine s_catL ?_
  | with_reducible refine s_subI ?_
  | ((with_reducible refine' s_mulI ?k1 ?_); (case k1 => walk_at "side"))
  | ((with_reducible refine' s_divI ?k1 ?_); (case k1 => walk_at "side"))
  | ((with_reducible refine' s_modI ?k1 ?_); (case k1 => walk_at "side"))
  | ((with_reducible refine' s_powI ?k1 ?_); (case k1 => walk_at "side"))
  | ((with_reducible refine' s_shlI ?k1 ?_); (case k1 => walk_at "side"))
  | with_reducible refine s_iaddI ?_
  | ((with_reducible refine' s_iaddS ?k1 ?_); (case k1 => walk_at "side"))
  | with_reducible refine s_eqI ?_
  | with_reducible refine s_neI ?_
  | with_reducible refine s_eqS ?_
  | with_reducible refine s_neS ?_
  | with_reducible refine s_eqB ?_
  | with_reducible refine s_neB ?_
  | with_reducible refine s_cmp ?_
  | ((with_reducible refine' s_ixX ?k1 ?_); (case k1 => walk_at "side"))
  | with_reducible refine s_lenT ?_
  | with_reducible refine s_lenL ?_
  | with_reducible refine s_lenC ?_
  | ((with_reducible refine' s_lenS ?k1 ?_); (case k1 => walk_at "side"))
  | with_reducible refine s_abs ?_
  | with_reducible refine s_intI ?_
  | with_reducible refine s_intB ?_
  | with_reducible refine s_gcd ?_
  | with_reducible refine s_listT ?_
  | with_reducible refine s_listL ?_
  | with_reducible refine s_tupT ?_
  | with_reducible refine s_tupL ?_
  | with_reducible refine s_all ?_
  | with_reducible refine s_any ?_
  | with_reducible refine s_sum ?_
  | with_reducible refine s_sumAT ?_
  | with_reducible refine s_sumAL ?_
  | with_reducible refine s_cnT ?_
  | with_reducible refine s_cnF ?_
  | with_reducible refine s_par3 ?_
  | with_reducible refine s_max2 ?_
  | with_reducible refine s_min2 ?_
  | with_reducible refine s_chain ?_
  | with_reducible refine s_chainT ?_
  | with_reducible refine s_inL ?_
  | with_reducible refine s_inT ?_
  | with_reducible refine s_append ?_
  | with_reducible refine s_extend ?_
  | with_reducible refine s_popAt ?_
  | with_reducible refine s_pop ?_
  | with_reducible refine s_slT ?_
  | with_reducible refine s_slL ?_
  | with_reducible refine s_itT ?_
  | with_reducible refine s_itL ?_
  | with_reducible refine s_itC ?_
  | ((with_reducible refine' s_rng1 ?k1 ?_); (case k1 => walk_at "side"))
  | ((with_reducible refine' s_rng2 ?k1 ?_); (case k1 => walk_at "side"))
  | ((with_reducible refine' s_rngD ?k1 ?_); (case k1 => walk_at "side"))
  | ((with_reducible refine' s_isLst ?k1 ?_); (case k1 => walk_at "look"))
  | ((with_reducible refine' s_lstOkL ?k1 ?_); (case k1 => walk_at "look"))
  | ((with_reducible refine' And.intro ?k1 ?_); (case k1 => walk_at "side")))
local macro_rules | `(tactic| walk_at "s") => `(tactic| repeat (walk_at "s1"))
/-! papers of greatest sums: what both judges say -/
def letB (rows : List (List Rat)) (bounds a : List Rat) : Bool := (rows.zip bounds).all fun q => decide (dotQ q.1 a ≤ q.2)
def colQ (rows : List (List Rat)) (k : Nat) : List Rat := rows.map fun r => r.getD k 0
def covB (costs : List Rat) (rows : List (List Rat)) (p : List Rat) : Bool := (List.range costs.length).all fun k => decide (costs.getD k 0 ≤ dotQ (colQ rows k) p)
def bestB (costs : List Rat) (rows : List (List Rat)) (bounds : List Rat) (v a p : D) : Bool :=
  isFr v && (amtsB costs.length a && (amtsB rows.length p && (letB rows bounds (ratsOf a) && (decide (dotQ costs (ratsOf a) = ratOf v) && (covB costs rows (ratsOf p) && decide (dotQ bounds (ratsOf p) = ratOf v))))))
def endB (costs : List Rat) (rows : List (List Rat)) (bounds : List Rat) (a r : D) : Bool :=
  amtsB costs.length a && (amtsB costs.length r && (letB rows bounds (ratsOf a) && ((rows.all fun row => decide (dotQ row (ratsOf r) ≤ 0)) && decide (0 < dotQ costs (ratsOf r)))))
def sBest : Str := PySem.Str.ofString "best"
def sEnd : Str := PySem.Str.ofString "endless"
def showsB (costs : List Rat) (rows : List (List Rat)) (bounds : List Rat) : D → Bool
  | .tup [k, v, a, p] => peq k (.str sBest) && bestB costs rows bounds v a p
  | .tup [k, a, r] => peq k (.str sEnd) && endB costs rows bounds a r
  | _ => false
structure LpOk (kr n m : Nat) (costs : List Rat) (rows : List (List Rat)) (bounds : List Rat) : Prop where
  cl : costs.length = n
  rl : rows.length = m
  bl : bounds.length = m
  rn : ∀ r ∈ rows, r.length = n
  cb : ∀ x ∈ costs, Bits kr x
  rb : ∀ r ∈ rows, ∀ x ∈ r, Bits kr x
  bb : ∀ x ∈ bounds, Bits kr x
structure PapOk (ka : Nat) (d : D) : Prop where
  p : PureD d
  ok : pureOk d = true
  dp : dep d ≤ 60
  ln : ∀ es, d = .tup es → es.length ≤ 1000 ∧ ∀ e ∈ es, ∀ fs, e = .tup fs → fs.length ≤ 1000000
  bt : ∀ es, d = .tup es → ∀ e ∈ es, ∀ fs, e = .tup fs → ∀ f ∈ fs, isFr f = true → Bits ka (ratOf f)
def RowsAt (st : DS) (Rw : D) (rows : List (List Rat)) : Prop := ∃ ps : List (D × List Rat), RowAt st Rw (ps.map Prod.fst) ∧ ps.map Prod.snd = rows ∧ ∀ p ∈ ps, RowAt st p.1 (p.2.map qD)
def tokL (n m k : Nat) : Prop := tok n k ∧ tok m k ∧ 1 + n * k + n ≤ 8900 ∧ 1 + m * k + m ≤ 8900
/-- the law's and the program's way of reading sums -/
def LetSp (kr ka n m : Nat) : SpD := fun ds st R _ => ∃ (Rw B A : D) (costs : List Rat) (rows : List (List Rat)) (bounds a : List Rat), ds = [Rw, B, A] ∧ LpOk kr n m costs rows bounds ∧ tokL n m (kr + ka) ∧ a.length = n ∧ (∀ x ∈ a, Bits ka x) ∧ 0 < kr ∧ 0 < ka ∧
  RowsAt st Rw rows ∧ RowAt st B (bounds.map qD) ∧ RowAt st A (a.map qD) ∧ R (.bl (letB rows bounds a)) st
theorem tokL_n {n m k : Nat} (h : tokL n m k) : n ≤ 8900 ∧ m ≤ 8900 ∧ k ≤ 8900 ∧ tok n k ∧ tok m k := by
  have := h.1; have := h.2.1
  unfold tok at *
  exact ⟨by omega, by omega, by omega, by omega, by omega⟩
theorem _root_.DL.RowAt.new {st : DS} {d : D} {es : List D} (h : RowAt st d es) {p : Addr} (hp : st p = none) (o : OB) : RowAt (DL.put st p o) d es := by
  rcases h with h | ⟨q, rfl, h⟩
  · exact .inl h
  · exact .inr ⟨q, rfl, look_new hp h⟩
theorem _root_.DL.RowAt.sub {st st' : DS} {d : D} {es : List D} (h : RowAt st d es) (s : Sub st st') : RowAt st' d es := by
  rcases h with h | ⟨q, rfl, h⟩
  · exact .inl h
  · exact .inr ⟨q, rfl, s q _ h⟩
theorem RowsAt.sub {st st' : DS} {d : D} {rows : List (List Rat)} (h : RowsAt st d rows) (s : Sub st st') : RowsAt st' d rows := by
  obtain ⟨ps, h1, h2, h3⟩ := h
  exact ⟨ps, h1.sub s, h2, fun p hp => (h3 p hp).sub s⟩
def spLet : SpD := fun ds st R Rx => ∃ kr ka n m, LetSp kr ka n m ds st R Rx
theorem len_let : ∀ ds st R Rx, spLet ds st R Rx → ds.length = 3 := by
  rintro ds st R Rx ⟨_, _, _, _, _, _, _, _, _, _, _, rfl, -⟩; rfl
theorem zip_ps : ∀ (ps : List (D × List Rat)) (b : List Rat), zipD (ps.map Prod.fst) (b.map qD) = (ps.zip b).map fun q => D.tup [q.1.1, qD q.2]
  | [], _ => by simp [zipD]
  | _ :: _, [] => by simp [zipD]
  | x :: r, y :: a => by
    have := zip_ps r a
    unfold zipD at this ⊢
    rw [List.map_cons, List.map_cons, List.zipWith_cons_cons, this]; rfl
theorem zip_snd {ps : List (D × List Rat)} {rows : List (List Rat)} (h : ps.map Prod.snd = rows) (b : List Rat) : rows.zip b = (ps.zip b).map fun q => (q.1.2, q.2) := by
  subst h
  induction ps generalizing b with
  | nil => rfl
  | cons p ps ih =>
    cases b with
    | nil => rfl
    | cons y b => rw [List.map_cons, List.zip_cons_cons, ih b]; rfl
theorem read_let : ∀ ds st R Rx, spLet ds st R Rx → wb_are_let spLess spWgh (bodyEd R Rx) (startD 5 ds) st := by
  rintro ds st R Rx ⟨kr, ka, n, m, Rw, B, A, costs, rows, bounds, a, rfl, ok, tk, al, ab, k0, k1, ⟨ps, hps, eps, hrow⟩, hB, hA, kk⟩
  obtain ⟨n1, m1, kk1, tn, tm⟩ := tokL_n tk
  unfold wb_are_let bodyEd
  walk_at "s"
  refine s_itRow hps fun G g => ⟨g, s_itRow hB fun G2 g2 => ?_⟩
  rw [zip_ps]
  refine for_pre (fun q : (D × List Rat) × Rat => D.tup [q.1.1, qD q.2]) (ps.zip bounds) (fun pre ep T => T = st ∧ (∃ x3 x4, ep = [some Rw, some B, some A, x3, x4]) ∧ ∀ q ∈ pre, dotQ q.1.2 a ≤ q.2) ?_ ?_ ⟨rfl, ⟨_, _, rfl⟩, fun q hq => by cases hq⟩
  · rintro ep T ⟨rfl, ⟨x3, x4, rfl⟩, hall⟩
    refine ⟨⟨g, g2⟩, ?_⟩
    walk_at "s"
    refine s_end ?_
    have : letB rows bounds a = true := by
      unfold letB
      rw [zip_snd eps, List.all_eq_true]
      intro q hq
      obtain ⟨z, hz, rfl⟩ := List.mem_map.mp hq
      exact decide_eq_true (hall z hz)
    rw [this] at kk; exact kk
  · rintro K pre q rest ep T e ⟨rfl, ⟨x3, x4, rfl⟩, hall⟩ ih
    have hq : q ∈ ps.zip bounds := by rw [e]; simp
    obtain ⟨h1, h2⟩ := List.of_mem_zip (l₁ := ps) (l₂ := bounds) (a := q.1) (b := q.2) hq
    have hr2 : q.1.2 ∈ rows := by rw [← eps]; exact List.mem_map.mpr ⟨_, h1, rfl⟩
    refine ⟨⟨g, g2⟩, ?_⟩
    walk_at "s"
    refine ⟨_, _, q.1.2, a, kr, ka, rfl, hrow _ h1, hA, by rw [ok.rn _ hr2, al], ok.rb _ hr2, ab, by rw [ok.rn _ hr2]; exact tn, fun bd => ?_⟩
    walk_at "s"
    refine less_q (ok.bb _ h2) bd (by rw [ok.rn _ hr2]; have := tok_b tn; omega) ?_
    walk_at "s"
    refine s_dec (fun hlt => ?_) (fun hge => ?_)
    · walk_at "s"
      refine s_end ?_
      have : letB rows bounds a = false := by
        unfold letB
        rw [zip_snd eps, List.all_eq_false]
        exact ⟨(q.1.2, q.2), List.mem_map.mpr ⟨q, hq, rfl⟩, by
          rw [decide_eq_false (fun z => Rat.not_lt.mpr z hlt)]; exact Bool.false_ne_true⟩
      rw [this] at kk; exact kk
    · walk_at "s"
      refine ih _ _ ⟨rfl, ⟨_, _, rfl⟩, fun z hz => ?_⟩
      rcases List.mem_append.mp hz with hz | hz
      · exact hall z hz
      · rw [List.mem_singleton.mp hz]; exact Rat.not_lt.mp hge
theorem range_all {α β : Type} {l : List α} {b : List β} {f : α × β → Bool} {g : Nat → Bool} (hl : l.length = b.length) (h : ∀ i x y, l[i]? = some x → b[i]? = some y → g i = f (x, y)) : (List.range l.length).all g = (l.zip b).all f := by
  rw [Bool.eq_iff_iff, List.all_eq_true, List.all_eq_true]
  constructor
  · intro H q hq
    obtain ⟨i, hi⟩ := List.mem_iff_getElem?.mp hq
    rw [List.getElem?_zip_eq_some] at hi
    have hil : i < l.length := by
      rcases Nat.lt_or_ge i l.length with h | h
      · exact h
      · rw [List.getElem?_eq_none h] at hi; cases hi.1
    rw [← h i q.1 q.2 hi.1 hi.2]
    exact H i (List.mem_range.mpr hil)
  · intro H i hi
    have hil := List.mem_range.mp hi
    have e1 := List.getElem?_eq_getElem hil
    have e2 := List.getElem?_eq_getElem (l := b) (i := i) (by omega)
    rw [h i _ _ e1 e2]
    exact H _ (List.mem_iff_getElem?.mpr ⟨i, by rw [List.getElem?_zip_eq_some]; exact ⟨e1, e2⟩⟩)
theorem read_law_let : ∀ ds st R Rx, spLet ds st R Rx → wb_law_are_let spLess spDot (bodyEd R Rx) (startD 4 ds) st := by
  rintro ds st R Rx ⟨kr, ka, n, m, Rw, B, A, costs, rows, bounds, a, rfl, ok, tk, al, ab, k0, k1, ⟨ps, hps, eps, hrow⟩, hB, hA, kk⟩
  obtain ⟨n1, m1, kk1, tn, tm⟩ := tokL_n tk
  have hpl : ps.length = m := by rw [← ok.rl, ← eps, len_map]
  unfold wb_law_are_let bodyEd
  walk_at "s"
  refine s_lenRow hps ?_
  rw [len_map]
  walk_at "s"
  rw [Int.toNat_natCast]
  refine lc_rng ps.length (fun j acc T => T = st ∧ acc = ((List.range j).map fun i => decide (dotQ (rows.getD i []) a ≤ bounds.getD i 0)).map D.bl) ?_ ?_ ⟨rfl, rfl⟩
  · rintro acc T ⟨rfl, rfl⟩
    refine ⟨trivial, ?_⟩
    intro p hp
    walk_at "s"
    refine s_endS (Sub.put_new hp) ?_
    have : letB rows bounds a = (((List.range ps.length).map fun i => decide (dotQ (rows.getD i []) a ≤ bounds.getD i 0)).all fun b => b) := by
      rw [all_map, hpl, ← ok.rl]
      unfold letB
      refine (range_all (by rw [ok.rl, ok.bl]) fun i x y h1 h2 => ?_).symm
      rw [List.getD_eq_getElem?_getD, List.getD_eq_getElem?_getD, h1, h2]; rfl
    rw [this] at kk; exact kk
  · rintro K j acc T hj ⟨rfl, rfl⟩ ih
    refine ⟨trivial, ?_⟩
    have hjr : j < rows.length := by rw [ok.rl]; omega
    have e1 : rows.getD j [] ∈ rows := by rw [List.getD_eq_getElem?_getD, List.getElem?_eq_getElem hjr]; exact List.getElem_mem _
    have hjb : j < bounds.length := by rw [ok.bl]; omega
    have e3 := getD_mem hjb
    have e2 := List.mem_of_getElem? e3
    have e4 := atI_map (f := qD) e3
    have hpj : ps[j]? = some ps[j] := List.getElem?_eq_getElem hj
    have e5 := atI_map (f := Prod.fst) hpj
    have e6 : ps[j].2 = rows.getD j [] := by
      rw [List.getD_eq_getElem?_getD, ← eps, List.getElem?_map, hpj]; rfl
    have hrj := hrow _ (List.getElem_mem hj)
    rw [e6] at hrj
    walk_at "s"
    refine s_ixRow hB ?_
    refine s_opt e4 ?_
    walk_at "s"
    refine s_ixRow hps ?_
    refine s_opt e5 ?_
    walk_at "s"
    have hrl := ok.rn _ e1
    have b1 := SB_le (fun x hx => bz_le k0 (ok.rb _ e1 x hx))
    have b2 := SB_le (fun x hx => bz_le k1 (ab x hx))
    have t3 := tk.2.2.1
    rw [hrl] at b1
    rw [al] at b2
    rw [Nat.mul_add] at t3
    refine ⟨_, _, rows.getD j [], a, rfl, hrj, hA, by omega, by omega, by omega, fun bd => ?_⟩
    walk_at "s"
    refine less_q (ok.bb _ e2) bd (by omega) ?_
    walk_at "s"
    refine ⟨by rw [len_map, len_map, List.length_range]; show _ < 2 ^ 24; omega, ih _ _ ⟨rfl, ?_⟩⟩
    rw [List.range_succ, List.map_append, List.map_append]
    congr 1
    show [D.bl _] = [D.bl _]
    congr 2
    rw [← decide_not]
    exact decide_eq_decide.mpr Rat.not_lt
end C
end DL

namespace DL
namespace C
open PySem L2
local macro_rules | `(tactic| walk_at "look") => `(tactic| first
  | assumption
  | exact put_same
  | (refine look_ne (by first | assumption | exact Ne.symm (by assumption)) ?_; walk_at "look")
  | (refine look_new (by assumption) ?_; walk_at "look"))
local macro_rules | `(tactic| walk_at "side") => `(tactic| first | assumption | exact trivial | decide | omega | exact ⟨by assumption, by assumption⟩ | exact ⟨by omega, by omega⟩ | exact ⟨by decide, by decide⟩ | exact ⟨by decide, by decide, by decide⟩ | (exact .inl (.inl ⟨by decide, by decide⟩)) | (exact .inl (.inr ⟨by decide, by decide⟩)) | (exact .inl (.inl ⟨by omega, by omega⟩)) | (exact .inl (.inr ⟨by omega, by omega⟩)))
local macro_rules | `(tactic| walk_at "opt") => `(tactic| first | (with_reducible exact atI_0 _ _) | (with_reducible exact atI_1 _ _ _) | (with_reducible exact atI_2 _ _ _ _) | (with_reducible exact atI_3 _ _ _ _ _) | (with_reducible exact atI_4 _ _ _ _ _ _) | assumption | exact atI_0 _ _ | exact atI_1 _ _ _ | exact atI_2 _ _ _ _ | exact atI_3 _ _ _ _ _ | exact atI_4 _ _ _ _ _ _ | exact boolsOf_map _ | exact intsOf_map _ | exact rfl)
local macro_rules | `(tactic| walk_at "s1") => `(tactic| first
  | ((with_reducible refine' s_var ?k1 ?_); (case k1 => exact rfl))
  | with_reducible refine s_bin ?_
  | with_reducible refine s_c ?_
  | with_reducible refine s_seqM ?_
  | with_reducible refine s_asB ?_
  | with_reducible refine s_asI ?_
  | with_reducible refine s_asRI ?_
  | with_reducible refine s_acons ?_
  | with_reducible refine s_anil ?_
  | with_reducible refine s_call ?_
  | with_reducible refine s_cb ?_
  | with_reducible refine s_set ?_
  | with_reducible refine s_ixT ?_
  | with_reducible refine s_ixL ?_
  | with_reducible refine s_ixS ?_
  | ((with_reducible refine' s_getL ?k1 ?_); (case k1 => walk_at "look"))
  | ((with_reducible refine' s_opt ?k1 ?_); (case k1 => walk_at "opt"))
  | with_reducible refine s_binT ?_
  | with_reducible refine s_tup ?_
  | with_reducible refine s_tpT ?_
  | with_reducible refine s_lst ?_
  | with_reducible refine s_ret ?_
  | with_reducible refine s_if ?_
  | with_reducible refine s_nextM ?_
  | with_reducible refine s_drop ?_
  | with_reducible refine s_par ?_
  | with_reducible refine s_asg ?_
  | with_reducible refine s_gN ?_
  | ((with_reducible refine' s_gT ?k1 ?_); (case k1 => exact rfl))
  | with_reducible refine s_gsC ?_
  | with_reducible refine s_gsN ?_
  | with_reducible refine s_gIx ?_
  | with_reducible refine s_setD ?_
  | with_reducible refine s_for ?_
  | with_reducible refine s_b ?_
  | with_reducible refine s_and ?_
  | with_reducible refine s_or ?_
  | with_reducible refine s_not ?_
  | with_reducible refine s_ife ?_
  | with_reducible refine s_neg ?_
  | with_reducible refine s_notV ?_
  | with_reducible refine s_andV ?_
  | with_reducible refine s_orV ?_
  | with_reducible refine s_isi ?_
  | with_reducible refine s_m ?_
  | with_reducible refine s_none ?_
  | with_reducible refine s_noneT ?_
  | with_reducible refine s_sl ?_
  | with_reducible refine s_oN ?_
  | with_reducible refine s_oS ?_
  | with_reducible refine s_lc ?_
  | with_reducible refine s_bN ?_
  | with_reducible refine s_bT ?_
  | with_reducible refine s_bTC ?_
  | with_reducible refine s_bTN ?_
  | with_reducible refine s_it ?_
  | with_reducible refine s_rng ?_
  | with_reducible refine s_zip ?_
  | with_reducible refine s_zip2 ?_
  | with_reducible refine s_enum ?_
  | with_reducible refine s_enum1 ?_
  | with_reducible refine s_yes ?_
  | with_reducible refine s_cT ?_
  | with_reducible refine s_cF ?_
  | with_reducible refine s_retN ?_
  | with_reducible refine s_try ?_
  | with_reducible refine s_raise0 ?_
  | with_reducible refine s_raise1 ?_
  | with_reducible refine s_isE ?_
  | with_reducible refine s_fld ?_
  | with_reducible refine s_brk ?_
  | with_reducible refine s_cnt ?_
  | ((with_reducible refine' s_aug ?k1 ?_); (case k1 => exact rfl))
  | with_reducible refine s_augix ?_
  | with_reducible refine s_addI ?_
  | ((with_reducible refine' s_addT ?k1 ?_); (case k1 => walk_at "side"))
  | ((with_reducible refine' s_addS ?k1 ?_); (case k1 => walk_at "side"))
  | with_reducible refine s_catL ?_
  | with_reducible refine s_subI ?_
  | ((with_reducible refine' s_mulI ?k1 ?_); (case k1 => walk_at "side"))
  | ((with_reducible refine' s_divI ?k1 ?_); (case k1 => walk_at "side"))
  | ((with_reducible refine' s_modI ?k1 ?_); (case k1 => walk_at "side"))
  | ((with_reducible refine' s_powI ?k1 ?_); (case k1 => walk_at "side"))
  | ((with_reducible refine' s_shlI ?k1 ?_); (case k1 => walk_at "side"))
  | with_reducible refine s_iaddI ?_
  | ((with_reducible refine' s_iaddS ?k1 ?_); (case k1 => walk_at "side"))
  | with_reducible refine s_eqI ?_
  | with_reducible refine s_neI ?_
  | with_reducible refine s_eqS ?_
  | with_reducible refine s_neS ?_
  | with_reducible refine s_eqB ?_
  | with_reducible refine s_neB ?_
  | with_reducible refine s_cmp ?_
  | ((with_reducible refine' s_ixX ?k1 ?_); (case k1 => walk_at "side"))
  | with_reducible refine s_lenT ?_
  | with_reducible refine s_lenL ?_
  | with_reducible refine s_lenC ?_
  | ((with_reducible refine' s_lenS ?k1 ?_); (case k1 => walk_at "side"))
  | with_reducible refine s_abs ?_
  | with_reducible refine s_intI ?_
  | with_reducible refine s_intB ?_
  | with_reducible refine s_gcd ?_
  | with_reducible refine s_listT ?_
  | with_reducible refine s_listL ?_
  | with_reducible refine s_tupT ?_
  | with_reducible refine s_tupL ?_
  | with_reducible refine s_all ?_
  | with_reducible refine s_any ?_
  | with_reducible refine s_sum ?_
  | with_reducible refine s_sumAT ?_
  | with_reducible refine s_sumAL ?_
  | with_reducible refine s_cnT ?_
  | with_reducible refine s_cnF ?_
  | with_reducible refine s_par3 ?_
  | with_reducible refine s_max2 ?_
  | with_reducible refine s_min2 ?_
  | with_reducible refine s_chain ?_
  | with_reducible refine s_chainT ?_
  | with_reducible refine s_inL ?_
  | with_reducible refine s_inT ?_
  | with_reducible refine s_append ?_
  | with_reducible refine s_extend ?_
  | with_reducible refine s_popAt ?_
  | with_reducible refine s_pop ?_
  | with_reducible refine s_slT ?_
  | with_reducible refine s_slL ?_
  | with_reducible refine s_itT ?_
  | with_reducible refine s_itL ?_
  | with_reducible refine s_itC ?_
  | ((with_reducible refine' s_rng1 ?k1 ?_); (case k1 => walk_at "side"))
  | ((with_reducible refine' s_rng2 ?k1 ?_); (case k1 => walk_at "side"))
  | ((with_reducible refine' s_rngD ?k1 ?_); (case k1 => walk_at "side"))
  | ((with_reducible refine' s_isLst ?k1 ?_); (case k1 => walk_at "look"))
  | ((with_reducible refine' s_lstOkL ?k1 ?_); (case k1 => walk_at "look"))
  | ((with_reducible refine' And.intro ?k1 ?_); (case k1 => walk_at "side")))
local macro_rules | `(tactic| walk_at "s") => `(tactic| repeat (walk_at "s1"))
theorem lk_set_ne {ep : DE} {i j : Nat} {d : Option D} (h : i ≠ j) : lk (ep.set i d) j = lk ep j := by
  unfold lk
  rw [List.getElem?_set_ne h]
theorem lk_set_self {ep : DE} {i : Nat} {d : Option D} (h : i < ep.length) : lk (ep.set i d) i = d := by
  unfold lk
  rw [List.getElem?_set_self h]; rfl
theorem col_lc {ep0 : DE} {st : DS} {G : DS → Prop} {KK : List D → DS → Prop} {ps : List (D × List Rat)} {n at' : Nat} (g : G st) (hrow : ∀ p ∈ ps, RowAt st p.1 (p.2.map qD)) (hn : ∀ p ∈ ps, p.2.length = n) (hat : at' < n) (h8 : 8 < ep0.length) (h7 : lk ep0 7 = some (.int (at' : Int))) (hl : ps.length ≤ 1000000) (h : KK ((colQ (ps.map Prod.snd) at').map qD) st) :
    lcL (bN 8) ep0 wYes (wBin ixD (wVar 8) (wVar 7)) G KK (ps.map Prod.fst) [] st := by
  refine lc_pre Prod.fst ps (fun pre acc T => T = st ∧ acc = (colQ (pre.map Prod.snd) at').map qD) ?_ ?_ ⟨rfl, rfl⟩
  · rintro acc T ⟨rfl, rfl⟩
    exact ⟨g, h⟩
  · rintro K pre p r acc T e ⟨rfl, rfl⟩ ih
    refine ⟨g, ?_⟩
    have hp : p ∈ ps := by rw [e]; simp
    have hpl : pre.length < ps.length := by rw [e]; simp
    have e1 := atI_map (f := qD) (getD_mem (l := p.2) (j := at') (by rw [hn p hp]; exact hat))
    refine s_bN (s_yes (s_cT (s_bin (s_var (lk_set_self h8) (s_var ((lk_set_ne (by decide)).trans h7) (s_ixRow (hrow p hp) (s_opt e1 ⟨?_, ih _ _ ⟨rfl, ?_⟩⟩)))))))
    · rw [len_map]; unfold colQ; rw [len_map, len_map]; show _ < 2 ^ 24; omega
    · unfold colQ; rw [List.map_append, List.map_append, List.map_append]; rfl
structure LpAt (st : DS) (C Rw B : D) (costs : List Rat) (rows : List (List Rat)) (bounds : List Rat) : Prop where
  c : RowAt st C (costs.map qD)
  r : RowsAt st Rw rows
  b : RowAt st B (bounds.map qD)
structure LpS (st : DS) (kr ka n m : Nat) (C Rw B : D) (costs : List Rat) (rows : List (List Rat)) (bounds : List Rat) (d : D) : Prop where
  ok : LpOk kr n m costs rows bounds
  tk : tokL n m (kr + ka)
  k0 : 0 < kr
  k1 : 0 < ka
  ws : LpAt st C Rw B costs rows bounds
  pp : PapOk ka d
theorem LpAt.sub {st st' : DS} {C Rw B : D} {costs : List Rat} {rows : List (List Rat)} {bounds : List Rat} (h : LpAt st C Rw B costs rows bounds) (s : Sub st st') : LpAt st' C Rw B costs rows bounds := ⟨h.c.sub s, h.r.sub s, h.b.sub s⟩
def spShBest : SpD := fun ds st R _ => ∃ kr ka n m C Rw B costs rows bounds k v a p, ds = [C, Rw, B, .tup [k, v, a, p]] ∧ LpS st kr ka n m C Rw B costs rows bounds (.tup [k, v, a, p]) ∧ R (.bl (bestB costs rows bounds v a p)) st
theorem len_shbest : ∀ ds st R Rx, spShBest ds st R Rx → ds.length = 4 := by
  rintro ds st R Rx ⟨_, _, _, _, _, _, _, _, _, _, _, _, _, _, rfl, -⟩; rfl
def spShEnd : SpD := fun ds st R _ => ∃ kr ka n m C Rw B costs rows bounds k a r, ds = [C, Rw, B, .tup [k, a, r]] ∧ LpS st kr ka n m C Rw B costs rows bounds (.tup [k, a, r]) ∧ R (.bl (endB costs rows bounds a r)) st
theorem len_shend : ∀ ds st R Rx, spShEnd ds st R Rx → ds.length = 4 := by
  rintro ds st R Rx ⟨_, _, _, _, _, _, _, _, _, _, _, _, _, rfl, -⟩; rfl
theorem PapOk.amts {ka n : Nat} {es : List D} {d : D} (h : PapOk ka (.tup es)) (hd : d ∈ es) (e : amtsB n d = true) : d = .tup ((ratsOf d).map qD) ∧ (ratsOf d).length = n ∧ ∀ x ∈ ratsOf d, Bits ka x := by
  obtain ⟨h1, h2, h3⟩ := amts_inv e
  refine ⟨h1, h2, fun x hx => ?_⟩
  have := h.bt es rfl d hd _ h1 (qD x) (List.mem_map.mpr ⟨x, hx, rfl⟩) (isFr_q x)
  rw [ratOf_q] at this; exact this
theorem PapOk.am {ka n : Nat} {es : List D} {d : D} {st : DS} {R : RD} {Rx : RX} (h : PapOk ka (.tup es)) (hd : d ∈ es) (k : R (.bl (amtsB n d)) st) : spAmts [d, .int (n : Int)] st R Rx :=
  ⟨d, n, rfl, h.p.mem d hd, fun fs e => (h.ln es rfl).2 d hd fs e, k⟩
theorem PapOk.fr {ka : Nat} {es : List D} {d : D} {st : DS} {R : RD} {Rx : RX} (h : PapOk ka (.tup es)) (hd : d ∈ es) (k : R (.bl (isFr d)) st) : spIsFr [d] st R Rx :=
  ⟨d, rfl, (h.p.mem d hd).nr, (h.p.mem d hd).two, k⟩
theorem pureOk_q (x : Rat) : pureOk (qD x) = true := rfl
theorem noB_q (x : Rat) : noB (qD x) = true := rfl
theorem dep_q (x : Rat) : dep (qD x) ≤ 64 := by
  show max 0 (max 0 0) + 1 ≤ 64
  decide
theorem qD_inj {x y : Rat} : qD x = qD y ↔ x = y := ⟨fun h => by
  have := congrArg ratOf h
  rwa [ratOf_q, ratOf_q] at this, fun h => by rw [h]⟩
theorem peq_q (x y : Rat) : peq (qD x) (qD y) = decide (x = y) := peq_dec (pureOk_q x) (noB_q x) (noB_q y) qD_inj
theorem s_eqQ {x y : Rat} {st : DS} {R : RD} (h : R (.bl (decide (x = y))) st) : eqD (qD x) (qD y) st R := s_eqP (pureOk_q x) (pureOk_q y) (dep_q x) (dep_q y) (by rw [peq_q]; exact h)
theorem s_neQ {x y : Rat} {st : DS} {R : RD} (h : R (.bl (!decide (x = y))) st) : neD (qD x) (qD y) st R := s_neP (pureOk_q x) (pureOk_q y) (dep_q x) (dep_q y) (by rw [peq_q]; exact h)
theorem cov_false {costs : List Rat} {rows : List (List Rat)} {p : List Rat} {j : Nat} (hj : j < costs.length) (h : dotQ (colQ rows j) p < costs.getD j 0) : covB costs rows p = false := by
  unfold covB
  rw [List.all_eq_false]
  exact ⟨j, List.mem_range.mpr hj, by rw [decide_eq_false (fun z => Rat.not_lt.mpr z h)]; exact Bool.false_ne_true⟩
theorem cov_true {costs : List Rat} {rows : List (List Rat)} {p : List Rat} (h : ∀ j, j < costs.length → costs.getD j 0 ≤ dotQ (colQ rows j) p) : covB costs rows p = true := by
  unfold covB
  rw [List.all_eq_true]
  exact fun j hj => decide_eq_true (h j (List.mem_range.mp hj))
theorem read_shows_best : ∀ ds st R Rx, spShBest ds st R Rx → wb_shows_best spIsFr spAmts spLet spWgh spLess (bodyEd R Rx) (startD 9 ds) st := by
  rintro ds st R Rx ⟨kr, ka, n, m, C, Rw, B, costs, rows, bounds, k, v, a, p, rfl, S, kk⟩
  have ok := S.ok
  obtain ⟨n1, m1, kk1, tn, tm⟩ := tokL_n S.tk
  have hcl := ok.cl
  have hrl := ok.rl
  have hbl := ok.bl
  obtain ⟨ps, hps, eps, hrow⟩ := S.ws.r
  have hpl : ps.length = m := by rw [← hrl, ← eps, len_map]
  unfold wb_shows_best bodyEd
  walk_at "s"
  refine S.pp.fr (by simp) ?_
  walk_at "s"
  cases e1 : isFr v with
  | false =>
    walk_at "s"
    have : bestB costs rows bounds v a p = false := by simp [bestB, e1]
    rw [this] at kk; exact s_end kk
  | true =>
  walk_at "s"
  refine s_lenRow S.ws.c ?_
  rw [len_map]
  walk_at "s"
  refine S.pp.am (by simp) ?_
  walk_at "s"
  cases e2 : amtsB costs.length a with
  | false =>
    walk_at "s"
    have : bestB costs rows bounds v a p = false := by simp [bestB, e1, e2]
    rw [this] at kk; exact s_end kk
  | true =>
  walk_at "s"
  refine s_lenRow hps ?_
  rw [len_map, hpl, ← hrl]
  walk_at "s"
  refine S.pp.am (by simp) ?_
  walk_at "s"
  cases e3 : amtsB rows.length p with
  | false =>
    walk_at "s"
    have : bestB costs rows bounds v a p = false := by simp [bestB, e1, e2, e3]
    rw [this] at kk; exact s_end kk
  | true =>
  have ev := isFr_inv e1
  obtain ⟨ea, al, ab⟩ := S.pp.amts (by simp) e2
  obtain ⟨ep, pl, pb⟩ := S.pp.amts (by simp) e3
  have rA : RowAt st a ((ratsOf a).map qD) := .inl ea
  have rP : RowAt st p ((ratsOf p).map qD) := .inl ep
  walk_at "s"
  refine ⟨kr, ka, n, m, _, _, _, costs, rows, bounds, ratsOf a, rfl, ok, S.tk, by omega, ab, S.k0, S.k1, S.ws.r, S.ws.b, rA, ?_⟩
  walk_at "s"
  cases e4 : letB rows bounds (ratsOf a) with
  | false =>
    walk_at "s"
    have : bestB costs rows bounds v a p = false := by simp [bestB, e1, e2, e3, e4]
    rw [this] at kk; exact s_end kk
  | true =>
  walk_at "s"
  refine ⟨_, _, costs, ratsOf a, kr, ka, rfl, S.ws.c, rA, by omega, ok.cb, ab, by rw [hcl]; exact tn, fun _ => ?_⟩
  walk_at "s"
  rw [ev]
  refine s_neQ ?_
  walk_at "s"
  refine s_ndec (fun hne => ?_) (fun he => ?_)
  · walk_at "s"
    have : bestB costs rows bounds v a p = false := by simp [bestB, e1, e2, e3, e4, hne]
    rw [this] at kk; exact s_end kk
  walk_at "s"
  refine s_lenRow S.ws.c ?_
  rw [len_map]
  walk_at "s"
  rw [Int.toNat_natCast]
  refine for_rng costs.length (fun j ep T => (∃ x7, ep = [some C, some Rw, some B, some (.tup [k, qD (ratOf v), a, p]), some (qD (ratOf v)), some a, some p, x7, none]) ∧ Sub st T ∧ ∀ i, i < j → costs.getD i 0 ≤ dotQ (colQ rows i) (ratsOf p)) ?_ ?_ ⟨⟨_, by rw [← ev]; rfl⟩, Sub.refl st, fun i hi => absurd hi (Nat.not_lt_zero i)⟩
  · rintro ep T ⟨⟨x7, rfl⟩, sT, hall⟩
    refine ⟨trivial, ?_⟩
    walk_at "s"
    have rB := S.ws.b.sub sT
    have rP' := rP.sub sT
    refine ⟨_, _, bounds, ratsOf p, kr, ka, rfl, rB, rP', by omega, ok.bb, pb, by rw [hbl]; exact tm, fun _ => ?_⟩
    walk_at "s"
    refine s_eqQ ?_
    refine s_endS sT ?_
    have : bestB costs rows bounds v a p = decide (dotQ bounds (ratsOf p) = ratOf v) := by simp [bestB, e1, e2, e3, e4, he, cov_true hall]
    rw [this] at kk; exact kk
  · rintro K j ep T hj ⟨⟨x7, rfl⟩, sT, hall⟩ ih
    refine ⟨trivial, ?_⟩
    walk_at "s"
    refine s_itRow (hps.sub sT) fun G g => ?_
    refine col_lc g (fun q hq => (hrow q hq).sub sT) (fun q hq => ok.rn _ (by rw [← eps]; exact List.mem_map.mpr ⟨q, hq, rfl⟩)) (by rw [← hcl]; exact hj) (show 8 < 9 by decide) rfl (by omega) ?_
    rw [eps]
    intro u hu
    walk_at "s"
    have hcol : (colQ rows j).length = m := by unfold colQ; rw [len_map, hrl]
    have bcol : ∀ x ∈ colQ rows j, Bits kr x := fun x hx => by
      obtain ⟨r, hr, rfl⟩ := List.mem_map.mp hx
      exact ok.rb r hr _ (List.mem_of_getElem? (getD_mem (by rw [ok.rn r hr, ← hcl]; exact hj)))
    have s2 := sT.trans (Sub.put_new (o := .lst ((colQ rows j).map qD)) hu)
    refine ⟨_, _, colQ rows j, ratsOf p, kr, ka, rfl, .inr ⟨u, rfl, put_same⟩, rP.sub s2, by omega, bcol, pb, by rw [hcol]; exact tm, fun bd => ?_⟩
    walk_at "s"
    have ec := getD_mem hj
    refine s_ixRow (S.ws.c.sub s2) ?_
    refine s_opt (atI_map (f := qD) ec) ?_
    walk_at "s"
    refine less_q bd (ok.cb _ (List.mem_of_getElem? ec)) (by rw [hcol]; have := tok_b tm; omega) ?_
    walk_at "s"
    refine s_dec (fun hlt => ?_) (fun hge => ?_)
    · walk_at "s"
      have : bestB costs rows bounds v a p = false := by simp [bestB, e1, e2, e3, e4, cov_false hj hlt]
      rw [this] at kk; exact s_endS s2 kk
    · walk_at "s"
      refine ih _ _ ⟨⟨_, rfl⟩, s2, fun i hi => ?_⟩
      rcases Nat.lt_succ_iff_lt_or_eq.mp hi with h | rfl
      · exact hall i h
      · exact Rat.not_lt.mp hge
end C
end DL

namespace DL
namespace C
open PySem L2
local macro_rules | `(tactic| walk_at "look") => `(tactic| first
  | assumption
  | exact put_same
  | (refine look_ne (by first | assumption | exact Ne.symm (by assumption)) ?_; walk_at "look")
  | (refine look_new (by assumption) ?_; walk_at "look"))
local macro_rules | `(tactic| walk_at "side") => `(tactic| first | assumption | exact trivial | decide | omega | exact ⟨by assumption, by assumption⟩ | exact ⟨by omega, by omega⟩ | exact ⟨by decide, by decide⟩ | exact ⟨by decide, by decide, by decide⟩ | (exact .inl (.inl ⟨by decide, by decide⟩)) | (exact .inl (.inr ⟨by decide, by decide⟩)) | (exact .inl (.inl ⟨by omega, by omega⟩)) | (exact .inl (.inr ⟨by omega, by omega⟩)))
local macro_rules | `(tactic| walk_at "opt") => `(tactic| first | (with_reducible exact atI_0 _ _) | (with_reducible exact atI_1 _ _ _) | (with_reducible exact atI_2 _ _ _ _) | (with_reducible exact atI_3 _ _ _ _ _) | (with_reducible exact atI_4 _ _ _ _ _ _) | assumption | exact atI_0 _ _ | exact atI_1 _ _ _ | exact atI_2 _ _ _ _ | exact atI_3 _ _ _ _ _ | exact atI_4 _ _ _ _ _ _ | exact boolsOf_map _ | exact intsOf_map _ | exact rfl)
local macro_rules | `(tactic| walk_at "s1") => `(tactic| first
  | ((with_reducible refine' s_var ?k1 ?_); (case k1 => exact rfl))
  | with_reducible refine s_bin ?_
  | with_reducible refine s_c ?_
  | with_reducible refine s_seqM ?_
  | with_reducible refine s_asB ?_
  | with_reducible refine s_asI ?_
  | with_reducible refine s_asRI ?_
  | with_reducible refine s_acons ?_
  | with_reducible refine s_anil ?_
  | with_reducible refine s_call ?_
  | with_reducible refine s_cb ?_
  | with_reducible refine s_set ?_
  | with_reducible refine s_ixT ?_
  | with_reducible refine s_ixL ?_
  | with_reducible refine s_ixS ?_
  | ((with_reducible refine' s_getL ?k1 ?_); (case k1 => walk_at "look"))
  | ((with_reducible refine' s_opt ?k1 ?_); (case k1 => walk_at "opt"))
  | with_reducible refine s_binT ?_
  | with_reducible refine s_tup ?_
  | with_reducible refine s_tpT ?_
  | with_reducible refine s_lst ?_
  | with_reducible refine s_ret ?_
  | with_reducible refine s_if ?_
  | with_reducible refine s_nextM ?_
  | with_reducible refine s_drop ?_
  | with_reducible refine s_par ?_
  | with_reducible refine s_asg ?_
  | with_reducible refine s_gN ?_
  | ((with_reducible refine' s_gT ?k1 ?_); (case k1 => exact rfl))
  | with_reducible refine s_gsC ?_
  | with_reducible refine s_gsN ?_
  | with_reducible refine s_gIx ?_
  | with_reducible refine s_setD ?_
  | with_reducible refine s_for ?_
  | with_reducible refine s_b ?_
  | with_reducible refine s_and ?_
  | with_reducible refine s_or ?_
  | with_reducible refine s_not ?_
  | with_reducible refine s_ife ?_
  | with_reducible refine s_neg ?_
  | with_reducible refine s_notV ?_
  | with_reducible refine s_andV ?_
  | with_reducible refine s_orV ?_
  | with_reducible refine s_isi ?_
  | with_reducible refine s_m ?_
  | with_reducible refine s_none ?_
  | with_reducible refine s_noneT ?_
  | with_reducible refine s_sl ?_
  | with_reducible refine s_oN ?_
  | with_reducible refine s_oS ?_
  | with_reducible refine s_lc ?_
  | with_reducible refine s_bN ?_
  | with_reducible refine s_bT ?_
  | with_reducible refine s_bTC ?_
  | with_reducible refine s_bTN ?_
  | with_reducible refine s_it ?_
  | with_reducible refine s_rng ?_
  | with_reducible refine s_zip ?_
  | with_reducible refine s_zip2 ?_
  | with_reducible refine s_enum ?_
  | with_reducible refine s_enum1 ?_
  | with_reducible refine s_yes ?_
  | with_reducible refine s_cT ?_
  | with_reducible refine s_cF ?_
  | with_reducible refine s_retN ?_
  | with_reducible refine s_try ?_
  | with_reducible refine s_raise0 ?_
  | with_reducible refine s_raise1 ?_
  | with_reducible refine s_isE ?_
  | with_reducible refine s_fld ?_
  | with_reducible refine s_brk ?_
  | with_reducible refine s_cnt ?_
  | ((with_reducible refine' s_aug ?k1 ?_); (case k1 => exact rfl))
  | with_reducible refine s_augix ?_
  | with_reducible refine s_addI ?_
  | ((with_reducible refine' s_addT ?k1 ?_); (case k1 => walk_at "side"))
  | ((with_reducible refine' s_addS ?k1 ?_); (case k1 => walk_at "side"))
  | with_reducible refine s_catL ?_
  | with_reducible refine s_subI ?_
  | ((with_reducible refine' s_mulI ?k1 ?_); (case k1 => walk_at "side"))
  | ((with_reducible refine' s_divI ?k1 ?_); (case k1 => walk_at "side"))
  | ((with_reducible refine' s_modI ?k1 ?_); (case k1 => walk_at "side"))
  | ((with_reducible refine' s_powI ?k1 ?_); (case k1 => walk_at "side"))
  | ((with_reducible refine' s_shlI ?k1 ?_); (case k1 => walk_at "side"))
  | with_reducible refine s_iaddI ?_
  | ((with_reducible refine' s_iaddS ?k1 ?_); (case k1 => walk_at "side"))
  | with_reducible refine s_eqI ?_
  | with_reducible refine s_neI ?_
  | with_reducible refine s_eqS ?_
  | with_reducible refine s_neS ?_
  | with_reducible refine s_eqB ?_
  | with_reducible refine s_neB ?_
  | with_reducible refine s_cmp ?_
  | ((with_reducible refine' s_ixX ?k1 ?_); (case k1 => walk_at "side"))
  | with_reducible refine s_lenT ?_
  | with_reducible refine s_lenL ?_
  | with_reducible refine s_lenC ?_
  | ((with_reducible refine' s_lenS ?k1 ?_); (case k1 => walk_at "side"))
  | with_reducible refine s_abs ?_
  | with_reducible refine s_intI ?_
  | with_reducible refine s_intB ?_
  | with_reducible refine s_gcd ?_
  | with_reducible refine s_listT ?_
  | with_reducible refine s_listL ?_
  | with_reducible refine s_tupT ?_
  | with_reducible refine s_tupL ?_
  | with_reducible refine s_all ?_
  | with_reducible refine s_any ?_
  | with_reducible refine s_sum ?_
  | with_reducible refine s_sumAT ?_
  | with_reducible refine s_sumAL ?_
  | with_reducible refine s_cnT ?_
  | with_reducible refine s_cnF ?_
  | with_reducible refine s_par3 ?_
  | with_reducible refine s_max2 ?_
  | with_reducible refine s_min2 ?_
  | with_reducible refine s_chain ?_
  | with_reducible refine s_chainT ?_
  | with_reducible refine s_inL ?_
  | with_reducible refine s_inT ?_
  | with_reducible refine s_append ?_
  | with_reducible refine s_extend ?_
  | with_reducible refine s_popAt ?_
  | with_reducible refine s_pop ?_
  | with_reducible refine s_slT ?_
  | with_reducible refine s_slL ?_
  | with_reducible refine s_itT ?_
  | with_reducible refine s_itL ?_
  | with_reducible refine s_itC ?_
  | ((with_reducible refine' s_rng1 ?k1 ?_); (case k1 => walk_at "side"))
  | ((with_reducible refine' s_rng2 ?k1 ?_); (case k1 => walk_at "side"))
  | ((with_reducible refine' s_rngD ?k1 ?_); (case k1 => walk_at "side"))
  | ((with_reducible refine' s_isLst ?k1 ?_); (case k1 => walk_at "look"))
  | ((with_reducible refine' s_lstOkL ?k1 ?_); (case k1 => walk_at "look"))
  | ((with_reducible refine' And.intro ?k1 ?_); (case k1 => walk_at "side")))
local macro_rules | `(tactic| walk_at "s") => `(tactic| repeat (walk_at "s1"))
theorem amts_all {n : Nat} {es : List D} : amtsB n (.tup es) = (decide (es.length = n) && es.all isAm) := rfl
theorem read_law_amts : ∀ ds st R Rx, spAmts ds st R Rx → wb_law_are_amounts spIsFr (bodyEd R Rx) (startD 3 ds) st := by
  rintro ds st R Rx ⟨d, n, rfl, hp, hl, kk⟩
  unfold wb_law_are_amounts bodyEd
  walk_at "s"
  refine ⟨nr_ok hp.nr, ?_⟩
  walk_at "s"
  cases e : isTy .tup d with
  | false =>
    walk_at "s"
    rw [amtsB_no e] at kk
    exact s_end kk
  | true =>
    obtain ⟨es, rfl⟩ := isTy_tup e
    have hle := hl es rfl
    walk_at "s"
    refine s_ndec (fun hne => ?_) (fun he => ?_)
    · walk_at "s"
      refine s_end ?_
      rw [amts_all, decide_eq_false (by omega)] at kk
      exact kk
    · walk_at "s"
      refine lc_calm (fun d => .bl (isAm d)) (fun _ => true) trivial (by show 0 + es.length ≤ 2 ^ 24; omega) (fun x hx kk kn h1 h2 => ?_) ?_
      · walk_at "s"
        have px := hp.mem x hx
        refine ⟨x, rfl, px.nr, px.two, ?_⟩
        walk_at "s"
        refine s_b2 (fun e => ?_) (fun e => ?_)
        · have ed := isFr_inv e
          have := h1 rfl
          rw [ed] at this ⊢
          rw [isAm_q, ← num_nonneg] at this
          have q1 : qD (ratOf x) = .tup [.int (ratOf x).num, .int ((ratOf x).den : Int)] := rfl
          rw [q1]
          walk_at "s"
          exact this
        · have := h1 rfl
          unfold isAm at this
          rw [e] at this
          exact this
      · rw [List.filter_eq_self.mpr (fun _ _ => rfl), List.nil_append]
        intro p hp
        have eb : boolsOf (es.map fun d => D.bl (isAm d)) = some (es.map isAm) := by
          have := boolsOf_map (es.map isAm)
          rw [List.map_map] at this
          exact this
        walk_at "s"
        refine s_endS (Sub.put_new hp) ?_
        rw [amts_all, decide_eq_true (by omega), Bool.true_and] at kk
        rw [all_map]; exact kk
theorem LpS.dot {st : DS} {kr ka n m : Nat} {C Rw B : D} {costs : List Rat} {rows : List (List Rat)} {bounds : List Rat} {d : D} (S : LpS st kr ka n m C Rw B costs rows bounds d) {r a : List Rat} (hr : ∀ x ∈ r, Bits kr x) (ha : ∀ x ∈ a, Bits ka x) (hl : r.length = a.length) (h : r.length = n ∨ r.length = m) : 1 + SB r + SB a + r.length ≤ 8900 := by
  have b1 := SB_le (fun x hx => bz_le S.k0 (hr x hx))
  have b2 := SB_le (fun x hx => bz_le S.k1 (ha x hx))
  have t3 := S.tk.2.2.1
  have t4 := S.tk.2.2.2
  rw [Nat.mul_add] at t3 t4
  rw [← hl] at b2
  rcases h with h | h <;> rw [h] at b1 b2 ⊢ <;> omega
theorem read_law_shows_best : ∀ ds st R Rx, spShBest ds st R Rx → wb_law_shows_best spIsFr spAmts spLet spDot spLess (bodyEd R Rx) (startD 9 ds) st := by
  rintro ds st R Rx ⟨kr, ka, n, m, C, Rw, B, costs, rows, bounds, k, v, a, p, rfl, S, kk⟩
  have ok := S.ok
  obtain ⟨n1, m1, kk1, tn, tm⟩ := tokL_n S.tk
  have hcl := ok.cl
  have hrl := ok.rl
  have hbl := ok.bl
  obtain ⟨ps, hps, eps, hrow⟩ := S.ws.r
  have hpl : ps.length = m := by rw [← hrl, ← eps, len_map]
  unfold wb_law_shows_best bodyEd
  walk_at "s"
  refine S.pp.fr (by simp) ?_
  walk_at "s"
  cases e1 : isFr v with
  | false =>
    walk_at "s"
    have : bestB costs rows bounds v a p = false := by simp [bestB, e1]
    rw [this] at kk; exact s_end kk
  | true =>
  walk_at "s"
  refine s_lenRow S.ws.c ?_
  rw [len_map]
  walk_at "s"
  refine S.pp.am (by simp) ?_
  walk_at "s"
  cases e2 : amtsB costs.length a with
  | false =>
    walk_at "s"
    have : bestB costs rows bounds v a p = false := by simp [bestB, e1, e2]
    rw [this] at kk; exact s_end kk
  | true =>
  walk_at "s"
  refine s_lenRow hps ?_
  rw [len_map, hpl, ← hrl]
  walk_at "s"
  refine S.pp.am (by simp) ?_
  walk_at "s"
  cases e3 : amtsB rows.length p with
  | false =>
    walk_at "s"
    have : bestB costs rows bounds v a p = false := by simp [bestB, e1, e2, e3]
    rw [this] at kk; exact s_end kk
  | true =>
  have ev := isFr_inv e1
  obtain ⟨ea, al, ab⟩ := S.pp.amts (by simp) e2
  obtain ⟨ep, pl, pb⟩ := S.pp.amts (by simp) e3
  have rA : RowAt st a ((ratsOf a).map qD) := .inl ea
  have rP : RowAt st p ((ratsOf p).map qD) := .inl ep
  walk_at "s"
  refine ⟨kr, ka, n, m, _, _, _, costs, rows, bounds, ratsOf a, rfl, ok, S.tk, by omega, ab, S.k0, S.k1, S.ws.r, S.ws.b, rA, ?_⟩
  walk_at "s"
  cases e4 : letB rows bounds (ratsOf a) with
  | false =>
    walk_at "s"
    have : bestB costs rows bounds v a p = false := by simp [bestB, e1, e2, e3, e4]
    rw [this] at kk; exact s_end kk
  | true =>
  walk_at "s"
  refine ⟨_, _, costs, ratsOf a, rfl, S.ws.c, rA, by omega, by omega, S.dot ok.cb ab (by omega) (.inl hcl), fun _ => ?_⟩
  walk_at "s"
  rw [ev]
  refine s_neQ ?_
  walk_at "s"
  refine s_ndec (fun hne => ?_) (fun he => ?_)
  · walk_at "s"
    have : bestB costs rows bounds v a p = false := by simp [bestB, e1, e2, e3, e4, hne]
    rw [this] at kk; exact s_end kk
  walk_at "s"
  refine s_lenRow S.ws.c ?_
  rw [len_map]
  walk_at "s"
  rw [Int.toNat_natCast]
  refine for_rng costs.length (fun j ep T => (∃ x7, ep = [some C, some Rw, some B, some (.tup [k, qD (ratOf v), a, p]), some (qD (ratOf v)), some a, some p, x7, none]) ∧ Sub st T ∧ ∀ i, i < j → costs.getD i 0 ≤ dotQ (colQ rows i) (ratsOf p)) ?_ ?_ ⟨⟨_, by rw [← ev]; rfl⟩, Sub.refl st, fun i hi => absurd hi (Nat.not_lt_zero i)⟩
  · rintro ep T ⟨⟨x7, rfl⟩, sT, hall⟩
    refine ⟨trivial, ?_⟩
    walk_at "s"
    have rB := S.ws.b.sub sT
    have rP' := rP.sub sT
    refine ⟨_, _, bounds, ratsOf p, rfl, rB, rP', by omega, by omega, S.dot ok.bb pb (by omega) (.inr hbl), fun _ => ?_⟩
    walk_at "s"
    refine s_eqQ ?_
    refine s_endS sT ?_
    have : bestB costs rows bounds v a p = decide (dotQ bounds (ratsOf p) = ratOf v) := by simp [bestB, e1, e2, e3, e4, he, cov_true hall]
    rw [this] at kk; exact kk
  · rintro K j ep T hj ⟨⟨x7, rfl⟩, sT, hall⟩ ih
    refine ⟨trivial, ?_⟩
    walk_at "s"
    refine s_itRow (hps.sub sT) fun G g => ?_
    refine col_lc g (fun q hq => (hrow q hq).sub sT) (fun q hq => ok.rn _ (by rw [← eps]; exact List.mem_map.mpr ⟨q, hq, rfl⟩)) (by rw [← hcl]; exact hj) (show 8 < 9 by decide) rfl (by omega) ?_
    rw [eps]
    intro u hu
    walk_at "s"
    have hcol : (colQ rows j).length = m := by unfold colQ; rw [len_map, hrl]
    have bcol : ∀ x ∈ colQ rows j, Bits kr x := fun x hx => by
      obtain ⟨r, hr, rfl⟩ := List.mem_map.mp hx
      exact ok.rb r hr _ (List.mem_of_getElem? (getD_mem (by rw [ok.rn r hr, ← hcl]; exact hj)))
    have s2 := sT.trans (Sub.put_new (o := .lst ((colQ rows j).map qD)) hu)
    have hd := S.dot bcol pb (by omega) (.inr hcol)
    refine ⟨_, _, colQ rows j, ratsOf p, rfl, .inr ⟨u, rfl, put_same⟩, rP.sub s2, by omega, by omega, hd, fun bd => ?_⟩
    walk_at "s"
    have ec := getD_mem hj
    refine s_ixRow (S.ws.c.sub s2) ?_
    refine s_opt (atI_map (f := qD) ec) ?_
    walk_at "s"
    refine less_q bd (ok.cb _ (List.mem_of_getElem? ec)) (by have := S.tk; unfold tokL tok at this; omega) ?_
    walk_at "s"
    refine s_dec (fun hlt => ?_) (fun hge => ?_)
    · walk_at "s"
      have : bestB costs rows bounds v a p = false := by simp [bestB, e1, e2, e3, e4, cov_false hj hlt]
      rw [this] at kk; exact s_endS s2 kk
    · walk_at "s"
      refine ih _ _ ⟨⟨_, rfl⟩, s2, fun i hi => ?_⟩
      rcases Nat.lt_succ_iff_lt_or_eq.mp hi with h | rfl
      · exact hall i h
      · exact Rat.not_lt.mp hge
theorem rows_false {rows : List (List Rat)} {r row : List Rat} (hm : row ∈ rows) (h : ¬ dotQ row r ≤ 0) : (rows.all fun row => decide (dotQ row r ≤ 0)) = false := by
  rw [List.all_eq_false]
  exact ⟨row, hm, by rw [decide_eq_false h]; exact Bool.false_ne_true⟩
theorem bits0 {k : Nat} (h : 0 < k) : Bits k 0 := bits_zero h
theorem read_shows_endless : ∀ ds st R Rx, spShEnd ds st R Rx → wb_shows_endless spAmts spLet spAtMost spWgh spLess (bodyEd R Rx) (startD 7 ds) st := by
  rintro ds st R Rx ⟨kr, ka, n, m, C, Rw, B, costs, rows, bounds, k, a, r, rfl, S, kk⟩
  have ok := S.ok
  obtain ⟨n1, m1, kk1, tn, tm⟩ := tokL_n S.tk
  have hcl := ok.cl
  have hrl := ok.rl
  obtain ⟨ps, hps, eps, hrow⟩ := S.ws.r
  have htb := tok_b tn
  unfold wb_shows_endless bodyEd
  walk_at "s"
  refine s_lenRow S.ws.c ?_
  rw [len_map]
  walk_at "s"
  refine S.pp.am (by simp) ?_
  walk_at "s"
  cases e2 : amtsB costs.length a with
  | false =>
    walk_at "s"
    have : endB costs rows bounds a r = false := by simp [endB, e2]
    rw [this] at kk; exact s_end kk
  | true =>
  walk_at "s"
  refine s_lenRow S.ws.c ?_
  rw [len_map]
  walk_at "s"
  refine S.pp.am (by simp) ?_
  walk_at "s"
  cases e3 : amtsB costs.length r with
  | false =>
    walk_at "s"
    have : endB costs rows bounds a r = false := by simp [endB, e2, e3]
    rw [this] at kk; exact s_end kk
  | true =>
  obtain ⟨ea, al, ab⟩ := S.pp.amts (by simp) e2
  obtain ⟨er, rl, rb⟩ := S.pp.amts (by simp) e3
  have rA : RowAt st a ((ratsOf a).map qD) := .inl ea
  have rR : RowAt st r ((ratsOf r).map qD) := .inl er
  walk_at "s"
  refine ⟨kr, ka, n, m, _, _, _, costs, rows, bounds, ratsOf a, rfl, ok, S.tk, by omega, ab, S.k0, S.k1, S.ws.r, S.ws.b, rA, ?_⟩
  walk_at "s"
  cases e4 : letB rows bounds (ratsOf a) with
  | false =>
    walk_at "s"
    have : endB costs rows bounds a r = false := by simp [endB, e2, e3, e4]
    rw [this] at kk; exact s_end kk
  | true =>
  walk_at "s"
  refine s_itRow hps fun G g => ?_
  refine for_pre Prod.fst ps (fun pre ep T => T = st ∧ (∃ x6, ep = [some C, some Rw, some B, some (.tup [k, a, r]), some a, some r, x6]) ∧ ∀ q ∈ pre, dotQ q.2 (ratsOf r) ≤ 0) ?_ ?_ ⟨rfl, ⟨_, rfl⟩, fun q hq => by cases hq⟩
  · rintro ep T ⟨rfl, ⟨x6, rfl⟩, hall⟩
    refine ⟨g, ?_⟩
    walk_at "s"
    refine ⟨_, _, costs, ratsOf r, kr, ka, rfl, S.ws.c, rR, by omega, ok.cb, rb, by rw [hcl]; exact tn, fun bd => ?_⟩
    walk_at "s"
    have hz : D.tup [.int 0, .int 1] = qD 0 := rfl
    rw [hz]
    refine less_q (bits0 (k := 1) (by decide)) bd (by rw [hcl]; omega) ?_
    refine s_end ?_
    have hrows : (rows.all fun row => decide (dotQ row (ratsOf r) ≤ 0)) = true := by
      rw [List.all_eq_true, ← eps]
      intro row hr
      obtain ⟨q, hq, rfl⟩ := List.mem_map.mp hr
      exact decide_eq_true (hall q hq)
    have : endB costs rows bounds a r = decide (0 < dotQ costs (ratsOf r)) := by
      unfold endB
      rw [e2, e3, e4, hrows]; rfl
    rw [this] at kk; exact kk
  · rintro K pre q rest ep T e ⟨rfl, ⟨x6, rfl⟩, hall⟩ ih
    refine ⟨g, ?_⟩
    have hq : q ∈ ps := by rw [e]; simp
    have hr2 : q.2 ∈ rows := by rw [← eps]; exact List.mem_map.mpr ⟨_, hq, rfl⟩
    have hrn := ok.rn _ hr2
    walk_at "s"
    refine ⟨_, _, q.2, ratsOf r, kr, ka, rfl, hrow _ hq, rR, by omega, ok.rb _ hr2, rb, by rw [hrn]; exact tn, fun bd => ?_⟩
    walk_at "s"
    have hz : D.tup [.int 0, .int 1] = qD 0 := rfl
    rw [hz]
    refine atmost_q bd (bits0 (k := 1) (by decide)) (by rw [hrn]; omega) ?_
    walk_at "s"
    refine s_ndec (fun hne => ?_) (fun he => ?_)
    · walk_at "s"
      have : endB costs rows bounds a r = false := by
        unfold endB
        rw [e2, e3, e4, rows_false hr2 hne]; rfl
      rw [this] at kk; exact s_end kk
    · walk_at "s"
      refine ih _ _ ⟨rfl, ⟨_, rfl⟩, fun z hz => ?_⟩
      rcases List.mem_append.mp hz with hz | hz
      · exact hall z hz
      · rw [List.mem_singleton.mp hz]; exact he
theorem num_le0 {x : Rat} : decide (x.num ≤ 0) = decide (x ≤ 0) := by
  refine decide_eq_decide.mpr ?_
  rw [Rat.le_iff]
  simp
theorem read_law_shows_endless : ∀ ds st R Rx, spShEnd ds st R Rx → wb_law_shows_endless spAmts spLet spDot (bodyEd R Rx) (startD 7 ds) st := by
  rintro ds st R Rx ⟨kr, ka, n, m, C, Rw, B, costs, rows, bounds, k, a, r, rfl, S, kk⟩
  have ok := S.ok
  obtain ⟨n1, m1, kk1, tn, tm⟩ := tokL_n S.tk
  have hcl := ok.cl
  have hrl := ok.rl
  obtain ⟨ps, hps, eps, hrow⟩ := S.ws.r
  have htb := tok_b tn
  have hpl : ps.length = m := by rw [← hrl, ← eps, len_map]
  unfold wb_law_shows_endless bodyEd
  walk_at "s"
  refine s_lenRow S.ws.c ?_
  rw [len_map]
  walk_at "s"
  refine S.pp.am (by simp) ?_
  walk_at "s"
  cases e2 : amtsB costs.length a with
  | false =>
    walk_at "s"
    have : endB costs rows bounds a r = false := by simp [endB, e2]
    rw [this] at kk; exact s_end kk
  | true =>
  walk_at "s"
  refine s_lenRow S.ws.c ?_
  rw [len_map]
  walk_at "s"
  refine S.pp.am (by simp) ?_
  walk_at "s"
  cases e3 : amtsB costs.length r with
  | false =>
    walk_at "s"
    have : endB costs rows bounds a r = false := by simp [endB, e2, e3]
    rw [this] at kk; exact s_end kk
  | true =>
  obtain ⟨ea, al, ab⟩ := S.pp.amts (by simp) e2
  obtain ⟨er, rl, rb⟩ := S.pp.amts (by simp) e3
  have rA : RowAt st a ((ratsOf a).map qD) := .inl ea
  have rR : RowAt st r ((ratsOf r).map qD) := .inl er
  walk_at "s"
  refine ⟨kr, ka, n, m, _, _, _, costs, rows, bounds, ratsOf a, rfl, ok, S.tk, by omega, ab, S.k0, S.k1, S.ws.r, S.ws.b, rA, ?_⟩
  walk_at "s"
  cases e4 : letB rows bounds (ratsOf a) with
  | false =>
    walk_at "s"
    have : endB costs rows bounds a r = false := by simp [endB, e2, e3, e4]
    rw [this] at kk; exact s_end kk
  | true =>
  walk_at "s"
  refine ⟨_, _, costs, ratsOf r, rfl, S.ws.c, rR, by omega, by omega, S.dot ok.cb rb (by omega) (.inl hcl), fun bd => ?_⟩
  have q1 : qD (dotQ costs (ratsOf r)) = .tup [.int (dotQ costs (ratsOf r)).num, .int ((dotQ costs (ratsOf r)).den : Int)] := rfl
  rw [q1]
  walk_at "s"
  rw [num_le0]
  refine s_dec (fun hle => ?_) (fun hgt => ?_)
  · walk_at "s"
    have : endB costs rows bounds a r = false := by
      unfold endB
      rw [decide_eq_false (Rat.not_lt.mpr hle)]
      simp
    rw [this] at kk; exact s_end kk
  walk_at "s"
  refine s_itRow hps fun G g => ?_
  refine lc_pre Prod.fst ps (fun pre acc T => T = st ∧ acc = (pre.map fun q => decide (dotQ q.2 (ratsOf r) ≤ 0)).map D.bl) ?_ ?_ ⟨rfl, rfl⟩
  · rintro acc T ⟨rfl, rfl⟩
    refine ⟨g, ?_⟩
    intro p hp
    walk_at "s"
    refine s_endS (Sub.put_new hp) ?_
    have : endB costs rows bounds a r = ((ps.map fun q => decide (dotQ q.2 (ratsOf r) ≤ 0)).all fun b => b) := by
      unfold endB
      rw [e2, e3, e4, decide_eq_true (Rat.not_le.mp hgt), Bool.and_true, all_map, ← eps, List.all_map]; rfl
    rw [this] at kk; exact kk
  · rintro K pre q rest acc T e ⟨rfl, rfl⟩ ih
    refine ⟨g, ?_⟩
    have hq : q ∈ ps := by rw [e]; simp
    have hplt : pre.length < ps.length := by rw [e]; simp
    have hr2 : q.2 ∈ rows := by rw [← eps]; exact List.mem_map.mpr ⟨_, hq, rfl⟩
    have hrn := ok.rn _ hr2
    walk_at "s"
    refine ⟨_, _, q.2, ratsOf r, rfl, hrow _ hq, rR, by omega, by omega, S.dot (ok.rb _ hr2) rb (by omega) (.inl hrn), fun bd => ?_⟩
    have q1 : qD (dotQ q.2 (ratsOf r)) = .tup [.int (dotQ q.2 (ratsOf r)).num, .int ((dotQ q.2 (ratsOf r)).den : Int)] := rfl
    rw [q1]
    walk_at "s"
    rw [num_le0]
    refine ⟨by rw [len_map, len_map]; show _ < 2 ^ 24; omega, ih _ _ ⟨rfl, by rw [List.map_append, List.map_append]; rfl⟩⟩
def spJudgeU : SpD := fun ds st R _ => ∃ kr ka n m C Rw B costs rows bounds d, ds = [C, Rw, B, d] ∧ LpS st kr ka n m C Rw B costs rows bounds d ∧ R (.bl (showsB costs rows bounds d)) st
theorem len_judgeU : ∀ ds st R Rx, spJudgeU ds st R Rx → ds.length = 4 := by
  rintro ds st R Rx ⟨_, _, _, _, _, _, _, _, _, _, _, rfl, -⟩; rfl
theorem pureOk_mem {es : List D} (h : pureOk (.tup es) = true) : ∀ d ∈ es, pureOk d = true := by
  rw [pureOk] at h
  induction es with
  | nil => intro d hd; cases hd
  | cons x es ih =>
    rw [pureOks, Bool.and_eq_true] at h
    intro d hd
    rcases List.mem_cons.mp hd with rfl | hd
    · exact h.1
    · exact ih h.2 d hd
theorem dep_mem {es : List D} {k : Nat} (h : dep (.tup es) ≤ k) : ∀ d ∈ es, dep d ≤ k := by
  rw [dep] at h
  have : deps es ≤ k := by omega
  clear h
  induction es with
  | nil => intro d hd; cases hd
  | cons x es ih =>
    rw [deps] at this
    intro d hd
    rcases List.mem_cons.mp hd with rfl | hd
    · omega
    · exact ih (by omega) d hd
theorem s_eqW {d : D} {x : Str} {st : DS} {R : RD} (h1 : pureOk d = true) (h2 : dep d ≤ 60) (hx : PySem.PyData.strOk x = true) (h : R (.bl (peq d (.str x))) st) : eqD d (.str x) st R :=
  s_eqP h1 (by rw [pureOk]; exact hx) (by omega) (by show 0 ≤ 64; decide) h
theorem showsB_no {costs : List Rat} {rows : List (List Rat)} {bounds : List Rat} {d : D} (h : isTy .tup d = false) : showsB costs rows bounds d = false := by
  cases d <;> first | rfl | (exact absurd h (by simp [isTy]))
theorem showsB_len {costs : List Rat} {rows : List (List Rat)} {bounds : List Rat} {es : List D} (h3 : es.length ≠ 3) (h4 : es.length ≠ 4) : showsB costs rows bounds (.tup es) = false := by
  match es, h3, h4 with
  | [], _, _ => rfl
  | [_], _, _ => rfl
  | [_, _], _, _ => rfl
  | [_, _, _], h, _ => exact absurd rfl h
  | [_, _, _, _], _, h => exact absurd rfl h
  | _ :: _ :: _ :: _ :: _ :: _, _, _ => rfl
theorem peq_b_e {k : D} (h : peq k (.str sBest) = true) : peq k (.str sEnd) = false := by
  cases k <;> simp [peq] at h ⊢
  subst h
  decide
theorem read_judge_under : ∀ ds st R Rx, spJudgeU ds st R Rx → wb_judge_under spShBest spShEnd (bodyEd R Rx) (startD 4 ds) st := by
  rintro ds st R Rx ⟨kr, ka, n, m, C, Rw, B, costs, rows, bounds, d, rfl, S, kk⟩
  unfold wb_judge_under bodyEd
  walk_at "s"
  refine ⟨nr_ok S.pp.p.nr, ?_⟩
  walk_at "s"
  cases e : isTy .tup d with
  | false =>
    walk_at "s"
    rw [showsB_no e] at kk; exact s_end kk
  | true =>
  obtain ⟨es, rfl⟩ := isTy_tup e
  walk_at "s"
  match es, S, kk with
  | [], S, kk =>
    walk_at "s"
    refine s_yesP rfl ?_
    walk_at "s"
    exact s_end kk
  | k :: es, S, kk =>
  have kok := pureOk_mem S.pp.ok k (by simp)
  have kdp := dep_mem S.pp.dp k (by simp)
  refine s_noP (by simp only [List.length_cons]; omega) ?_
  walk_at "s"
  refine s_eqW kok kdp (by decide +kernel) ?_
  walk_at "s"
  have hb : (PySem.Str.ofString "best") = sBest := rfl
  have he : (PySem.Str.ofString "endless") = sEnd := rfl
  have tail : ∀ (h : peq k (.str sBest) = false ∨ (k :: es).length ≠ 4), wSeq (wIf (wAnd (wBinT eqD (wBin ixD (wVar 3) (wC (.int 0))) (wC (.str (PySem.Str.ofString "endless")))) (wBinT eqD (wCB lenD (wACons (wVar 3) wANil)) (wC (.int 3)))) (wRet (wCall spShEnd (wACons (wVar 0) (wACons (wVar 1) (wACons (wVar 2) (wACons (wVar 3) wANil)))))) wNext)
    (wRet (wC (.bl false))) { nx := fun _ st' => ∃ s2, Sub s2 st' ∧ R .non s2, rt := fun d st' => ∃ s2, Sub s2 st' ∧ R d s2, ex := fun x _ st' => ∃ s2, Sub s2 st' ∧ Rx x s2 } (startD 4 [C, Rw, B, .tup (k :: es)]) st := by
    intro h
    walk_at "s"
    refine s_eqW kok kdp (by decide +kernel) ?_
    walk_at "s"
    rw [he]
    cases e3 : peq k (.str sEnd) with
    | false =>
      walk_at "s"
      refine s_end ?_
      have : showsB costs rows bounds (.tup (k :: es)) = false := by
        match es, h with
        | [], _ => rfl
        | [_], _ => rfl
        | [_, _], _ => show (peq k (.str sEnd) && _) = false; rw [e3]; rfl
        | [_, _, _], h => show (peq k (.str sBest) && _) = false; rw [h.resolve_right (fun z => z rfl)]; rfl
        | _ :: _ :: _ :: _ :: _, _ => rfl
      rw [this] at kk; exact kk
    | true =>
      walk_at "s"
      refine s_dec (fun h3 => ?_) (fun h3 => ?_)
      · match es, S, kk, h3 with
        | [a, r], S, kk, _ =>
          walk_at "s"
          refine ⟨kr, ka, n, m, _, _, _, costs, rows, bounds, k, a, r, rfl, S, ?_⟩
          refine s_end ?_
          have : showsB costs rows bounds (.tup [k, a, r]) = endB costs rows bounds a r := by show (peq k (.str sEnd) && _) = _; rw [e3]; rfl
          rw [this] at kk; exact kk
        | [], _, _, h => exact absurd h (by simp)
        | [_], _, _, h => exact absurd h (by simp)
        | _ :: _ :: _ :: _, _, _, h => simp only [List.length_cons] at h; omega
      · walk_at "s"
        refine s_end ?_
        have : showsB costs rows bounds (.tup (k :: es)) = false := by
          match es, h, h3 with
          | [], _, _ => rfl
          | [_], _, _ => rfl
          | [_, _], _, h3 => exact absurd rfl h3
          | [_, _, _], h, _ => show (peq k (.str sBest) && _) = false; rw [h.resolve_right (fun z => z rfl)]; rfl
          | _ :: _ :: _ :: _ :: _, _, _ => rfl
        rw [this] at kk; exact kk
  rw [hb]
  cases e2 : peq k (.str sBest) with
  | false => 
    repeat (first | (with_reducible exact tail (.inl e2)) | walk_at "s1")
  | true =>
    walk_at "s"
    refine s_dec (fun h4 => ?_) (fun h4 => ?_)
    · match es, S, kk, h4 with
      | [v, a, p], S, kk, _ =>
        walk_at "s"
        refine ⟨kr, ka, n, m, _, _, _, costs, rows, bounds, k, v, a, p, rfl, S, ?_⟩
        refine s_end ?_
        have : showsB costs rows bounds (.tup [k, v, a, p]) = bestB costs rows bounds v a p := by show (peq k (.str sBest) && _) = _; rw [e2]; rfl
        rw [this] at kk; exact kk
      | [], _, _, h => exact absurd h (by simp)
      | [_], _, _, h => exact absurd h (by simp)
      | [_, _], _, _, h => exact absurd h (by simp)
      | _ :: _ :: _ :: _ :: _, _, _, h => simp only [List.length_cons] at h; omega
    · have h4' : (k :: es).length ≠ 4 := fun z => h4 (by rw [z]; rfl)
      repeat (first | (with_reducible exact tail (.inr h4')) | walk_at "s1")
end C
end DL

namespace DL
namespace K01
open PySem L2 C
local macro_rules | `(tactic| walk_at "look") => `(tactic| first
  | assumption
  | exact put_same
  | (refine look_ne (by first | assumption | exact Ne.symm (by assumption)) ?_; walk_at "look")
  | (refine look_new (by assumption) ?_; walk_at "look"))
local macro_rules | `(tactic| walk_at "side") => `(tactic| first | assumption | exact trivial | decide | omega | exact ⟨by assumption, by assumption⟩ | exact ⟨by omega, by omega⟩ | exact ⟨by decide, by decide⟩ | exact ⟨by decide, by decide, by decide⟩ | (exact .inl (.inl ⟨by decide, by decide⟩)) | (exact .inl (.inr ⟨by decide, by decide⟩)) | (exact .inl (.inl ⟨by omega, by omega⟩)) | (exact .inl (.inr ⟨by omega, by omega⟩)))
local macro_rules | `(tactic| walk_at "opt") => `(tactic| first | (with_reducible exact atI_0 _ _) | (with_reducible exact atI_1 _ _ _) | (with_reducible exact atI_2 _ _ _ _) | (with_reducible exact atI_3 _ _ _ _ _) | (with_reducible exact atI_4 _ _ _ _ _ _) | assumption | exact atI_0 _ _ | exact atI_1 _ _ _ | exact atI_2 _ _ _ _ | exact atI_3 _ _ _ _ _ | exact atI_4 _ _ _ _ _ _ | exact boolsOf_map _ | exact intsOf_map _ | exact rfl)
local macro_rules | `(tactic| walk_at "s1") => `(tactic| first
  | ((with_reducible refine' s_var ?k1 ?_); (case k1 => exact rfl))
  | with_reducible refine s_bin ?_
  | with_reducible refine s_c ?_
  | with_reducible refine s_seqM ?_
  | with_reducible refine s_asB ?_
  | with_reducible refine s_asI ?_
  | with_reducible refine s_asRI ?_
  | with_reducible refine s_acons ?_
  | with_reducible refine s_anil ?_
  | with_reducible refine s_call ?_
  | with_reducible refine s_cb ?_
  | with_reducible refine s_set ?_
  | with_reducible refine s_ixT ?_
  | with_reducible refine s_ixL ?_
  | with_reducible refine s_ixS ?_
  | ((with_reducible refine' s_getL ?k1 ?_); (case k1 => walk_at "look"))
  | ((with_reducible refine' s_opt ?k1 ?_); (case k1 => walk_at "opt"))
  | with_reducible refine s_binT ?_
  | with_reducible refine s_tup ?_
  | with_reducible refine s_tpT ?_
  | with_reducible refine s_lst ?_
  | with_reducible refine s_ret ?_
  | with_reducible refine s_if ?_
  | with_reducible refine s_nextM ?_
  | with_reducible refine s_drop ?_
  | with_reducible refine s_par ?_
  | with_reducible refine s_asg ?_
  | with_reducible refine s_gN ?_
  | ((with_reducible refine' s_gT ?k1 ?_); (case k1 => exact rfl))
  | with_reducible refine s_gsC ?_
  | with_reducible refine s_gsN ?_
  | with_reducible refine s_gIx ?_
  | with_reducible refine s_setD ?_
  | with_reducible refine s_for ?_
  | with_reducible refine s_b ?_
  | with_reducible refine s_and ?_
  | with_reducible refine s_or ?_
  | with_reducible refine s_not ?_
  | with_reducible refine s_ife ?_
  | with_reducible refine s_neg ?_
  | with_reducible refine s_notV ?_
  | with_reducible refine s_andV ?_
  | with_reducible refine s_orV ?_
  | with_reducible refine s_isi ?_
  | with_reducible refine s_m ?_
  | with_reducible refine s_none ?_
  | with_reducible refine s_noneT ?_
  | with_reducible refine s_sl ?_
  | with_reducible refine s_oN ?_
  | with_reducible refine s_oS ?_
  | with_reducible refine s_lc ?_
  | with_reducible refine s_bN ?_
  | with_reducible refine s_bT ?_
  | with_reducible refine s_bTC ?_
  | with_reducible refine s_bTN ?_
  | with_reducible refine s_it ?_
  | with_reducible refine s_rng ?_
  | with_reducible refine s_zip ?_
  | with_reducible refine s_zip2 ?_
  | with_reducible refine s_enum ?_
  | with_reducible refine s_enum1 ?_
  | with_reducible refine s_yes ?_
  | with_reducible refine s_cT ?_
  | with_reducible refine s_cF ?_
  | with_reducible refine s_retN ?_
  | with_reducible refine s_try ?_
  | with_reducible refine s_raise0 ?_
  | with_reducible refine s_raise1 ?_
  | with_reducible refine s_isE ?_
  | with_reducible refine s_fld ?_
  | with_reducible refine s_brk ?_
  | with_reducible refine s_cnt ?_
  | ((with_reducible refine' s_aug ?k1 ?_); (case k1 => exact rfl))
  | with_reducible refine s_augix ?_
  | with_reducible refine s_addI ?_
  | ((with_reducible refine' s_addT ?k1 ?_); (case k1 => walk_at "side"))
  | ((with_reducible refine' s_addS ?k1 ?_); (case k1 => walk_at "side"))
  | with_reducible refine s_catL ?_
  | with_reducible refine s_subI ?_
  | ((with_reducible refine' s_mulI ?k1 ?_); (case k1 => walk_at "side"))
  | ((with_reducible refine' s_divI ?k1 ?_); (case k1 => walk_at "side"))
  | ((with_reducible refine' s_modI ?k1 ?_); (case k1 => walk_at "side"))
  | ((with_reducible refine' s_powI ?k1 ?_); (case k1 => walk_at "side"))
  | ((with_reducible refine' s_shlI ?k1 ?_); (case k1 => walk_at "side"))
  | with_reducible refine s_iaddI ?_
  | ((with_reducible refine' s_iaddS ?k1 ?_); (case k1 => walk_at "side"))
  | with_reducible refine s_eqI ?_
  | with_reducible refine s_neI ?_
  | with_reducible refine s_eqS ?_
  | with_reducible refine s_neS ?_
  | with_reducible refine s_eqB ?_
  | with_reducible refine s_neB ?_
  | with_reducible refine s_cmp ?_
  | ((with_reducible refine' s_ixX ?k1 ?_); (case k1 => walk_at "side"))
  | with_reducible refine s_lenT ?_
  | with_reducible refine s_lenL ?_
  | with_reducible refine s_lenC ?_
  | ((with_reducible refine' s_lenS ?k1 ?_); (case k1 => walk_at "side"))
  | with_reducible refine s_abs ?_
  | with_reducible refine s_intI ?_
  | with_reducible refine s_intB ?_
  | with_reducible refine s_gcd ?_
  | with_reducible refine s_listT ?_
  | with_reducible refine s_listL ?_
  | with_reducible refine s_tupT ?_
  | with_reducible refine s_tupL ?_
  | with_reducible refine s_all ?_
  | with_reducible refine s_any ?_
  | with_reducible refine s_sum ?_
  | with_reducible refine s_sumAT ?_
  | with_reducible refine s_sumAL ?_
  | with_reducible refine s_cnT ?_
  | with_reducible refine s_cnF ?_
  | with_reducible refine s_par3 ?_
  | with_reducible refine s_max2 ?_
  | with_reducible refine s_min2 ?_
  | with_reducible refine s_chain ?_
  | with_reducible refine s_chainT ?_
  | with_reducible refine s_inL ?_
  | with_reducible refine s_inT ?_
  | with_reducible refine s_append ?_
  | with_reducible refine s_extend ?_
  | with_reducible refine s_popAt ?_
  | with_reducible refine s_pop ?_
  | with_reducible refine s_slT ?_
  | with_reducible refine s_slL ?_
  | with_reducible refine s_itT ?_
  | with_reducible refine s_itL ?_
  | with_reducible refine s_itC ?_
  | ((with_reducible refine' s_rng1 ?k1 ?_); (case k1 => walk_at "side"))
  | ((with_reducible refine' s_rng2 ?k1 ?_); (case k1 => walk_at "side"))
  | ((with_reducible refine' s_rngD ?k1 ?_); (case k1 => walk_at "side"))
  | ((with_reducible refine' s_isLst ?k1 ?_); (case k1 => walk_at "look"))
  | ((with_reducible refine' s_lstOkL ?k1 ?_); (case k1 => walk_at "look"))
  | ((with_reducible refine' And.intro ?k1 ?_); (case k1 => walk_at "side")))
local macro_rules | `(tactic| walk_at "s") => `(tactic| repeat (walk_at "s1"))
/-! fraction and over, that may refuse -/
def spFracX (c : Addr) : SpD := fun ds st R Rx => ∃ n d : Int, ds = [.int n, .int d] ∧ d.natAbs.log2 < 9000 ∧ (d = 0 → Rx ⟨c, []⟩ st) ∧ (d ≠ 0 → FracK n d fun n' d' => R (fr n' d') st)
theorem len_fracX {c} : ∀ ds st R Rx, spFracX c ds st R Rx → ds.length = 2 := by
  rintro ds st R Rx ⟨_, _, rfl, -⟩; rfl
theorem fracX_of {c} : ∀ ds st R Rx, spFrac ds st R Rx → spFracX c ds st R Rx := by
  rintro ds st R Rx ⟨n, d, rfl, h0, h1, k⟩
  exact ⟨n, d, rfl, h1, fun z => absurd z h0, fun _ => k⟩
theorem s_endX {x : Xn} {st : DS} {Rx : RX} (h : Rx x st) : ∃ s2, Sub s2 st ∧ Rx x s2 := ⟨st, Sub.refl st, h⟩
theorem read_fractionX {c} : ∀ ds st R Rx, spFracX c ds st R Rx → wb_fraction c (bodyEd R Rx) (startD 3 ds) st := by
  rintro ds st R Rx ⟨n, d, rfl, h1, h2, k⟩
  unfold wb_fraction bodyEd
  by_cases hd : d = 0
  · subst hd
    walk_at "s"
    refine s_yesP rfl ?_
    walk_at "s"
    exact s_endX (h2 rfl)
  · replace k := k hd
    walk_at "s"
    refine s_noP hd ?_
    walk_at "s"
    refine s_dec (fun e => ?_) (fun e => ?_)
    · walk_at "s"
      have g := gcd_side (n := -n) (d := -d) (by omega) (by rw [Int.natAbs_neg]; exact h1)
      walk_at "s"
      exact s_end (div_gcd (by omega) k.neg)
    · walk_at "s"
      have g := gcd_side (n := n) (d := d) hd h1
      walk_at "s"
      exact s_end (div_gcd (by omega) k)
def spOverX (c : Addr) : SpD := fun ds st R Rx => ∃ (x y : Rat) (k l : Nat), ds = [qD x, qD y] ∧ Bits k x ∧ Bits l y ∧ k + l ≤ 8900 ∧ (y = 0 → Rx ⟨c, []⟩ st) ∧ (y ≠ 0 → Bits (k + l) (x / y) → R (qD (x / y)) st)
theorem len_overX {c} : ∀ ds st R Rx, spOverX c ds st R Rx → ds.length = 2 := by
  rintro ds st R Rx ⟨_, _, _, _, rfl, -⟩; rfl
theorem read_overX {c} : ∀ ds st R Rx, spOverX c ds st R Rx → wb_over (spFracX c) (bodyEd R Rx) (startD 2 ds) st := by
  rintro ds st R Rx ⟨x, y, k, l, rfl, bx, by', hk, h0, h1⟩
  by_cases hy : y = 0
  · subst hy
    unfold wb_over bodyEd qD
    have e1 : (0 : Rat).num = 0 := rfl
    have e2 : (0 : Rat).den = 1 := rfl
    walk_at "s"
    refine ⟨_, _, rfl, ?_, fun _ => s_endX (h0 rfl), fun z => absurd (by rw [e1, Int.mul_zero]) z⟩
    rw [e1, Int.mul_zero]; decide
  · have h := over_q (R := R) (Rx := Rx) (st := st) bx by' hy (by omega) (h1 hy)
    obtain ⟨a, b, c', d, e, m1, m2, nz, lg, kk⟩ := h
    unfold qD at e
    obtain ⟨ea, ec⟩ := List.cons.inj e
    obtain ⟨ec, -⟩ := List.cons.inj ec
    unfold wb_over bodyEd
    rw [show qD x = fr a b from ea, show qD y = fr c' d from ec]
    unfold fr
    walk_at "s"
    refine ⟨_, _, rfl, lg, fun z => absurd z nz, fun _ => ?_⟩
    intro n' d' q1 q2 q3 q4 q5
    exact s_end (kk n' d' q1 q2 q3 q4 q5)
/-! numbers -/
theorem bt_lt {x : Int} {k : Nat} (h : x.natAbs < 2 ^ k) : Bt k x := h
def spNumber : SpD := fun ds st R _ => ∃ (d c : Addr) (ns : List Int), ds = [.ref d] ∧ DK st d c ns ∧ ∀ x st', Bt 94 x → Dr d c ns st st' → R (.int x) st'
theorem len_number : ∀ ds st R Rx, spNumber ds st R Rx → ds.length = 1 := by
  rintro ds st R Rx ⟨_, _, _, rfl, -⟩; rfl
theorem read_number : ∀ ds st R Rx, spNumber ds st R Rx → wb_law_number spDraw (bodyEd R Rx) (startD 4 ds) st := by
  rintro ds st R Rx ⟨d, c, ns, rfl, dk, k⟩
  unfold wb_law_number bodyEd
  walk_at "s"
  refine ⟨d, c, ns, _, rfl, dk, by decide, by decide, fun v st1 a0 a1 r1 => ?_⟩
  walk_at "s"
  refine s_dec (fun e => ?_) (fun e => ?_)
  · walk_at "s"
    refine ⟨d, c, ns, _, rfl, r1.dk, by decide, by decide, fun u st2 b0 b1 r2 => ?_⟩
    walk_at "s"
    exact s_end (k _ st2 (bt_lt (Nat.lt_of_lt_of_le (show (u - 1).natAbs < 2 ^ 3 by omega) (by decide))) (r1.trans r2))
  walk_at "s"
  refine s_dec (fun e => ?_) (fun e => ?_)
  · walk_at "s"
    refine ⟨d, c, ns, _, rfl, r1.dk, by decide, by decide, fun u st2 b0 b1 r2 => ?_⟩
    walk_at "s"
    refine for_rng (1 + u).toNat (fun j ep T => ∃ (x : Int) (x3 : Option D), ep = [some (.ref d), some (.int v), some (.int x), x3] ∧ 0 ≤ x ∧ x < (10 ^ 7) ^ j ∧ Dr d c ns st T) ?_ ?_ ⟨0, none, rfl, by decide, by decide, r1.trans r2⟩
    · rintro ep T ⟨x, x3, rfl, x0, x1, rT⟩
      refine ⟨trivial, ?_⟩
      walk_at "s"
      refine ⟨d, c, ns, _, rfl, rT.dk, by decide, by decide, fun w st3 c0 c1 r3 => ?_⟩
      have hx : x < 10 ^ 28 := by
        have : (1 + u).toNat = 1 ∨ (1 + u).toNat = 2 ∨ (1 + u).toNat = 3 ∨ (1 + u).toNat = 4 := by omega
        rcases this with h | h | h | h <;> rw [h] at x1 <;> exact Int.lt_of_lt_of_le x1 (by decide)
      have b1 : x.natAbs < 2 ^ 94 := by
        have : (10 : Int) ^ 28 < 2 ^ 94 := by decide
        omega
      walk_at "s"
      refine s_dec (fun e3 => ?_) (fun e3 => ?_)
      · walk_at "s"
        exact s_end (k _ st3 (bt_lt b1) (rT.trans r3))
      · walk_at "s"
        exact s_end (k _ st3 (bt_lt (by rw [Int.natAbs_neg]; exact b1)) (rT.trans r3))
    · rintro K j ep T hj ⟨x, x3, rfl, x0, x1, rT⟩ ih
      refine ⟨trivial, ?_⟩
      have e7 : (10 : Int) ^ (7 : Int).toNat = 10 ^ 7 := rfl
      walk_at "s"
      rw [e7]
      refine ⟨d, c, ns, _, rfl, rT.dk, by decide, by decide +kernel, fun w st3 c0 c1 r3 => ?_⟩
      walk_at "s"
      refine ih _ _ ⟨x * 10 ^ 7 + w, _, rfl, by omega, ?_, rT.trans r3⟩
      rw [Int.pow_succ ((10 : Int) ^ 7) j]
      generalize ((10 : Int) ^ 7) ^ j = z at x1 ⊢
      have : x + 1 ≤ z := x1
      have h2 := Int.mul_le_mul_of_nonneg_right this (show (0 : Int) ≤ 10 ^ 7 by decide)
      have h3 : (x + 1) * 10 ^ 7 = x * 10 ^ 7 + 10 ^ 7 := by rw [Int.add_mul, Int.one_mul]
      omega
  · walk_at "s"
    refine ⟨d, c, ns, _, rfl, r1.dk, by decide, by decide, fun u st2 b0 b1 r2 => ?_⟩
    walk_at "s"
    exact s_end (k _ st2 (bt_lt (Nat.lt_of_lt_of_le (show (u - 12).natAbs < 2 ^ 5 by omega) (by decide))) (r1.trans r2))

/-! a further fraction of a row -/
def RowB (xs : List Rat) : Prop := xs.length ≤ 100 ∧ (∀ x ∈ xs, Bits 200 x) ∧ ∀ x t, xs = x :: t → Bits 94 x
def spSome : SpD := fun ds st R _ => ∃ (d c p : Addr) (ns : List Int) (xs : List Rat), ds = [.ref d, .ref p] ∧ DK st d c ns ∧ p ≠ d ∧ st p = some (.lst (xs.map qD)) ∧ RowB xs ∧ ∀ y st', Bits 200 y → (xs = [] → Bits 94 y) → Dr d c ns st st' → R (qD y) st'
theorem len_some : ∀ ds st R Rx, spSome ds st R Rx → ds.length = 2 := by
  rintro ds st R Rx ⟨_, _, _, _, _, rfl, -⟩; rfl
theorem qD_neg (x : Rat) : (.tup [.int (-x.num), .int (x.den : Int)] : D) = qD (-x) := by
  unfold qD
  rw [Rat.neg_num, Rat.neg_den]
theorem bits_neg {k : Nat} {x : Rat} (h : Bits k x) : Bits k (-x) := by
  refine ⟨?_, ?_⟩
  · rw [Rat.neg_num]; unfold Bt; rw [Int.natAbs_neg]; exact h.n
  · rw [Rat.neg_den]; exact h.d
theorem unit_q {s b : Int} (hs : s = 1 ∨ s = -1) (hb : 0 < b) : ∃ x : Rat, (.tup [.int s, .int b] : D) = qD x ∧ x.num = s ∧ (x.den : Int) = b := by
  have c : Nat.gcd s.natAbs b.natAbs = 1 := by rcases hs with rfl | rfl <;> simp
  obtain ⟨h1, h2⟩ := rat_of hb c (x := (s : Rat) / b) rfl
  exact ⟨(s : Rat) / b, by unfold qD; rw [h1, h2], h1, h2⟩
theorem read_some : ∀ ds st R Rx, spSome ds st R Rx → wb_law_some spDraw spPick spPlus spNumber spFrac (bodyEd R Rx) (startD 5 ds) st := by
  rintro ds st R Rx ⟨d, c, p, ns, xs, rfl, dk, hp, hl, ⟨hlen, hb, hb0⟩, k⟩
  have fin : ∀ {st' : DS}, Dr d c ns st st' → ∀ x2 x3 x4, (wSeq (wSet 4 (wCall spNumber (wACons (wVar 0) wANil))) (wRet (wCall spFrac (wACons (wCall spNumber (wACons (wVar 0) wANil)) (wACons (wIfE (wBinT neD (wVar 4) (wC (.int 0))) (wVar 4) (wC (.int 1))) wANil))))) (bodyEd R Rx) [some (.ref d), some (.ref p), x2, x3, x4] st' := by
    intro st' r x2 x3 x4
    unfold bodyEd
    walk_at "s"
    refine ⟨d, c, ns, rfl, r.dk, fun u st1 bu r1 => ?_⟩
    walk_at "s"
    refine ⟨d, c, ns, rfl, r1.dk, fun n st2 bn r2 => ?_⟩
    walk_at "s"
    have go : ∀ w : Int, w ≠ 0 → Bt 94 w → spFrac [.int n, .int w] st2 (fun d st' => ∃ s2, Sub s2 st' ∧ R d s2) (fun x st' => ∃ s2, Sub s2 st' ∧ Rx x s2) := fun w hw bw =>
      ⟨n, w, rfl, hw, bw.log9 (by decide), frac_rat hw fun x _ z1 z2 => s_end (k x st2 ((bits_of bn bw z1 z2).mono (by decide)) (fun _ => bits_of bn bw z1 z2) ((r.trans r1).trans r2))⟩
    refine s_ndec (fun e => ?_) (fun e => ?_)
    · walk_at "s"
      exact go u e bu
    · walk_at "s"
      exact go 1 (by decide) (by unfold Bt; decide)
  unfold wb_law_some
  show wSeq _ _ _ [some (.ref d), some (.ref p), none, none, none] st
  unfold bodyEd
  walk_at "s"
  refine ⟨d, c, ns, _, rfl, dk, by decide, by decide, fun v st1 a0 a1 r1 => ?_⟩
  have hl1 := r1.sx p _ hp hl
  have third : (wSeq (wIf (wAnd (wBinT eqD (wVar 2) (wC (.int 2))) (wBinT gtD (wCB lenD (wACons (wVar 1) wANil)) (wC (.int 0)))) (wRet (wCall spPlus (wACons (wBin ixD (wVar 1) (wC (.int 0))) (wACons (wTup (wACons (wBin subD (wC (.int 1)) (wBin mulD (wC (.int 2)) (wCall spDraw (wACons (wVar 0) (wACons (wC (.int 2)) wANil))))) (wACons (wBin addD (wBin powD (wC (.int 10)) (wC (.int 20))) (wCall spDraw (wACons (wVar 0) (wACons (wBin powD (wC (.int 10)) (wC (.int 6))) wANil)))) wANil))) wANil)))) wNext)
      (wSeq (wSet 4 (wCall spNumber (wACons (wVar 0) wANil))) (wRet (wCall spFrac (wACons (wCall spNumber (wACons (wVar 0) wANil)) (wACons (wIfE (wBinT neD (wVar 4) (wC (.int 0))) (wVar 4) (wC (.int 1))) wANil)))))) (bodyEd R Rx) [some (.ref d), some (.ref p), some (.int v), none, none] st1 := by
    refine s_seq (E := bodyEd R Rx) ?_
    unfold bodyEd
    walk_at "s"
    refine s_dec (fun e => ?_) (fun e => ?_)
    · walk_at "s"
      refine s_dec (fun e2 => ?_) (fun e2 => ?_)
      · cases xs with
        | nil => simp at e2
        | cons x0 xs =>
        have b0 := hb0 x0 xs rfl
        rw [List.map_cons] at hl1
        walk_at "s"
        refine ⟨d, c, ns, _, rfl, r1.dk, by decide, by decide, fun w st2 c0 c1 r2 => ?_⟩
        walk_at "s"
        refine ⟨d, c, ns, _, rfl, r2.dk, by decide, by decide +kernel, fun w2 st3 d0 d1 r3 => ?_⟩
        walk_at "s"
        have p20 : (0 : Int) < (10 : Int) ^ (20 : Int).toNat := by decide
        obtain ⟨x, ex, x1, x2⟩ := unit_q (s := 1 - 2 * w) (b := (10 : Int) ^ (20 : Int).toNat + w2) (by omega) (by omega)
        rw [ex]
        have e20 : (10 : Int) ^ (20 : Int).toNat = 100000000000000000000 := by decide
        have e6 : (10 : Int) ^ (6 : Int).toNat = 1000000 := by decide
        have bx : Bits 67 x := ⟨by rw [x1]; unfold Bt; omega, by rw [x2]; unfold Bt; rw [e20]; rw [e6] at d1; omega⟩
        exact ⟨x0, x, 94, 67, rfl, b0, bx, by decide, trivial, fun bq => s_end (k _ st3 (bq.mono (by decide)) (fun z => by cases z) ((r1.trans r2).trans r3))⟩
      · walk_at "s"
        exact fin r1 _ _ _
    · walk_at "s"
      exact fin r1 _ _ _
  walk_at "s"
  refine s_dec (fun e => ?_) (fun e => ?_)
  · walk_at "s"
    refine s_dec (fun e2 => ?_) (fun e2 => ?_)
    · walk_at "s"
      have hne : xs ≠ [] := by
        rintro rfl; simp at e2
      refine ⟨d, c, ns, _, xs.map qD, rfl, r1.dk, by simpa using hne, by rw [List.length_map]; omega, .inr ⟨p, rfl, hp, hl1⟩, fun y hy st2 r2 => ?_⟩
      obtain ⟨x, hx, rfl⟩ := List.mem_map.mp hy
      walk_at "s"
      refine s_dec (fun e3 => ?_) (fun e3 => ?_)
      · walk_at "s"
        exact s_end (k x st2 (hb x hx) (fun z => absurd z hne) (r1.trans r2))
      · unfold qD
        walk_at "s"
        rw [qD_neg]
        exact s_end (k (-x) st2 (bits_neg (hb x hx)) (fun z => absurd z hne) (r1.trans r2))
    · walk_at "s"
      exact third
  · walk_at "s"
    exact third
end K01
end DL

namespace DL
namespace K01
open PySem L2 C
local macro_rules | `(tactic| walk_at "look") => `(tactic| first
  | assumption
  | exact put_same
  | (refine look_ne (by first | assumption | exact Ne.symm (by assumption)) ?_; walk_at "look")
  | (refine look_new (by assumption) ?_; walk_at "look"))
local macro_rules | `(tactic| walk_at "side") => `(tactic| first | assumption | exact trivial | decide | omega | exact ⟨by assumption, by assumption⟩ | exact ⟨by omega, by omega⟩ | exact ⟨by decide, by decide⟩ | exact ⟨by decide, by decide, by decide⟩ | (exact .inl (.inl ⟨by decide, by decide⟩)) | (exact .inl (.inr ⟨by decide, by decide⟩)) | (exact .inl (.inl ⟨by omega, by omega⟩)) | (exact .inl (.inr ⟨by omega, by omega⟩)))
local macro_rules | `(tactic| walk_at "opt") => `(tactic| first | (with_reducible exact atI_0 _ _) | (with_reducible exact atI_1 _ _ _) | (with_reducible exact atI_2 _ _ _ _) | (with_reducible exact atI_3 _ _ _ _ _) | (with_reducible exact atI_4 _ _ _ _ _ _) | assumption | exact atI_0 _ _ | exact atI_1 _ _ _ | exact atI_2 _ _ _ _ | exact atI_3 _ _ _ _ _ | exact atI_4 _ _ _ _ _ _ | exact boolsOf_map _ | exact intsOf_map _ | exact rfl)
local macro_rules | `(tactic| walk_at "s1") => `(tactic| first
  | ((with_reducible refine' s_var ?k1 ?_); (case k1 => exact rfl))
  | with_reducible refine s_bin ?_
  | with_reducible refine s_c ?_
  | with_reducible refine s_seqM ?_
  | with_reducible refine s_asB ?_
  | with_reducible refine s_asI ?_
  | with_reducible refine s_asRI ?_
  | with_reducible refine s_acons ?_
  | with_reducible refine s_anil ?_
  | with_reducible refine s_call ?_
  | with_reducible refine s_cb ?_
  | with_reducible refine s_set ?_
  | with_reducible refine s_ixT ?_
  | with_reducible refine s_ixL ?_
  | with_reducible refine s_ixS ?_
  | ((with_reducible refine' s_getL ?k1 ?_); (case k1 => walk_at "look"))
  | ((with_reducible refine' s_opt ?k1 ?_); (case k1 => walk_at "opt"))
  | with_reducible refine s_binT ?_
  | with_reducible refine s_tup ?_
  | with_reducible refine s_tpT ?_
  | with_reducible refine s_lst ?_
  | with_reducible refine s_ret ?_
  | with_reducible refine s_if ?_
  | with_reducible refine s_nextM ?_
  | with_reducible refine s_drop ?_
  | with_reducible refine s_par ?_
  | with_reducible refine s_asg ?_
  | with_reducible refine s_gN ?_
  | ((with_reducible refine' s_gT ?k1 ?_); (case k1 => exact rfl))
  | with_reducible refine s_gsC ?_
  | with_reducible refine s_gsN ?_
  | with_reducible refine s_gIx ?_
  | with_reducible refine s_setD ?_
  | with_reducible refine s_for ?_
  | with_reducible refine s_b ?_
  | with_reducible refine s_and ?_
  | with_reducible refine s_or ?_
  | with_reducible refine s_not ?_
  | with_reducible refine s_ife ?_
  | with_reducible refine s_neg ?_
  | with_reducible refine s_notV ?_
  | with_reducible refine s_andV ?_
  | with_reducible refine s_orV ?_
  | with_reducible refine s_isi ?_
  | with_reducible refine s_m ?_
  | with_reducible refine s_none ?_
  | with_reducible refine s_noneT ?_
  | with_reducible refine s_sl ?_
  | with_reducible refine s_oN ?_
  | with_reducible refine s_oS ?_
  | with_reducible refine s_lc ?_
  | with_reducible refine s_bN ?_
  | with_reducible refine s_bT ?_
  | with_reducible refine s_bTC ?_
  | with_reducible refine s_bTN ?_
  | with_reducible refine s_it ?_
  | with_reducible refine s_rng ?_
  | with_reducible refine s_zip ?_
  | with_reducible refine s_zip2 ?_
  | with_reducible refine s_enum ?_
  | with_reducible refine s_enum1 ?_
  | with_reducible refine s_yes ?_
  | with_reducible refine s_cT ?_
  | with_reducible refine s_cF ?_
  | with_reducible refine s_retN ?_
  | with_reducible refine s_try ?_
  | with_reducible refine s_raise0 ?_
  | with_reducible refine s_raise1 ?_
  | with_reducible refine s_isE ?_
  | with_reducible refine s_fld ?_
  | with_reducible refine s_brk ?_
  | with_reducible refine s_cnt ?_
  | ((with_reducible refine' s_aug ?k1 ?_); (case k1 => exact rfl))
  | with_reducible refine s_augix ?_
  | with_reducible refine s_addI ?_
  | ((with_reducible refine' s_addT ?k1 ?_); (case k1 => walk_at "side"))
  | ((with_reducible refine' s_addS ?k1 ?_); (case k1 => walk_at "side"))
  | with_reducible refine s_catL ?_
  | with_reducible refine s_subI ?_
  | ((with_reducible refine' s_mulI ?k1 ?_); (case k1 => walk_at "side"))
  | ((with_reducible refine' s_divI ?k1 ?_); (case k1 => walk_at "side"))
  | ((with_reducible refine' s_modI ?k1 ?_); (case k1 => walk_at "side"))
  | ((with_reducible refine' s_powI ?k1 ?_); (case k1 => walk_at "side"))
  | ((with_reducible refine' s_shlI ?k1 ?_); (case k1 => walk_at "side"))
  | with_reducible refine s_iaddI ?_
  | ((with_reducible refine' s_iaddS ?k1 ?_); (case k1 => walk_at "side"))
  | with_reducible refine s_eqI ?_
  | with_reducible refine s_neI ?_
  | with_reducible refine s_eqS ?_
  | with_reducible refine s_neS ?_
  | with_reducible refine s_eqB ?_
  | with_reducible refine s_neB ?_
  | with_reducible refine s_cmp ?_
  | ((with_reducible refine' s_ixX ?k1 ?_); (case k1 => walk_at "side"))
  | with_reducible refine s_lenT ?_
  | with_reducible refine s_lenL ?_
  | with_reducible refine s_lenC ?_
  | ((with_reducible refine' s_lenS ?k1 ?_); (case k1 => walk_at "side"))
  | with_reducible refine s_abs ?_
  | with_reducible refine s_intI ?_
  | with_reducible refine s_intB ?_
  | with_reducible refine s_gcd ?_
  | with_reducible refine s_listT ?_
  | with_reducible refine s_listL ?_
  | with_reducible refine s_tupT ?_
  | with_reducible refine s_tupL ?_
  | with_reducible refine s_all ?_
  | with_reducible refine s_any ?_
  | with_reducible refine s_sum ?_
  | with_reducible refine s_sumAT ?_
  | with_reducible refine s_sumAL ?_
  | with_reducible refine s_cnT ?_
  | with_reducible refine s_cnF ?_
  | with_reducible refine s_par3 ?_
  | with_reducible refine s_max2 ?_
  | with_reducible refine s_min2 ?_
  | with_reducible refine s_chain ?_
  | with_reducible refine s_chainT ?_
  | with_reducible refine s_inL ?_
  | with_reducible refine s_inT ?_
  | with_reducible refine s_append ?_
  | with_reducible refine s_extend ?_
  | with_reducible refine s_popAt ?_
  | with_reducible refine s_pop ?_
  | with_reducible refine s_slT ?_
  | with_reducible refine s_slL ?_
  | with_reducible refine s_itT ?_
  | with_reducible refine s_itL ?_
  | with_reducible refine s_itC ?_
  | ((with_reducible refine' s_rng1 ?k1 ?_); (case k1 => walk_at "side"))
  | ((with_reducible refine' s_rng2 ?k1 ?_); (case k1 => walk_at "side"))
  | ((with_reducible refine' s_rngD ?k1 ?_); (case k1 => walk_at "side"))
  | ((with_reducible refine' s_isLst ?k1 ?_); (case k1 => walk_at "look"))
  | ((with_reducible refine' s_lstOkL ?k1 ?_); (case k1 => walk_at "look"))
  | ((with_reducible refine' And.intro ?k1 ?_); (case k1 => walk_at "side")))
local macro_rules | `(tactic| walk_at "s") => `(tactic| repeat (walk_at "s1"))
local macro_rules | `(tactic| walk_at "ep") => `(tactic| simp only [startD, List.map_cons, List.map_nil, List.length_cons, List.length_nil, Nat.reduceAdd, Nat.reduceSub, List.replicate, List.cons_append, List.nil_append, List.set_cons_succ, List.set_cons_zero])
/-! a quotient, asked for -/
inductive AskOk : Bool → D → D → Int → Int → Prop where
  | over {x y : Rat} {k : Nat} (bx : Bits k x) (by' : Bits k y) (hk : k ≤ 2000) : AskOk true (qD x) (qD y) (x.num * y.den) (x.den * y.num)
  | frac {n u : Int} (bn : Bt 4000 n) (bu : Bt 4000 u) : AskOk false (.int n) (.int u) n u
abbrev sTold : D := .str (PySem.Str.ofString "told")
abbrev sRefused : D := .str (PySem.Str.ofString "refused")
def spAsked : SpD := fun ds st R _ => ∃ io a b n u, ds = [.bl io, a, b] ∧ AskOk io a b n u ∧ (u = 0 → ∀ p st', Sub st st' → st' p = some (.lst [sRefused]) → R (.ref p) st') ∧
  (u ≠ 0 → ∀ q : Rat, q = (n : Rat) / u → Bits 4000 q → ∀ p st', Sub st st' → st' p = some (.lst [sTold, qD q]) → R (.ref p) st')
theorem len_asked : ∀ ds st R Rx, spAsked ds st R Rx → ds.length = 3 := by
  rintro ds st R Rx ⟨_, _, _, _, _, rfl, -⟩; rfl
theorem over_cast {x y : Rat} (hy : y ≠ 0) : x / y = ((x.num * (y.den : Int) : Int) : Rat) / ((x.den : Int) * y.num : Int) := by
  rw [Rat.intCast_mul, Rat.intCast_mul]
  have h1 := cast_den x
  have h2 := cast_den y
  have h3 : (y.num : Rat) ≠ 0 := cast_ne (rat_ne hy)
  conv => lhs; rw [← rat_cast x, ← rat_cast y]
  exact (f_div h1 h3 h2).symm
theorem zero_over {x y : Rat} : ((x.den : Int) * y.num = 0) ↔ y = 0 := by
  constructor
  · intro h
    rcases Int.mul_eq_zero.mp h with h | h
    · have := den_pos x; omega
    · exact Rat.num_eq_zero.mp h
  · rintro rfl; rfl
theorem read_asked {c : Addr} {EM : Addr → Bool → Prop} {I0 I1 I2 I3 : Addr → Option Bool} (hE : EM c true) (h0 : I0 c = some true) (h1 : I1 c = some true) (h2 : I2 c = some false) (h3 : I3 c = some false) :
    ∀ ds st R Rx, spAsked ds st R Rx → wb_law_asked (spOverX c) (spFracX c) EM I0 I1 I2 I3 (bodyEd R Rx) (startD 4 ds) st := by
  rintro ds st R Rx ⟨io, a, b, n, u, rfl, ok, k0, k1⟩
  have caught : ∀ ws : Addr → Addr → Option Addr → WS, ws = (fun a D d => (wSeq (wIf (wOr (wNot (wB (wIsE a d (I0 D) (wVar 3)))) (wNot (wB (wIsE a d (I1 D) (wVar 3))))) (wRet (wLst (wACons (wC (.str (PySem.Str.ofString "other"))) wANil))) wNext)
    (wSeq (wIf (wB (wIsE a d (I2 D) (wVar 3))) (wRet (wLst (wACons (wC (.str (PySem.Str.ofString "other"))) wANil))) wNext)
    (wRet (wIfE (wB (wIsE a d (I3 D) (wVar 3))) (wLst (wACons (wC (.str (PySem.Str.ofString "other"))) wANil)) (wLst (wACons (wC (.str (PySem.Str.ofString "refused"))) wANil))))))) → u = 0 →
      catchD EM 3 ws (bodyEd R Rx) ⟨c, []⟩ [some (.bl io), some a, some b, none] st := by
    rintro ws rfl hu
    unfold bodyEd
    refine s_catch0 hE fun e => ?_
    walk_at "s"
    refine s_is0 h0 ?_
    walk_at "s"
    refine s_is0 h1 ?_
    walk_at "s"
    refine s_is0 h2 ?_
    walk_at "s"
    refine s_is0 h3 ?_
    walk_at "s"
    intro p hp
    exact ⟨_, Sub.refl _, k0 hu p _ (Sub.put_new hp) put_same⟩
  unfold wb_law_asked
  unfold bodyEd at caught ⊢
  cases ok with
  | @over x y kk bx by' hk =>
    walk_at "s"
    refine ⟨x, y, kk, kk, rfl, bx, by', by omega, fun hy => caught _ rfl (zero_over.mpr hy), fun hy bq => ?_⟩
    walk_at "s"
    intro p hp
    exact ⟨_, Sub.refl _, k1 (fun z => hy (zero_over.mp z)) _ (over_cast hy) (bq.mono (by omega)) p _ (Sub.put_new hp) put_same⟩
  | @frac n u bn bu =>
    walk_at "s"
    refine ⟨n, u, rfl, bu.log9 (by decide), fun hu => caught _ rfl hu, fun hu => frac_rat hu fun q eq z1 z2 => ?_⟩
    walk_at "s"
    intro p hp
    exact ⟨_, Sub.refl _, k1 hu q eq (bits_of bn bu z1 z2) p _ (Sub.put_new hp) put_same⟩

/-! is it this -/
theorem isFr_qb (q : Rat) : nr (qD q) = true ∧ (∀ x y, qD q = .tup [x, y] → nr x = true ∧ nr y = true) := ⟨rfl, fun x y e => by
  unfold qD at e
  cases e
  exact ⟨rfl, rfl⟩⟩
def spIs : SpD := fun ds st R _ => ∃ (q : Rat) (n u : Int), ds = [qD q, .int n, .int u] ∧ u ≠ 0 ∧ q = (n : Rat) / u ∧ Bits 4000 q ∧ Bt 4000 n ∧ Bt 4000 u ∧ R (.bl true) st
theorem len_is : ∀ ds st R Rx, spIs ds st R Rx → ds.length = 3 := by
  rintro ds st R Rx ⟨_, _, _, rfl, -⟩; rfl
theorem cross_q {q : Rat} {n u : Int} (hu : u ≠ 0) (e : q = (n : Rat) / u) : q.num * u = n * (q.den : Int) := by
  have h1 : (q.num : Rat) * u = n * (q.den : Int) := by
    have h2 : (q.num : Rat) / (q.den : Int) = (n : Rat) / u := (rat_cast q).trans e
    have h3 := cast_ne hu
    have h4 := cast_den q
    clear e
    generalize (q.num : Rat) = a at *
    generalize ((q.den : Int) : Rat) = b at *
    generalize (n : Rat) = n' at *
    generalize (u : Rat) = u' at *
    grind
  rw [← Rat.intCast_mul, ← Rat.intCast_mul] at h1
  exact Rat.intCast_inj.mp h1
theorem read_is : ∀ ds st R Rx, spIs ds st R Rx → wb_law_is spIsFr (bodyEd R Rx) (startD 3 ds) st := by
  rintro ds st R Rx ⟨q, n, u, rfl, hu, e, bq, bn, bu, k⟩
  unfold wb_law_is bodyEd
  walk_at "s"
  refine ⟨_, rfl, (isFr_qb q).1, (isFr_qb q).2, ?_⟩
  rw [isFr_q]
  unfold qD
  walk_at "s"
  refine s_mulI (bq.n.ok bu (by omega)) ?_
  walk_at "s"
  refine s_mulI (bn.ok bq.d (by omega)) ?_
  walk_at "s"
  rw [cross_q hu e, decide_eq_true rfl]
  exact s_end k
def spIsQuot : SpD := fun ds st R _ => ∃ io a b n u, ds = [.bl io, a, b, .int n, .int u] ∧ AskOk io a b n u ∧ ∀ st', Sub st st' → R (.bl true) st'
theorem len_isquot : ∀ ds st R Rx, spIsQuot ds st R Rx → ds.length = 5 := by
  rintro ds st R Rx ⟨_, _, _, _, _, rfl, -⟩; rfl
theorem AskOk.bts {io a b n u} (h : AskOk io a b n u) : Bt 4000 n ∧ Bt 4000 u := by
  cases h with
  | over bx by' hk => exact ⟨(bx.n.mul by'.d).mono (by omega), (bx.d.mul by'.n).mono (by omega)⟩
  | frac bn bu => exact ⟨bn, bu⟩
theorem read_isquot : ∀ ds st R Rx, spIsQuot ds st R Rx → wb_law_is_quotient spAsked spIs (bodyEd R Rx) (startD 6 ds) st := by
  rintro ds st R Rx ⟨io, a, b, n, u, rfl, ok, k⟩
  unfold wb_law_is_quotient bodyEd
  by_cases hu : u = 0
  · walk_at "s"
    refine ⟨io, a, b, n, u, rfl, ok, fun _ p st1 s1 hp => ?_, fun z => absurd hu z⟩
    walk_at "s"
    refine s_yesP hu ?_
    walk_at "s"
    intro q hq
    have hp' : put st1 q (.lst [sRefused]) p = some (.lst [sRefused]) := by
      rw [put_ne (fun z => by rw [z, hq] at hp; cases hp)]; exact hp
    refine s_eqLL hp' put_same (by decide +kernel) (by decide +kernel) (by decide) (by decide) ?_
    rw [show peqs [sRefused] [sRefused] = true by decide +kernel]
    exact s_end (k _ (s1.trans (Sub.put_new hq)))
  · walk_at "s"
    refine ⟨io, a, b, n, u, rfl, ok, fun z => absurd z hu, fun _ q eq bq p st1 s1 hp => ?_⟩
    walk_at "s"
    refine s_noP hu ?_
    walk_at "s"
    rw [decide_eq_true rfl]
    walk_at "s"
    exact ⟨q, n, u, rfl, hu, eq, bq, ok.bts.1, ok.bts.2, s_end (k _ s1)⟩
/-! a pair -/
def spPairTold : SpD := fun ds st R _ => ∃ (x y : Rat) (k : Nat), ds = [qD x, qD y] ∧ Bits k x ∧ Bits k y ∧ k ≤ 1900 ∧ ∀ st', Sub st st' → R (.bl true) st'
theorem len_pairtold : ∀ ds st R Rx, spPairTold ds st R Rx → ds.length = 2 := by
  rintro ds st R Rx ⟨_, _, _, rfl, -⟩; rfl
theorem less_cross {x y : Rat} : (x < y) ↔ x.num * (y.den : Int) < y.num * (x.den : Int) := Rat.lt_iff x y
theorem le_cross {x y : Rat} : (x ≤ y) ↔ x.num * (y.den : Int) ≤ y.num * (x.den : Int) := Rat.le_iff x y
theorem plus_cast {x y : Rat} : x + y = ((x.num * (y.den : Int) + y.num * (x.den : Int) : Int) : Rat) / ((x.den : Int) * (y.den : Int) : Int) := by
  rw [Rat.intCast_add, Rat.intCast_mul, Rat.intCast_mul, Rat.intCast_mul]
  conv => lhs; rw [← rat_cast x, ← rat_cast y]
  exact (f_add (cast_den x) (cast_den y)).symm
theorem minus_cast {x y : Rat} : x - y = ((x.num * (y.den : Int) - y.num * (x.den : Int) : Int) : Rat) / ((x.den : Int) * (y.den : Int) : Int) := by
  rw [Rat.intCast_sub, Rat.intCast_mul, Rat.intCast_mul, Rat.intCast_mul]
  conv => lhs; rw [← rat_cast x, ← rat_cast y]
  exact (f_sub (cast_den x) (cast_den y)).symm
theorem times_cast {x y : Rat} : x * y = ((x.num * y.num : Int) : Rat) / ((x.den : Int) * (y.den : Int) : Int) := by
  rw [Rat.intCast_mul, Rat.intCast_mul]
  conv => lhs; rw [← rat_cast x, ← rat_cast y]
  exact (f_mul (cast_den x) (cast_den y)).symm
theorem read_pairtold : ∀ ds st R Rx, spPairTold ds st R Rx → wb_law_pair_told spIs spPlus spMinus spTimes spIsQuot spLess spAtMost (bodyEd R Rx) (startD 4 ds) st := by
  rintro ds st R Rx ⟨x, y, kk, rfl, bx, by', hk, k⟩
  have dd : (x.den : Int) * (y.den : Int) ≠ 0 := by
    have h1 := den_pos x
    have h2 := den_pos y
    have := Int.mul_pos h1 h2
    omega
  have m1 : MulOk x.num (y.den : Int) := bx.n.ok by'.d (by omega)
  have m2 : MulOk y.num (x.den : Int) := by'.n.ok bx.d (by omega)
  have m3 : MulOk (x.den : Int) (y.den : Int) := bx.d.ok by'.d (by omega)
  have m4 : MulOk x.num y.num := bx.n.ok by'.n (by omega)
  have m5 : MulOk (x.den : Int) y.num := bx.d.ok by'.n (by omega)
  have c1 : Bt (kk + kk) (x.num * (y.den : Int)) := bx.n.mul by'.d
  have c2 : Bt (kk + kk) (y.num * (x.den : Int)) := by'.n.mul bx.d
  have c3 : Bt 4000 ((x.den : Int) * (y.den : Int)) := (bx.d.mul by'.d).mono (by omega)
  have ixx : ∀ (z : Rat) {st : DS} {R : RD}, R (.int z.num) st → ixD (qD z) (.int 0) st R := fun z st R h => by unfold qD; exact s_ixT (s_opt (atI_0 _ _) h)
  have ixy : ∀ (z : Rat) {st : DS} {R : RD}, R (.int (z.den : Int)) st → ixD (qD z) (.int 1) st R := fun z st R h => by unfold qD; exact s_ixT (s_opt (atI_1 _ _ _) h)
  unfold wb_law_pair_told bodyEd
  walk_at "s"
  refine ⟨x, y, kk, kk, rfl, bx, by', by omega, trivial, fun bq => ?_⟩
  walk_at "s"
  refine ixx x ?_
  walk_at "s"
  refine ixy y ?_
  walk_at "s"
  refine ixx y ?_
  walk_at "s"
  refine ixy x ?_
  walk_at "s"
  refine ixy x ?_
  walk_at "s"
  refine ixy y ?_
  walk_at "s"
  refine ⟨x + y, _, _, rfl, dd, plus_cast, bq.mono (by omega), (c1.add c2).mono (by omega), c3, ?_⟩
  walk_at "s"
  refine ⟨x, y, kk, kk, rfl, bx, by', by omega, trivial, fun bq => ?_⟩
  walk_at "s"
  refine ixx x ?_
  walk_at "s"
  refine ixy y ?_
  walk_at "s"
  refine ixx y ?_
  walk_at "s"
  refine ixy x ?_
  walk_at "s"
  refine ixy x ?_
  walk_at "s"
  refine ixy y ?_
  walk_at "s"
  refine ⟨x - y, _, _, rfl, dd, minus_cast, bq.mono (by omega), (c1.sub c2).mono (by omega), c3, ?_⟩
  walk_at "s"
  refine times_q bx by' (by omega) fun bq => ?_
  walk_at "s"
  refine ixx x ?_
  walk_at "s"
  refine ixx y ?_
  walk_at "s"
  refine ixy x ?_
  walk_at "s"
  refine ixy y ?_
  walk_at "s"
  refine ⟨x * y, _, _, rfl, dd, times_cast, bq.mono (by omega), (bx.n.mul by'.n).mono (by omega), c3, ?_⟩
  walk_at "s"
  refine ixx x ?_
  walk_at "s"
  refine ixy y ?_
  walk_at "s"
  refine ixy x ?_
  walk_at "s"
  refine ixx y ?_
  walk_at "s"
  refine ⟨true, qD x, qD y, _, _, rfl, .over bx by' (by omega), fun st1 s1 => ?_⟩
  walk_at "s"
  refine less_q bx by' (by omega) ?_
  walk_at "s"
  refine atmost_q bx by' (by omega) ?_
  walk_at "s"
  refine s_noB rfl ?_
  walk_at "s"
  refine s_noB rfl ?_
  walk_at "s"
  refine ixx x ?_
  walk_at "s"
  refine ixy y ?_
  walk_at "s"
  refine ixx y ?_
  walk_at "s"
  refine ixy x ?_
  walk_at "s"
  rw [decide_eq_true (show decide (x < y) = decide (x.num * (y.den : Int) < y.num * (x.den : Int)) from decide_eq_decide.mpr less_cross)]
  walk_at "s"
  refine ixx x ?_
  walk_at "s"
  refine ixy y ?_
  walk_at "s"
  refine ixx y ?_
  walk_at "s"
  refine ixy x ?_
  walk_at "s"
  rw [decide_eq_true (show decide (x ≤ y) = decide (x.num * (y.den : Int) ≤ y.num * (x.den : Int)) from decide_eq_decide.mpr le_cross)]
  exact s_end (k _ s1)
end K01
end DL

namespace DL
namespace K01
open PySem L2 C
local macro_rules | `(tactic| walk_at "look") => `(tactic| first
  | assumption
  | exact put_same
  | (refine look_ne (by first | assumption | exact Ne.symm (by assumption)) ?_; walk_at "look")
  | (refine look_new (by assumption) ?_; walk_at "look"))
local macro_rules | `(tactic| walk_at "side") => `(tactic| first | assumption | exact trivial | decide | omega | exact ⟨by assumption, by assumption⟩ | exact ⟨by omega, by omega⟩ | exact ⟨by decide, by decide⟩ | exact ⟨by decide, by decide, by decide⟩ | (exact .inl (.inl ⟨by decide, by decide⟩)) | (exact .inl (.inr ⟨by decide, by decide⟩)) | (exact .inl (.inl ⟨by omega, by omega⟩)) | (exact .inl (.inr ⟨by omega, by omega⟩)))
local macro_rules | `(tactic| walk_at "opt") => `(tactic| first | (with_reducible exact atI_0 _ _) | (with_reducible exact atI_1 _ _ _) | (with_reducible exact atI_2 _ _ _ _) | (with_reducible exact atI_3 _ _ _ _ _) | (with_reducible exact atI_4 _ _ _ _ _ _) | assumption | exact atI_0 _ _ | exact atI_1 _ _ _ | exact atI_2 _ _ _ _ | exact atI_3 _ _ _ _ _ | exact atI_4 _ _ _ _ _ _ | exact boolsOf_map _ | exact intsOf_map _ | exact rfl)
local macro_rules | `(tactic| walk_at "s1") => `(tactic| first
  | ((with_reducible refine' s_var ?k1 ?_); (case k1 => exact rfl))
  | with_reducible refine s_bin ?_
  | with_reducible refine s_c ?_
  | with_reducible refine s_seqM ?_
  | with_reducible refine s_asB ?_
  | with_reducible refine s_asI ?_
  | with_reducible refine s_asRI ?_
  | with_reducible refine s_acons ?_
  | with_reducible refine s_anil ?_
  | with_reducible refine s_call ?_
  | with_reducible refine s_cb ?_
  | with_reducible refine s_set ?_
  | with_reducible refine s_ixT ?_
  | with_reducible refine s_ixL ?_
  | with_reducible refine s_ixS ?_
  | ((with_reducible refine' s_getL ?k1 ?_); (case k1 => walk_at "look"))
  | ((with_reducible refine' s_opt ?k1 ?_); (case k1 => walk_at "opt"))
  | with_reducible refine s_binT ?_
  | with_reducible refine s_tup ?_
  | with_reducible refine s_tpT ?_
  | with_reducible refine s_lst ?_
  | with_reducible refine s_ret ?_
  | with_reducible refine s_if ?_
  | with_reducible refine s_nextM ?_
  | with_reducible refine s_drop ?_
  | with_reducible refine s_par ?_
  | with_reducible refine s_asg ?_
  | with_reducible refine s_gN ?_
  | ((with_reducible refine' s_gT ?k1 ?_); (case k1 => exact rfl))
  | with_reducible refine s_gsC ?_
  | with_reducible refine s_gsN ?_
  | with_reducible refine s_gIx ?_
  | with_reducible refine s_setD ?_
  | with_reducible refine s_for ?_
  | with_reducible refine s_b ?_
  | with_reducible refine s_and ?_
  | with_reducible refine s_or ?_
  | with_reducible refine s_not ?_
  | with_reducible refine s_ife ?_
  | with_reducible refine s_neg ?_
  | with_reducible refine s_notV ?_
  | with_reducible refine s_andV ?_
  | with_reducible refine s_orV ?_
  | with_reducible refine s_isi ?_
  | with_reducible refine s_m ?_
  | with_reducible refine s_none ?_
  | with_reducible refine s_noneT ?_
  | with_reducible refine s_sl ?_
  | with_reducible refine s_oN ?_
  | with_reducible refine s_oS ?_
  | with_reducible refine s_lc ?_
  | with_reducible refine s_bN ?_
  | with_reducible refine s_bT ?_
  | with_reducible refine s_bTC ?_
  | with_reducible refine s_bTN ?_
  | with_reducible refine s_it ?_
  | with_reducible refine s_rng ?_
  | with_reducible refine s_zip ?_
  | with_reducible refine s_zip2 ?_
  | with_reducible refine s_enum ?_
  | with_reducible refine s_enum1 ?_
  | with_reducible refine s_yes ?_
  | with_reducible refine s_cT ?_
  | with_reducible refine s_cF ?_
  | with_reducible refine s_retN ?_
  | with_reducible refine s_try ?_
  | with_reducible refine s_raise0 ?_
  | with_reducible refine s_raise1 ?_
  | with_reducible refine s_isE ?_
  | with_reducible refine s_fld ?_
  | with_reducible refine s_brk ?_
  | with_reducible refine s_cnt ?_
  | ((with_reducible refine' s_aug ?k1 ?_); (case k1 => exact rfl))
  | with_reducible refine s_augix ?_
  | with_reducible refine s_addI ?_
  | ((with_reducible refine' s_addT ?k1 ?_); (case k1 => walk_at "side"))
  | ((with_reducible refine' s_addS ?k1 ?_); (case k1 => walk_at "side"))
  | with_reducible refine s_catL ?_
  | with_reducible refine s_subI ?_
  | ((with_reducible refine' s_mulI ?k1 ?_); (case k1 => walk_at "side"))
  | ((with_reducible refine' s_divI ?k1 ?_); (case k1 => walk_at "side"))
  | ((with_reducible refine' s_modI ?k1 ?_); (case k1 => walk_at "side"))
  | ((with_reducible refine' s_powI ?k1 ?_); (case k1 => walk_at "side"))
  | ((with_reducible refine' s_shlI ?k1 ?_); (case k1 => walk_at "side"))
  | with_reducible refine s_iaddI ?_
  | ((with_reducible refine' s_iaddS ?k1 ?_); (case k1 => walk_at "side"))
  | with_reducible refine s_eqI ?_
  | with_reducible refine s_neI ?_
  | with_reducible refine s_eqS ?_
  | with_reducible refine s_neS ?_
  | with_reducible refine s_eqB ?_
  | with_reducible refine s_neB ?_
  | with_reducible refine s_cmp ?_
  | ((with_reducible refine' s_ixX ?k1 ?_); (case k1 => walk_at "side"))
  | with_reducible refine s_lenT ?_
  | with_reducible refine s_lenL ?_
  | with_reducible refine s_lenC ?_
  | ((with_reducible refine' s_lenS ?k1 ?_); (case k1 => walk_at "side"))
  | with_reducible refine s_abs ?_
  | with_reducible refine s_intI ?_
  | with_reducible refine s_intB ?_
  | with_reducible refine s_gcd ?_
  | with_reducible refine s_listT ?_
  | with_reducible refine s_listL ?_
  | with_reducible refine s_tupT ?_
  | with_reducible refine s_tupL ?_
  | with_reducible refine s_all ?_
  | with_reducible refine s_any ?_
  | with_reducible refine s_sum ?_
  | with_reducible refine s_sumAT ?_
  | with_reducible refine s_sumAL ?_
  | with_reducible refine s_cnT ?_
  | with_reducible refine s_cnF ?_
  | with_reducible refine s_par3 ?_
  | with_reducible refine s_max2 ?_
  | with_reducible refine s_min2 ?_
  | with_reducible refine s_chain ?_
  | with_reducible refine s_chainT ?_
  | with_reducible refine s_inL ?_
  | with_reducible refine s_inT ?_
  | with_reducible refine s_append ?_
  | with_reducible refine s_extend ?_
  | with_reducible refine s_popAt ?_
  | with_reducible refine s_pop ?_
  | with_reducible refine s_slT ?_
  | with_reducible refine s_slL ?_
  | with_reducible refine s_itT ?_
  | with_reducible refine s_itL ?_
  | with_reducible refine s_itC ?_
  | ((with_reducible refine' s_rng1 ?k1 ?_); (case k1 => walk_at "side"))
  | ((with_reducible refine' s_rng2 ?k1 ?_); (case k1 => walk_at "side"))
  | ((with_reducible refine' s_rngD ?k1 ?_); (case k1 => walk_at "side"))
  | ((with_reducible refine' s_isLst ?k1 ?_); (case k1 => walk_at "look"))
  | ((with_reducible refine' s_lstOkL ?k1 ?_); (case k1 => walk_at "look"))
  | ((with_reducible refine' And.intro ?k1 ?_); (case k1 => walk_at "side")))
local macro_rules | `(tactic| walk_at "s") => `(tactic| repeat (walk_at "s1"))
local macro_rules | `(tactic| walk_at "ep") => `(tactic| simp only [startD, List.map_cons, List.map_nil, List.length_cons, List.length_nil, Nat.reduceAdd, Nat.reduceSub, List.replicate, List.cons_append, List.nil_append, List.set_cons_succ, List.set_cons_zero])
/-! greatest, least -/
theorem read_greatest2 : ∀ ds st R Rx, spGreatest ds st R Rx → wb_greatest_of spLess (bodyEd R Rx) (startD 3 ds) st := read_greatest
def spLeast : SpD := fun ds st R _ => ∃ (row : D) (xs : List Rat) (k : Nat), ds = [row] ∧ RowAt st row (xs.map qD) ∧ xs ≠ [] ∧ k ≤ 100000 ∧ (∀ x ∈ xs, Bits k x) ∧ ∀ m ∈ xs, (∀ x ∈ xs, m ≤ x) → R (qD m) st
theorem len_least : ∀ ds st R Rx, spLeast ds st R Rx → ds.length = 1 := by
  rintro ds st R Rx ⟨_, _, _, rfl, -⟩; rfl
theorem read_leastL : ∀ ds st R Rx, spLeast ds st R Rx → wb_law_least spLess (bodyEd R Rx) (startD 3 ds) st := by
  rintro ds st R Rx ⟨row, xs, k, rfl, hrow, hne, hk, hb, kk⟩
  unfold wb_law_least bodyEd
  cases xs with
  | nil => exact absurd rfl hne
  | cons x0 xs =>
  walk_at "s"
  refine s_ixRow hrow ?_
  rw [List.map_cons]
  walk_at "s"
  refine s_itRow hrow fun G hG => ?_
  refine for_ind (fun rest ep st' => ∃ pre suf b x2, x0 :: xs = pre ++ suf ∧ rest = suf.map qD ∧ b ∈ x0 :: xs ∧ (∀ x ∈ pre, b ≤ x) ∧ ep = [some row, some (qD b), x2] ∧ st' = st) ?_ ?_ _ _ _ ⟨[], x0 :: xs, x0, none, rfl, rfl, List.mem_cons_self, fun x hx => by (cases hx), rfl, rfl⟩
  · rintro ep st' ⟨pre, suf, b, x2, e, e2, hb', hle, rfl, rfl⟩
    refine ⟨hG, ?_⟩
    walk_at "s"
    have : suf = [] := by cases suf with
      | nil => rfl
      | cons _ _ => cases e2
    subst this
    rw [List.append_nil] at e
    exact s_end (kk b hb' (by rw [e]; exact hle))
  · rintro d r ep st' ⟨pre, suf, b, x2, e, e2, hb', hle, rfl, rfl⟩ ih
    refine ⟨hG, ?_⟩
    cases suf with
    | nil => cases e2
    | cons s suf =>
    obtain ⟨rfl, rfl⟩ := List.cons.inj e2
    have hs : s ∈ x0 :: xs := by rw [e]; exact List.mem_append_right _ List.mem_cons_self
    walk_at "s"
    refine less_q (hb s hs) (hb b hb') (by omega) ?_
    walk_at "s"
    refine s_dec (fun e3 => ?_) (fun e3 => ?_)
    · walk_at "s"
      refine ih _ _ ⟨pre ++ [s], suf, s, _, by rw [e, List.append_assoc]; rfl, rfl, hs, fun x hx => ?_, rfl, rfl⟩
      rcases List.mem_append.mp hx with hx | hx
      · exact Rat.le_trans (Rat.le_of_lt e3) (hle x hx)
      · rw [List.mem_singleton.mp hx]; exact Rat.le_refl
    · walk_at "s"
      refine ih _ _ ⟨pre ++ [s], suf, b, _, by rw [e, List.append_assoc]; rfl, rfl, hb', fun x hx => ?_, rfl, rfl⟩
      rcases List.mem_append.mp hx with hx | hx
      · exact hle x hx
      · rw [List.mem_singleton.mp hx]; exact Rat.not_lt.mp e3
theorem read_least2 : ∀ ds st R Rx, spLeast ds st R Rx → wb_least_of_all spLess (bodyEd R Rx) (startD 3 ds) st := read_leastL
/-! the least common denominator -/
def lcmL : List Rat → Int := fun xs => xs.foldl (fun b x => b / ((Nat.gcd b.natAbs (x.den) : Nat) : Int) * (x.den : Int)) 1
theorem lcmL_snoc (xs : List Rat) (x : Rat) : lcmL (xs ++ [x]) = lcmL xs / ((Nat.gcd (lcmL xs).natAbs (x.den) : Nat) : Int) * (x.den : Int) := by
  unfold lcmL; rw [List.foldl_append]; rfl
theorem lcm_pos : ∀ (n : Nat) (xs : List Rat), xs.length = n → ∀ k, (∀ x ∈ xs, Bits k x) → 0 < lcmL xs ∧ Bt (1 + n * k) (lcmL xs)
  | 0, xs, h, k, _ => by
    have : xs = [] := List.length_eq_zero_iff.mp h
    subst this
    exact ⟨by decide, (show Bt 1 1 by unfold Bt; decide).mono (by omega)⟩
  | n + 1, xs, h, k, hb => by
    obtain ⟨ys, y, rfl⟩ : ∃ ys y, xs = ys ++ [y] := by
      rcases List.eq_nil_or_concat xs with rfl | ⟨ys, y, e⟩
      · cases h
      · exact ⟨ys, y, by rw [e, List.concat_eq_append]⟩
    have hl : ys.length = n := by simpa using h
    obtain ⟨p, b⟩ := lcm_pos n ys hl k fun x hx => hb x (List.mem_append_left _ hx)
    obtain ⟨g, x, z, hg, g0, hx, hy, q1, q2, y0, lx, ly⟩ := gcd_parts (n := lcmL ys) (d := (y.den : Int)) (den_pos y)
    rw [Int.natAbs_natCast] at hg
    have x0 : 0 < x := by rw [hx] at p; exact Int.pos_of_mul_pos_right p (by omega)
    rw [lcmL_snoc, hg, q1]
    refine ⟨Int.mul_pos x0 (den_pos y), ?_⟩
    rw [Nat.succ_mul]
    exact ((b.of_le lx).mul (hb y (List.mem_append_right _ List.mem_cons_self)).d).mono (by omega)
def spSharedL : SpD := fun ds st R _ => ∃ (row : D) (xs : List Rat) (k : Nat), ds = [row] ∧ RowAt st row (xs.map qD) ∧ (1 + xs.length * k ≤ 8900 ∧ k ≤ 8900) ∧ xs.length ≤ 1000000 ∧ (∀ x ∈ xs, Bits k x) ∧ R (.tup [.tup ((topsOf xs (lcmL xs)).map D.int), .int (lcmL xs)]) st
theorem len_sharedL : ∀ ds st R Rx, spSharedL ds st R Rx → ds.length = 1 := by
  rintro ds st R Rx ⟨_, _, _, rfl, -⟩; rfl
/-- the loop that finds it -/
theorem read_sharedL : ∀ ds st R Rx, spSharedL ds st R Rx → wb_shared (bodyEd R Rx) (startD 4 ds) st := by
  rintro ds st R Rx ⟨row, xs, k, rfl, hrow, ⟨hk, hk2⟩, hl, hb, kk⟩
  unfold wb_shared bodyEd
  walk_at "s"
  refine s_itRow hrow fun G hG => ?_
  refine for_pre qD xs (fun pre ep T => ∃ (x3 x4 : Option D), ep = [some row, some (.int (lcmL pre)), x3, x4] ∧ T = st) ?_ ?_ ⟨none, none, rfl, rfl⟩
  · rintro ep T ⟨x3, x4, rfl, rfl⟩
    refine ⟨hG, ?_⟩
    walk_at "s"
    refine s_itRow hrow fun G hG => ?_
    obtain ⟨b0, bb⟩ := lcm_pos xs.length xs rfl k hb
    refine lc_pre qD xs (fun p2 acc T2 => acc = (topsOf p2 (lcmL xs)).map D.int ∧ T2 = T) ?_ ?_ ⟨rfl, rfl⟩
    · rintro acc T2 ⟨rfl, rfl⟩
      refine ⟨hG, ?_⟩
      intro u hu
      walk_at "s"
      exact s_endS (Sub.put_new hu) kk
    · rintro K pre a r acc T2 e ⟨rfl, rfl⟩ ih
      refine ⟨hG, ?_⟩
      have hs := hb a (by rw [e]; exact List.mem_append_right _ List.mem_cons_self)
      have sd := den_pos a
      have hlen : pre.length + 1 ≤ xs.length := by rw [e, List.length_append, List.length_cons]; omega
      have bq : Bt (1 + xs.length * k) (lcmL xs / (a.den : Int)) := bb.of_le (Int.natAbs_ediv_le_natAbs _ _)
      have sdd : 0 < (a.den : Int) ∧ ((a.den : Int)).natAbs.log2 < 9000 := ⟨sd, hs.d.log9 (by omega)⟩
      have mm : MulOk a.num (lcmL xs / (a.den : Int)) := hs.n.ok bq (by omega)
      unfold qD
      walk_at "s"
      refine ⟨by rw [List.length_map, topsOf, List.length_map]; show _ < 2 ^ 24; omega, ?_⟩
      exact ih _ _ ⟨by rw [topsOf, topsOf, List.map_append, List.map_append]; rfl, rfl⟩
  · rintro K pre a r ep T e ⟨x3, x4, rfl, rfl⟩ ih
    refine ⟨hG, ?_⟩
    have hs := hb a (by rw [e]; exact List.mem_append_right _ List.mem_cons_self)
    have sd := den_pos a
    have hlen : pre.length + 1 ≤ xs.length := by rw [e, List.length_append, List.length_cons]; omega
    have hmul : (pre.length + 1) * k ≤ xs.length * k := Nat.mul_le_mul_right _ hlen
    rw [Nat.succ_mul] at hmul
    obtain ⟨b0, bb⟩ := lcm_pos pre.length pre rfl k fun x hx => hb x (by rw [e]; exact List.mem_append_left _ hx)
    have gs := gcd_side (n := lcmL pre) (d := (a.den : Int)) (by omega) (hs.d.log9 (by omega))
    have bx : Bt (1 + pre.length * k) (lcmL pre / ((Nat.gcd (lcmL pre).natAbs (a.den : Int).natAbs : Nat) : Int)) := bb.of_le (Int.natAbs_ediv_le_natAbs _ _)
    have mm := bx.ok hs.d (by omega)
    unfold qD
    walk_at "s"
    refine ih _ _ ⟨some (.int a.num), some (.int (a.den : Int)), ?_, rfl⟩
    rw [lcmL_snoc, Int.natAbs_natCast]
    rfl
theorem sharedL_of : ∀ ds st R Rx, spShared ds st R Rx → spSharedL ds st R Rx := by
  rintro ds st R Rx ⟨row, xs, k, rfl, hrow, hk, hl, hb, kk⟩
  obtain ⟨b0, bb⟩ := lcm_pos xs.length xs rfl k hb
  refine ⟨row, xs, k, rfl, hrow, hk, hl, hb, kk _ b0 bb ?_⟩
  have key : ∀ (n : Nat) (ys : List Rat), ys.length = n → (∀ x ∈ ys, Bits k x) → ∀ x ∈ ys, (x.den : Int) ∣ lcmL ys := by
    intro n
    induction n with
    | zero => intro ys h _ x hx; rw [List.length_eq_zero_iff.mp h] at hx; cases hx
    | succ n ih =>
      intro ys h hb x hx
      obtain ⟨zs, z, rfl⟩ : ∃ zs z, ys = zs ++ [z] := by
        rcases List.eq_nil_or_concat ys with rfl | ⟨zs, z, e⟩
        · cases h
        · exact ⟨zs, z, by rw [e, List.concat_eq_append]⟩
      obtain ⟨g, u, v, hg, g0, hx', hy, q1, q2, y0, lx, ly⟩ := gcd_parts (n := lcmL zs) (d := (z.den : Int)) (den_pos z)
      rw [Int.natAbs_natCast] at hg
      rw [lcmL_snoc, hg, q1]
      rcases List.mem_append.mp hx with hx | hx
      · have := ih zs (by simpa using h) (fun x hx => hb x (List.mem_append_left _ hx)) x hx
        have e5 : u * (z.den : Int) = lcmL zs * v := by
          conv => rhs; rw [hx']
          conv => lhs; rw [hy]
          rw [Int.mul_assoc, Int.mul_left_comm]
        rw [e5]; exact Int.dvd_mul_of_dvd_left this
      · rw [List.mem_singleton.mp hx]; exact Int.dvd_mul_left _ _
  exact key xs.length xs rfl hb

/-! the shared bottom, told -/
def spSharedTold : SpD := fun ds st R _ => ∃ (p : Addr) (xs : List Rat) (k : Nat), ds = [.ref p] ∧ st p = some (.lst (xs.map qD)) ∧ (1 + xs.length * k ≤ 8900 ∧ k ≤ 8900) ∧ xs.length ≤ 1000 ∧ (∀ x ∈ xs, Bits k x) ∧ ∀ st', Sub st st' → R (.bl true) st'
theorem len_sharedTold : ∀ ds st R Rx, spSharedTold ds st R Rx → ds.length = 1 := by
  rintro ds st R Rx ⟨_, _, _, rfl, -⟩; rfl
theorem pure_ints : ∀ ns : List Int, pureOks (ns.map D.int) = true
  | [] => by rw [List.map_nil, pureOks]
  | n :: ns => by rw [List.map_cons, pureOks, pure_ints ns, pureOk]; rfl
theorem deps_ints : ∀ ns : List Int, deps (ns.map D.int) = 0
  | [] => by rw [List.map_nil, deps]
  | n :: ns => by rw [List.map_cons, deps, deps_ints ns, dep]; rfl
theorem read_sharedTold : ∀ ds st R Rx, spSharedTold ds st R Rx → wb_law_shared_told spSharedL spIsInt spGcd (bodyEd R Rx) (startD 7 ds) st := by
  rintro ds st R Rx ⟨p, xs, k, rfl, hp, ⟨hk, hk2⟩, hl, hb, kk⟩
  obtain ⟨b0, bb⟩ := lcm_pos xs.length xs rfl k hb
  unfold wb_law_shared_told bodyEd
  walk_at "s"
  refine ⟨_, xs, k, rfl, .inl rfl, ⟨hk, hk2⟩, by omega, hb, ?_⟩
  walk_at "s"
  refine s_noB rfl ?_
  walk_at "s"
  refine s_nnoP rfl ?_
  walk_at "s"
  refine s_noB rfl ?_
  walk_at "s"
  refine lc_pre D.int (topsOf xs (lcmL xs)) (fun pre acc T => acc = (pre.map fun _ => true).map D.bl ∧ T = st) ?_ ?_ ⟨rfl, rfl⟩
  · rintro acc T ⟨rfl, rfl⟩
    refine ⟨trivial, ?_⟩
    intro q hq
    walk_at "s"
    rw [show ((topsOf xs (lcmL xs)).map fun _ => true).all (fun b => b) = true by rw [List.all_map]; exact List.all_eq_true.mpr fun _ _ => rfl]
    walk_at "s"
    refine ⟨_, rfl, trivial, ?_⟩
    walk_at "s"
    refine s_noB rfl ?_
    walk_at "s"
    refine for_pre qD xs (fun pre ep T2 => ∃ x5, ep = [some (.ref p), some (.tup [.tup ((topsOf xs (lcmL xs)).map D.int), .int (lcmL xs)]), some (.tup ((topsOf xs (lcmL xs)).map D.int)), some (.int (lcmL xs)), some (.int (lcmL pre)), x5, none] ∧ T2 = put T q (.lst (((topsOf xs (lcmL xs)).map fun _ => true).map D.bl))) ?_ ?_ ⟨none, rfl, rfl⟩
    · rintro ep T2 ⟨x5, rfl, rfl⟩
      have hp2 : put T q (.lst (((topsOf xs (lcmL xs)).map fun _ => true).map D.bl)) p = some (.lst (xs.map qD)) := look_new hq hp
      generalize hT : put T q (.lst (((topsOf xs (lcmL xs)).map fun _ => true).map D.bl)) = T2 at hp2 ⊢
      have sT : Sub T T2 := by rw [← hT]; exact Sub.put_new hq
      refine ⟨hp2, ?_⟩
      walk_at "s"
      rw [decide_eq_true rfl]
      walk_at "s"
      intro u hu
      have hp3 : put T2 u (.lst ((topsOf xs (lcmL xs)).map D.int)) p = some (.lst (xs.map qD)) := look_new hu hp2
      walk_at "s"
      refine lc_pre qD xs (fun p2 acc T3 => acc = (topsOf p2 (lcmL xs)).map D.int ∧ T3 = put T2 u (.lst ((topsOf xs (lcmL xs)).map D.int))) ?_ ?_ ⟨rfl, rfl⟩
      · rintro acc T3 ⟨rfl, rfl⟩
        refine ⟨hp3, ?_⟩
        intro v hv
        refine s_eqLL (look_new hv put_same) put_same (pure_ints _) (pure_ints _) (by rw [deps_ints]; decide) (by rw [deps_ints]; decide) ?_
        rw [peqs_refl _ (pure_ints _)]
        exact s_end (kk _ ((sT.trans (Sub.put_new hu)).trans (Sub.put_new hv)))
      · rintro K pre a r acc T3 e ⟨rfl, rfl⟩ ih
        refine ⟨hp3, ?_⟩
        have hs := hb a (by rw [e]; exact List.mem_append_right _ List.mem_cons_self)
        have sd := den_pos a
        have hlen : pre.length + 1 ≤ xs.length := by rw [e, List.length_append, List.length_cons]; omega
        have bq : Bt (1 + xs.length * k) (lcmL xs / (a.den : Int)) := bb.of_le (Int.natAbs_ediv_le_natAbs _ _)
        have sdd : 0 < (a.den : Int) ∧ ((a.den : Int)).natAbs.log2 < 9000 := ⟨sd, hs.d.log9 (by omega)⟩
        have mm : MulOk a.num (lcmL xs / (a.den : Int)) := hs.n.ok bq (by omega)
        unfold qD
        walk_at "s"
        refine ⟨by rw [List.length_map, topsOf, List.length_map]; show _ < 2 ^ 24; omega, ?_⟩
        exact ih _ _ ⟨by rw [topsOf, topsOf, List.map_append, List.map_append]; rfl, rfl⟩
    · rintro K pre a r ep T2 e ⟨x5, rfl, rfl⟩ ih
      refine ⟨look_new hq hp, ?_⟩
      have hs := hb a (by rw [e]; exact List.mem_append_right _ List.mem_cons_self)
      have sd := den_pos a
      have hlen : pre.length + 1 ≤ xs.length := by rw [e, List.length_append, List.length_cons]; omega
      have hmul : (pre.length + 1) * k ≤ xs.length * k := Nat.mul_le_mul_right _ hlen
      rw [Nat.succ_mul] at hmul
      obtain ⟨b0, bb⟩ := lcm_pos pre.length pre rfl k fun x hx => hb x (by rw [e]; exact List.mem_append_left _ hx)
      have gs := gcd_side (n := lcmL pre) (d := (a.den : Int)) (by omega) (hs.d.log9 (by omega))
      have bx : Bt (1 + pre.length * k) (lcmL pre / ((Nat.gcd (lcmL pre).natAbs (a.den : Int).natAbs : Nat) : Int)) := bb.of_le (Int.natAbs_ediv_le_natAbs _ _)
      have mm := bx.ok hs.d (by omega)
      unfold qD
      walk_at "s"
      refine ⟨_, _, rfl, ?_⟩
      walk_at "s"
      refine ih _ _ ⟨some (qD a), ?_, rfl⟩
      rw [lcmL_snoc, Int.natAbs_natCast]
      rfl
  · rintro K pre a r acc T e ⟨rfl, rfl⟩ ih
    refine ⟨trivial, ?_⟩
    have hlen : pre.length + 1 ≤ xs.length := by
      have := congrArg List.length e
      rw [topsOf, List.length_map, List.length_append, List.length_cons] at this
      omega
    walk_at "s"
    refine ⟨_, rfl, trivial, ?_⟩
    refine ⟨by rw [List.length_map, List.length_map]; show _ < 2 ^ 24; omega, ?_⟩
    exact ih _ _ ⟨by rw [List.map_append, List.map_append]; rfl, rfl⟩
end K01
end DL

namespace DL
namespace K01
open PySem L2 C
local macro_rules | `(tactic| walk_at "look") => `(tactic| first
  | assumption
  | exact put_same
  | (refine look_ne (by first | assumption | exact Ne.symm (by assumption)) ?_; walk_at "look")
  | (refine look_new (by assumption) ?_; walk_at "look"))
local macro_rules | `(tactic| walk_at "side") => `(tactic| first | assumption | exact trivial | decide | omega | exact ⟨by assumption, by assumption⟩ | exact ⟨by omega, by omega⟩ | exact ⟨by decide, by decide⟩ | exact ⟨by decide, by decide, by decide⟩ | (exact .inl (.inl ⟨by decide, by decide⟩)) | (exact .inl (.inr ⟨by decide, by decide⟩)) | (exact .inl (.inl ⟨by omega, by omega⟩)) | (exact .inl (.inr ⟨by omega, by omega⟩)))
local macro_rules | `(tactic| walk_at "opt") => `(tactic| first | (with_reducible exact atI_0 _ _) | (with_reducible exact atI_1 _ _ _) | (with_reducible exact atI_2 _ _ _ _) | (with_reducible exact atI_3 _ _ _ _ _) | (with_reducible exact atI_4 _ _ _ _ _ _) | assumption | exact atI_0 _ _ | exact atI_1 _ _ _ | exact atI_2 _ _ _ _ | exact atI_3 _ _ _ _ _ | exact atI_4 _ _ _ _ _ _ | exact boolsOf_map _ | exact intsOf_map _ | exact rfl)
local macro_rules | `(tactic| walk_at "s1") => `(tactic| first
  | ((with_reducible refine' s_var ?k1 ?_); (case k1 => exact rfl))
  | with_reducible refine s_bin ?_
  | with_reducible refine s_c ?_
  | with_reducible refine s_seqM ?_
  | with_reducible refine s_asB ?_
  | with_reducible refine s_asI ?_
  | with_reducible refine s_asRI ?_
  | with_reducible refine s_acons ?_
  | with_reducible refine s_anil ?_
  | with_reducible refine s_call ?_
  | with_reducible refine s_cb ?_
  | with_reducible refine s_set ?_
  | with_reducible refine s_ixT ?_
  | with_reducible refine s_ixL ?_
  | with_reducible refine s_ixS ?_
  | ((with_reducible refine' s_getL ?k1 ?_); (case k1 => walk_at "look"))
  | ((with_reducible refine' s_opt ?k1 ?_); (case k1 => walk_at "opt"))
  | with_reducible refine s_binT ?_
  | with_reducible refine s_tup ?_
  | with_reducible refine s_tpT ?_
  | with_reducible refine s_lst ?_
  | with_reducible refine s_ret ?_
  | with_reducible refine s_if ?_
  | with_reducible refine s_nextM ?_
  | with_reducible refine s_drop ?_
  | with_reducible refine s_par ?_
  | with_reducible refine s_asg ?_
  | with_reducible refine s_gN ?_
  | ((with_reducible refine' s_gT ?k1 ?_); (case k1 => exact rfl))
  | with_reducible refine s_gsC ?_
  | with_reducible refine s_gsN ?_
  | with_reducible refine s_gIx ?_
  | with_reducible refine s_setD ?_
  | with_reducible refine s_for ?_
  | with_reducible refine s_b ?_
  | with_reducible refine s_and ?_
  | with_reducible refine s_or ?_
  | with_reducible refine s_not ?_
  | with_reducible refine s_ife ?_
  | with_reducible refine s_neg ?_
  | with_reducible refine s_notV ?_
  | with_reducible refine s_andV ?_
  | with_reducible refine s_orV ?_
  | with_reducible refine s_isi ?_
  | with_reducible refine s_m ?_
  | with_reducible refine s_none ?_
  | with_reducible refine s_noneT ?_
  | with_reducible refine s_sl ?_
  | with_reducible refine s_oN ?_
  | with_reducible refine s_oS ?_
  | with_reducible refine s_lc ?_
  | with_reducible refine s_bN ?_
  | with_reducible refine s_bT ?_
  | with_reducible refine s_bTC ?_
  | with_reducible refine s_bTN ?_
  | with_reducible refine s_it ?_
  | with_reducible refine s_rng ?_
  | with_reducible refine s_zip ?_
  | with_reducible refine s_zip2 ?_
  | with_reducible refine s_enum ?_
  | with_reducible refine s_enum1 ?_
  | with_reducible refine s_yes ?_
  | with_reducible refine s_cT ?_
  | with_reducible refine s_cF ?_
  | with_reducible refine s_retN ?_
  | with_reducible refine s_try ?_
  | with_reducible refine s_raise0 ?_
  | with_reducible refine s_raise1 ?_
  | with_reducible refine s_isE ?_
  | with_reducible refine s_fld ?_
  | with_reducible refine s_brk ?_
  | with_reducible refine s_cnt ?_
  | ((with_reducible refine' s_aug ?k1 ?_); (case k1 => exact rfl))
  | with_reducible refine s_augix ?_
  | with_reducible refine s_addI ?_
  | ((with_reducible refine' s_addT ?k1 ?_); (case k1 => walk_at "side"))
  | ((with_reducible refine' s_addS ?k1 ?_); (case k1 => walk_at "side"))
  | with_reducible refine s_catL ?_
  | with_reducible refine s_subI ?_
  | ((with_reducible refine' s_mulI ?k1 ?_); (case k1 => walk_at "side"))
  | ((with_reducible refine' s_divI ?k1 ?_); (case k1 => walk_at "side"))
  | ((with_reducible refine' s_modI ?k1 ?_); (case k1 => walk_at "side"))
  | ((with_reducible refine' s_powI ?k1 ?_); (case k1 => walk_at "side"))
  | ((with_reducible refine' s_shlI ?k1 ?_); (case k1 => walk_at "side"))
  | with_reducible refine s_iaddI ?_
  | ((with_reducible refine' s_iaddS ?k1 ?_); (case k1 => walk_at "side"))
  | with_reducible refine s_eqI ?_
  | with_reducible refine s_neI ?_
  | with_reducible refine s_eqS ?_
  | with_reducible refine s_neS ?_
  | with_reducible refine s_eqB ?_
  | with_reducible refine s_neB ?_
  | with_reducible refine s_cmp ?_
  | ((with_reducible refine' s_ixX ?k1 ?_); (case k1 => walk_at "side"))
  | with_reducible refine s_lenT ?_
  | with_reducible refine s_lenL ?_
  | with_reducible refine s_lenC ?_
  | ((with_reducible refine' s_lenS ?k1 ?_); (case k1 => walk_at "side"))
  | with_reducible refine s_abs ?_
  | with_reducible refine s_intI ?_
  | with_reducible refine s_intB ?_
  | with_reducible refine s_gcd ?_
  | with_reducible refine s_listT ?_
  | with_reducible refine s_listL ?_
  | with_reducible refine s_tupT ?_
  | with_reducible refine s_tupL ?_
  | with_reducible refine s_all ?_
  | with_reducible refine s_any ?_
  | with_reducible refine s_sum ?_
  | with_reducible refine s_sumAT ?_
  | with_reducible refine s_sumAL ?_
  | with_reducible refine s_cnT ?_
  | with_reducible refine s_cnF ?_
  | with_reducible refine s_par3 ?_
  | with_reducible refine s_max2 ?_
  | with_reducible refine s_min2 ?_
  | with_reducible refine s_chain ?_
  | with_reducible refine s_chainT ?_
  | with_reducible refine s_inL ?_
  | with_reducible refine s_inT ?_
  | with_reducible refine s_append ?_
  | with_reducible refine s_extend ?_
  | with_reducible refine s_popAt ?_
  | with_reducible refine s_pop ?_
  | with_reducible refine s_slT ?_
  | with_reducible refine s_slL ?_
  | with_reducible refine s_itT ?_
  | with_reducible refine s_itL ?_
  | with_reducible refine s_itC ?_
  | ((with_reducible refine' s_rng1 ?k1 ?_); (case k1 => walk_at "side"))
  | ((with_reducible refine' s_rng2 ?k1 ?_); (case k1 => walk_at "side"))
  | ((with_reducible refine' s_rngD ?k1 ?_); (case k1 => walk_at "side"))
  | ((with_reducible refine' s_isLst ?k1 ?_); (case k1 => walk_at "look"))
  | ((with_reducible refine' s_lstOkL ?k1 ?_); (case k1 => walk_at "look"))
  | ((with_reducible refine' And.intro ?k1 ?_); (case k1 => walk_at "side")))
local macro_rules | `(tactic| walk_at "s") => `(tactic| repeat (walk_at "s1"))
local macro_rules | `(tactic| walk_at "ep") => `(tactic| simp only [startD, List.map_cons, List.map_nil, List.length_cons, List.length_nil, Nat.reduceAdd, Nat.reduceSub, List.replicate, List.cons_append, List.nil_append, List.set_cons_succ, List.set_cons_zero])
/-! a row, told -/
def spRowTold : SpD := fun ds st R _ => ∃ (p : Addr) (xs : List Rat) (k : Nat), ds = [.ref p] ∧ st p = some (.lst (xs.map qD)) ∧ (1 + xs.length * (k + 1) ≤ 8900 ∧ k ≤ 4000) ∧ xs.length ≤ 100 ∧ (∀ x ∈ xs, Bits k x) ∧ ∀ st', Sub st st' → R (.bl true) st'
theorem len_rowTold : ∀ ds st R Rx, spRowTold ds st R Rx → ds.length = 1 := by
  rintro ds st R Rx ⟨_, _, _, rfl, -⟩; rfl
theorem read_rowTold : ∀ ds st R Rx, spRowTold ds st R Rx → wb_law_row_told spTotal spIsFr spSumQ spSharedTold spGreatest spLeast spGreatest spLeast (bodyEd R Rx) (startD 4 ds) st := by
  rintro ds st R Rx ⟨p, xs, k, rfl, hp, ⟨hk, hk2⟩, hl, hb, kk⟩
  have hm : xs.length * (k + 1) = xs.length * k + xs.length := Nat.mul_succ _ _
  unfold wb_law_row_told bodyEd
  walk_at "s"
  refine ⟨_, xs, k, rfl, .inl rfl, ⟨by omega, by omega⟩, hb, fun bt => ?_⟩
  walk_at "s"
  refine ⟨_, rfl, (isFr_qb _).1, (isFr_qb _).2, ?_⟩
  rw [isFr_q]
  walk_at "s"
  refine ⟨_, xs, k, rfl, .inr ⟨p, rfl, hp⟩, hk, hb, fun bs => ?_⟩
  walk_at "s"
  refine s_neQ ?_
  walk_at "s"
  refine s_nnoP rfl ?_
  walk_at "s"
  refine ⟨p, xs, k, rfl, hp, ⟨by omega, by omega⟩, by omega, hb, fun st1 s1 => ?_⟩
  have hp1 := s1 _ _ hp
  walk_at "s"
  by_cases hx : xs = []
  · subst hx
    refine s_yesP (by rfl) ?_
    walk_at "s"
    exact s_end (kk _ s1)
  · have hne : ¬ (((xs.map qD).length : Int) = 0) := by
      rw [List.length_map]
      have := List.length_pos_iff.mpr hx
      omega
    refine s_noP hne ?_
    walk_at "s"
    refine ⟨_, xs, k, rfl, .inl rfl, hx, by omega, hb, fun m hm1 hm2 => ?_⟩
    walk_at "s"
    refine ⟨_, xs, k, rfl, .inl rfl, hx, by omega, hb, fun l hl1 hl2 => ?_⟩
    walk_at "s"
    refine ⟨_, rfl, (isFr_qb _).1, (isFr_qb _).2, ?_⟩
    rw [isFr_q]
    walk_at "s"
    refine ⟨_, rfl, (isFr_qb _).1, (isFr_qb _).2, ?_⟩
    rw [isFr_q]
    walk_at "s"
    refine ⟨_, xs, k, rfl, .inr ⟨p, rfl, hp1⟩, hx, by omega, hb, fun m' hm3 hm4 => ?_⟩
    obtain rfl : m = m' := Rat.le_antisymm (hm4 m hm1) (hm2 m' hm3)
    walk_at "s"
    refine s_eqQ ?_
    rw [decide_eq_true rfl]
    walk_at "s"
    refine ⟨_, xs, k, rfl, .inr ⟨p, rfl, hp1⟩, hx, by omega, hb, fun l' hl3 hl4 => ?_⟩
    obtain rfl : l = l' := Rat.le_antisymm (hl2 l' hl3) (hl4 l hl1)
    walk_at "s"
    refine s_eqQ ?_
    rw [decide_eq_true rfl]
    exact s_end (kk _ s1)
/-! things -/
theorem _root_.DL.C.Dr.put0 {d c p : Addr} {ns : List Int} {s t : DS} {o : OB} (a : Dr d c ns s t) (k : DK s d c ns) (h : s p = none) : Dr d c ns s (put t p o) :=
  ⟨a.sx.put_off h, a.dk.putL (k.ne_new h) (fun e => by rw [e, k.hc] at h; cases h)⟩
def thingB (t : D) : Bool := nr t && match t with
  | .tup [x, y] => nr x && nr y
  | _ => true
theorem thing_of {t : D} (h : thingB t = true) : nr t = true ∧ ∀ x y, t = .tup [x, y] → nr x = true ∧ nr y = true := by
  unfold thingB at h
  rw [Bool.and_eq_true] at h
  refine ⟨h.1, fun x y e => ?_⟩
  subst e
  have := h.2
  rw [Bool.and_eq_true] at this
  exact this
def spThings : SpD := fun ds st R _ => ∃ (d c : Addr) (ns : List Int) (x : Rat) (k : Nat), ds = [.ref d, qD x] ∧ DK st d c ns ∧ Bits k x ∧ k ≤ 1000 ∧ ∀ ts p st', (∀ t ∈ ts, thingB t = true) → ts.length ≤ 100 → Dr d c ns st st' → st' p = some (.lst ts) → p ≠ d → R (.ref p) st'
theorem len_things : ∀ ds st R Rx, spThings ds st R Rx → ds.length = 2 := by
  rintro ds st R Rx ⟨_, _, _, _, _, rfl, -⟩; rfl
theorem read_things : ∀ ds st R Rx, spThings ds st R Rx → wb_law_things spDraw spShuffled (bodyEd R Rx) (startD 6 ds) st := by
  rintro ds st R Rx ⟨d, c, ns, x, k, rfl, dk, bx, hk, kk⟩
  unfold wb_law_things bodyEd
  have gq : ∀ {n : Nat} {u : DGs} {ep : DE} {st : DS} {q : DE → DS → Prop}, [D.int x.num, D.int (x.den : Int)].length = n → u [.int x.num, .int (x.den : Int)] ep st q → gT n u (qD x) ep st q := fun e h => by unfold qD; exact s_gT e h
  walk_at "s"
  refine gq rfl ?_
  walk_at "s"
  refine ⟨d, c, ns, _, rfl, dk, by decide, by decide, fun v st1 a0 a1 r1 => ?_⟩
  have m1 : MulOk x.num (2 + v) := bx.n.ok (show Bt 4 (2 + v) by unfold Bt; omega) (by omega)
  have m2 : MulOk (x.den : Int) (2 + v) := bx.d.ok (show Bt 4 (2 + v) by unfold Bt; omega) (by omega)
  walk_at "s"
  intro f hf
  have hfd : f ≠ d := fun z => by
    obtain ⟨o, ho, -⟩ := r1.dk.hd
    rw [z, ho] at hf; cases hf
  walk_at "s"
  intro g hg
  have hgf : g ≠ f := fun z => by rw [z, put_same] at hg; cases hg
  walk_at "s"
  refine ⟨by show (8 : Nat) + 11 ≤ 2 ^ 24; decide, ?_⟩
  walk_at "s"
  intro h hh
  have hhf : h ≠ f := fun z => by rw [z, put_same] at hh; cases hh
  walk_at "s"
  refine ⟨by show (19 : Nat) + 9 ≤ 2 ^ 24; decide, ?_⟩
  walk_at "s"
  have hgn : st1 g = none := by rw [put_ne hgf] at hg; exact hg
  have hhn : st1 h = none := by
    rw [put_ne hhf] at hh
    by_cases e : h = g
    · rw [e]; exact hgn
    · rw [put_ne e, put_ne hhf] at hh; exact hh
  have rr : ∀ o1 o2 o3 o4 o5, Dr d c ns st (put (put (put (put (put st1 f o1) g o2) f o3) h o4) f o5) := fun o1 o2 o3 o4 o5 =>
    r1.trans ((((((Dr.refl r1.dk).put0 r1.dk hf).put0 r1.dk hgn).put0 r1.dk hf).put0 r1.dk hhn).put0 r1.dk hf)
  refine ⟨d, c, ns, _, _, rfl, (rr _ _ _ _ _).dk, ?_, .inr ⟨f, rfl, hfd, put_same⟩, fun es' p st' hperm hp hpd rs hp' => ?_⟩
  · exact (by decide : (19 : Nat) + 9 ≤ 1000000)
  · refine s_end (kk es' p st' (fun t ht => ?_) (by rw [hperm.length_eq]; exact (by decide : (19 : Nat) + 9 ≤ 100)) ((rr _ _ _ _ _).trans rs) hp' hpd)
    have ht' := hperm.mem_iff.mp ht
    exact (List.all_eq_true (p := thingB)).mp (by rfl) t ht'
def spThingTold : SpD := fun ds st R _ => ∃ t, ds = [t] ∧ thingB t = true ∧ R (.bl true) st
theorem len_thingTold : ∀ ds st R Rx, spThingTold ds st R Rx → ds.length = 1 := by
  rintro ds st R Rx ⟨_, rfl, -⟩; rfl
theorem read_thingTold : ∀ ds st R Rx, spThingTold ds st R Rx → wb_law_thing_told spIsFr spIsFr (bodyEd R Rx) (startD 2 ds) st := by
  rintro ds st R Rx ⟨t, rfl, ht, k⟩
  obtain ⟨h1, h2⟩ := thing_of ht
  unfold wb_law_thing_told bodyEd
  walk_at "s"
  refine ⟨_, rfl, h1, h2, ?_⟩
  walk_at "s"
  refine s_cT ?_
  walk_at "s"
  refine ⟨_, rfl, h1, h2, ?_⟩
  walk_at "s"
  rw [decide_eq_true rfl]
  exact s_end k

/-! the law -/
theorem dr_sub {d c : Addr} {ns : List Int} {s t : DS} (k : DK s d c ns) (h : Sub s t) : Dr d c ns s t := ⟨.of h, k.sub h⟩
theorem cut_drop {ds : List D} {i : Nat} (h : i ≤ ds.length) : cutD ds (some (i : Int)) none = ds.drop i := by
  unfold cutD
  rw [HT.sIx_nat, HT.sIx_none, Nat.min_eq_left h]
  rw [List.take_of_length_le (by rw [List.length_drop]; exact Nat.le_refl _)]
theorem bt6 {x f : Int} (h : Bt 94 x) (h0 : 0 < f) (h1 : f ≤ 6) : Bt 97 (x * f) := (h.mul (show Bt 3 f by unfold Bt; omega))
structure RowK (d p : Addr) (xs : List Rat) (T : DS) : Prop where
  ne : p ≠ d
  hp : T p = some (.lst (xs.map qD))
  b : RowB xs
theorem RowK.to {d p : Addr} {xs : List Rat} {S T : DS} (h : RowK d p xs S) {c : Addr} {ns : List Int} (r : Dr d c ns S T) : RowK d p xs T := ⟨h.ne, r.sx p _ h.ne h.hp, h.b⟩
def spLaw : SpD := fun ds st R _ => ∃ ns : List Int, ds = [.scr (ns.map D.int)] ∧ ns.length ≤ sizeLine ∧ ∀ st', R (.bl true) st'
theorem len_law : ∀ ds st R Rx, spLaw ds st R Rx → ds.length = 1 := by
  rintro ds st R Rx ⟨_, rfl, -⟩; rfl
theorem q01 : (.tup [.int 0, .int 1] : D) = qD 0 := rfl
theorem read_law : ∀ ds st R Rx, spLaw ds st R Rx → wb_law spBegin spDraw spNumber spSome spPick spIsQuot spPairTold spThings spThingTold spRowTold spRare spFrac (bodyEd R Rx) (startD 11 ds) st := by
  rintro ds st R Rx ⟨ns, rfl, hns, k⟩
  unfold wb_law bodyEd
  walk_at "s"
  refine ⟨ns, rfl, hns, fun d c st0 s0 dk => ?_⟩
  walk_at "s"
  refine ⟨d, c, ns, _, rfl, dk, by decide, by decide, fun v st1 a0 a1 r1 => ?_⟩
  walk_at "s"
  refine ⟨d, c, ns, rfl, r1.dk, fun n0 st2 bn0 r2 => ?_⟩
  have mn : MulOk n0 (1 + v) := .inl (.inr ⟨by omega, by omega⟩)
  have bn := bt6 bn0 (f := 1 + v) (by omega) (by omega)
  walk_at "s"
  refine ⟨d, c, ns, rfl, r2.dk, fun u0 st3 bu0 r3 => ?_⟩
  have mu : MulOk u0 (1 + v) := .inl (.inr ⟨by omega, by omega⟩)
  have bu := bt6 bu0 (f := 1 + v) (by omega) (by omega)
  walk_at "s"
  intro p hp
  walk_at "s"
  refine ⟨d, c, ns, _, rfl, r3.dk.new hp, by decide, by decide, fun m st4 b0 b1 r4 => ?_⟩
  walk_at "ep"
  walk_at "s"
  generalize n0 * (1 + v) = n at bn ⊢
  generalize u0 * (1 + v) = u at bu ⊢
  have rk0 : RowK d p [] st4 := (⟨r3.dk.ne_new hp, put_same, by show 0 ≤ 100; decide, (fun x hx => by cases hx), (fun x t e => by cases e)⟩ : RowK d p [] (put st3 p (.lst []))).to r4
  have dk4 := r4.dk
  have hpc : p ≠ c := fun e => by rw [e, r3.dk.hc] at hp; cases hp
  clear r4 r3 r2 r1 s0 hp
  refine for_rng (2 + m).toNat (fun j ep T => ∃ (xs : List Rat) (x6 : Option D), ep = [some (.scr (ns.map D.int)), some (.ref d), some (.int (1 + v)), some (.int n), some (.int u), some (.ref p), x6, none, none, none, none] ∧ xs.length = j ∧ RowK d p xs T ∧ DK T d c ns) ?_ ?_ ⟨[], none, rfl, rfl, rk0, dk4⟩
  · rintro ep T ⟨xs, x6, rfl, hlen, rk, dkT⟩
    refine ⟨trivial, ?_⟩
    clear rk0 dk4
    have hxs : xs ≠ [] := by
      rintro rfl; simp at hlen; omega
    have hx10 : xs.length ≤ 9 := by omega
    walk_at "s"
    refine ⟨d, c, ns, _, xs.map qD, rfl, dkT, by simpa using hxs, by rw [List.length_map]; omega, .inr ⟨p, rfl, rk.ne, rk.hp⟩, fun ya hya T1 rT1 => ?_⟩
    obtain ⟨a, ha, rfl⟩ := List.mem_map.mp hya
    have rk1 := rk.to rT1
    walk_at "s"
    refine ⟨d, c, ns, _, xs.map qD, rfl, rT1.dk, by simpa using hxs, by rw [List.length_map]; omega, .inr ⟨p, rfl, rk1.ne, rk1.hp⟩, fun yb hyb T2 rT2 => ?_⟩
    obtain ⟨b, hb, rfl⟩ := List.mem_map.mp hyb
    have rk2 := rk1.to rT2
    have dk2 := rT2.dk
    have ba := rk.b.2.1 a ha
    have bb := rk.b.2.1 b hb
    walk_at "ep"
    walk_at "s"
    clear rT1 rT2 rk rk1 dkT
    have bn4 : Bt 4000 n := bn.mono (by decide)
    have bu4 : Bt 4000 u := bu.mono (by decide)
    refine for_rng 2 (fun j ep T => ∃ (x6 x9 x10 : Option D), ep = [some (.scr (ns.map D.int)), some (.ref d), some (.int (1 + v)), some (.int n), some (.int u), some (.ref p), x6, some (qD a), some (qD b), x9, x10] ∧ RowK d p xs T ∧ DK T d c ns) ?_ ?_ ⟨_, _, _, rfl, rk2, dk2⟩
    · rintro ep T ⟨x6, x9, x10, rfl, rk, dkT⟩
      refine ⟨trivial, ?_⟩
      clear rk2 dk2
      have ixx : ∀ (z : Rat) {st : DS} {R : RD}, R (.int z.num) st → ixD (qD z) (.int 0) st R := fun z st R h => by unfold qD; exact s_ixT (s_opt (atI_0 _ _) h)
      walk_at "s"
      refine ixx a ?_
      walk_at "s"
      have ok0 : AskOk true (qD a) (.tup [.int 0, .int 1]) a.num 0 := by
        have := AskOk.over (x := a) (y := 0) (k := 200) ba ⟨by unfold Bt; decide, by unfold Bt; decide⟩ (by decide)
        rw [show a.num * ((0 : Rat).den : Int) = a.num from Int.mul_one _, show (a.den : Int) * (0 : Rat).num = 0 from Int.mul_zero _] at this
        exact this
      refine ⟨true, _, _, _, _, rfl, ok0, fun T1 s1 => ?_⟩
      have rk1 := rk.to (dr_sub dkT s1)
      have dk1 := dkT.sub s1
      walk_at "s"
      refine ⟨0, b, 200, rfl, ⟨by unfold Bt; decide, by unfold Bt; decide⟩, bb, by decide, fun T2 s2 => ?_⟩
      have rk2 := rk1.to (dr_sub dk1 s2)
      have dk2 := dk1.sub s2
      walk_at "s"
      refine ⟨false, _, _, _, _, rfl, .frac bn4 (by unfold Bt; decide), fun T3 s3 => ?_⟩
      have rk3 := rk2.to (dr_sub dk2 s3)
      have dk3 := dk2.sub s3
      walk_at "s"
      refine ⟨false, _, _, _, _, rfl, .frac bn4 (by unfold Bt; decide), fun T4 s4 => ?_⟩
      have rk4 := rk3.to (dr_sub dk3 s4)
      have dk4 := dk3.sub s4
      walk_at "s"
      refine ⟨d, c, ns, _, rfl, dk4, by decide, by decide, fun br T5 r5 => ?_⟩
      have rk5 := rk4.to r5
      walk_at "s"
      refine s_b2 (fun e => ?_) (fun e => ?_)
      · walk_at "s"
        refine ⟨d, c, ns, _, rfl, r5.dk, by decide, by decide, fun w T6 c0 c1 r6 => ?_⟩
        walk_at "s"
        refine lc_rng (40 + w).toNat (fun j acc T => ∃ zs : List Rat, acc = zs.map qD ∧ zs.length = j ∧ (∀ z ∈ zs, Bits 5 z) ∧ DK T d c ns) ?_ ?_ ⟨[], rfl, rfl, fun z hz => (by cases hz), r6.dk⟩
        · rintro acc T ⟨zs, rfl, hz, bz, dkz⟩
          refine ⟨trivial, ?_⟩
          intro q hq
          walk_at "s"
          have hz2 : zs.length ≤ 69 := by omega
          exact ⟨q, zs, 5, rfl, put_same, ⟨by omega, by decide⟩, by omega, bz, fun T7 s7 => s_end (k T7)⟩
        · rintro K j acc T hj ⟨zs, rfl, hz, bz, dkz⟩ ih
          refine ⟨trivial, ?_⟩
          walk_at "s"
          refine ⟨d, c, ns, _, rfl, dkz, by decide, by decide, fun w1 T7 d0 d1 r7 => ?_⟩
          walk_at "s"
          refine ⟨d, c, ns, _, rfl, r7.dk, by decide, by decide, fun w2 T8 e0 e1 r8 => ?_⟩
          walk_at "s"
          refine ⟨_, _, rfl, by omega, sm (by omega) (by omega), frac_rat (by omega) fun z _ z1 z2 => ?_⟩
          refine ⟨by rw [List.length_map]; show _ < 2 ^ 24; omega, ih _ _ ⟨zs ++ [z], by rw [List.map_append]; rfl, by rw [List.length_append, hz]; rfl, fun y hy => ?_, r8.dk⟩⟩
          rcases List.mem_append.mp hy with hy | hy
          · exact bz y hy
          · rw [List.mem_singleton.mp hy]
            exact bits_of (k := 5) (show Bt 5 (w1 - 6) by unfold Bt; omega) (show Bt 5 (1 + w2) by unfold Bt; omega) z1 z2
      · walk_at "s"
        exact ⟨p, xs, 200, rfl, rk5.hp, ⟨by omega, by decide⟩, by omega, rk5.b.2.1, fun T7 s7 => s_end (k T7)⟩
    · rintro K j ep T hj ⟨x6, x9, x10, rfl, rk, dkT⟩ ih
      refine ⟨trivial, ?_⟩
      clear rk2 dk2
      walk_at "s"
      refine ⟨false, _, _, _, _, rfl, .frac bn4 bu4, fun T1 s1 => ?_⟩
      have rk1 := rk.to (dr_sub dkT s1)
      have dk1 := dkT.sub s1
      walk_at "s"
      refine ⟨false, _, _, _, _, rfl, .frac bu4 bn4, fun T2 s2 => ?_⟩
      have rk2 := rk1.to (dr_sub dk1 s2)
      have dk2 := dk1.sub s2
      clear rk1 dk1 s1 s2 rk dkT
      walk_at "s"
      refine ⟨a, b, 200, rfl, ba, bb, by decide, fun T3 s3 => ?_⟩
      have rk3 := rk2.to (dr_sub dk2 s3)
      have dk3 := dk2.sub s3
      walk_at "s"
      refine ⟨b, a, 200, rfl, bb, ba, by decide, fun T4 s4 => ?_⟩
      have rk4 := rk3.to (dr_sub dk3 s4)
      have dk4 := dk3.sub s4
      walk_at "s"
      refine ⟨a, a, 200, rfl, ba, ba, by decide, fun T5 s5 => ?_⟩
      have rk5 := rk4.to (dr_sub dk4 s5)
      have dk5 := dk4.sub s5
      clear rk2 dk2 rk3 dk3 rk4 dk4 s3 s4 s5
      walk_at "s"
      refine ⟨d, c, ns, a, 200, rfl, dk5, ba, by decide, fun ts q T6 hts hlt r6 hq hqd => ?_⟩
      have rk6 := rk5.to r6
      have dk6 := r6.dk
      clear rk5 dk5 r6
      walk_at "s"
      rw [show ts = ts.map (fun t => t) from (List.map_id ts).symm] at hq ⊢
      refine lc_pre (fun t => t) ts (fun pre acc T => acc = (pre.map fun _ => true).map D.bl ∧ T = T6) ?_ ?_ ⟨rfl, rfl⟩
      · rintro acc T ⟨rfl, rfl⟩
        refine ⟨hq, ?_⟩
        intro z hz
        have rk7 : RowK d p xs (put T z (.lst ((ts.map fun _ => true).map D.bl))) := rk6.to ((Dr.refl dk6).new hz)
        have dk7 : DK (put T z (.lst ((ts.map fun _ => true).map D.bl))) d c ns := dk6.new hz
        walk_at "s"
        rw [show (ts.map fun _ => true).all (fun b => b) = true by rw [List.all_map]; exact List.all_eq_true.mpr fun _ _ => rfl]
        generalize put T z (.lst ((ts.map fun _ => true).map D.bl)) = T7 at rk7 dk7 ⊢
        walk_at "s"
        refine s_dec (fun e => ?_) (fun e => ?_)
        · have hp7 := rk7.hp
          walk_at "s"
          have hl : (((xs.map qD).length : Int) + 1).toNat = xs.length + 1 := by rw [List.length_map]; omega
          refine s_rng1 (by rw [List.length_map]; omega) ?_
          rw [hl]
          refine lc_rng (xs.length + 1) (fun j acc T => acc = ((List.range j).map fun _ => true).map D.bl ∧ RowK d p xs T ∧ DK T d c ns) ?_ ?_ ⟨rfl, rk7, dk7⟩
          · rintro acc T8 ⟨rfl, rk8, dk8⟩
            refine ⟨trivial, ?_⟩
            intro y hy
            have rk9 : RowK d p xs (put T8 y (.lst (((List.range (xs.length + 1)).map fun _ => true).map D.bl))) := rk8.to ((Dr.refl dk8).new hy)
            have dk9 : DK (put T8 y (.lst (((List.range (xs.length + 1)).map fun _ => true).map D.bl))) d c ns := dk8.new hy
            walk_at "s"
            rw [show ((List.range (xs.length + 1)).map fun _ => true).all (fun b => b) = true by rw [List.all_map]; exact List.all_eq_true.mpr fun _ _ => rfl]
            walk_at "s"
            exact ih _ _ ⟨_, _, _, rfl, rk9, dk9⟩
          · rintro K j acc T8 hj ⟨rfl, rk8, dk8⟩ ih
            refine ⟨trivial, ?_⟩
            have hp8 := rk8.hp
            walk_at "s"
            intro y hy
            rw [cut_drop (by rw [List.length_map]; omega), ← List.map_drop]
            walk_at "s"
            have hdl : (xs.drop j).length ≤ 9 := by rw [List.length_drop]; omega
            refine ⟨y, xs.drop j, 200, rfl, put_same, ⟨by omega, by decide⟩, by omega, fun x hx => rk8.b.2.1 x (List.mem_of_mem_drop hx), fun T9 s9 => ?_⟩
            have r9 : Dr d c ns T8 T9 := dr_sub dk8 ((Sub.put_new hy).trans s9)
            exact ⟨by rw [List.length_map, List.length_map, List.length_range]; show _ < 2 ^ 24; omega, ih _ _ ⟨by rw [List.range_succ, List.map_append, List.map_append]; rfl, rk8.to r9, r9.dk⟩⟩
        · walk_at "s"
          exact ih _ _ ⟨_, _, _, rfl, rk7, dk7⟩
      · rintro K pre t r acc T e ⟨rfl, rfl⟩ ih
        refine ⟨hq, ?_⟩
        have ht := hts t (by rw [e]; exact List.mem_append_right _ List.mem_cons_self)
        have hlen : pre.length + 1 ≤ ts.length := by rw [e, List.length_append, List.length_cons]; omega
        walk_at "s"
        refine ⟨t, rfl, ht, ?_⟩
        exact ⟨by rw [List.length_map, List.length_map]; show _ < 2 ^ 24; omega, ih _ _ ⟨by rw [List.map_append, List.map_append]; rfl, rfl⟩⟩
  · rintro K j ep T hj ⟨xs, x6, rfl, hlen, rk, dkT⟩ ih
    refine ⟨trivial, ?_⟩
    have hp := rk.hp
    walk_at "s"
    refine ⟨d, c, p, ns, xs, rfl, dkT, rk.ne, rk.hp, rk.b, fun y T1 by1 by0 r1 => ?_⟩
    have rk1 := rk.to r1
    have hp1 := rk1.hp
    walk_at "s"
    refine ⟨by rw [List.length_map]; show _ < 2 ^ 24; omega, ?_⟩
    walk_at "s"
    refine ih _ _ ⟨xs ++ [y], _, rfl, by rw [List.length_append, hlen]; rfl, ⟨rk.ne, by rw [List.map_append]; exact put_same, ?_⟩, r1.dk.putL rk.ne hpc⟩
    refine ⟨by rw [List.length_append]; show _ + 1 ≤ 100; omega, fun x hx => ?_, fun x t e => ?_⟩
    · rcases List.mem_append.mp hx with hx | hx
      · exact rk.b.2.1 x hx
      · rw [List.mem_singleton.mp hx]; exact by1
    · cases xs with
      | nil => cases e; exact by0 rfl
      | cons x0 xs => cases e; exact rk.b.2.2 _ xs rfl
end K01
end DL

namespace DL
namespace K01
open PySem PySem.Spec PyProof.Rows L2 C
theorem all_mk {P : Program} {w : World} {K : PySem.W.Frag} {h : Heap} {mg : Str → Option Value} {fa : Addr} (X : K.In h) (G : h.Ns mainGlobals mg) (hfa : mg "law" = some (.ref fa))
    {f0 : Addr} {oc0 kV0 dc0 pm0 cd0 ct0 : Value} {od0 an0 : Option Addr} {sl0 : Array (Option Value)}
    {f1 : Addr} {oc1 kV1 dc1 pm1 cd1 ct1 : Value} {od1 an1 : Option Addr} {sl1 : Array (Option Value)}
    {f2 : Addr} {oc2 kV2 dc2 pm2 cd2 ct2 : Value} {od2 an2 : Option Addr} {sl2 : Array (Option Value)}
    {f3 : Addr} {oc3 kV3 dc3 pm3 cd3 ct3 : Value} {od3 an3 : Option Addr} {sl3 : Array (Option Value)}
    {f4 : Addr} {oc4 kV4 dc4 pm4 cd4 ct4 : Value} {od4 an4 : Option Addr} {sl4 : Array (Option Value)}
    {f5 : Addr} {oc5 kV5 dc5 pm5 cd5 ct5 : Value} {od5 an5 : Option Addr} {sl5 : Array (Option Value)}
    {f6 : Addr} {oc6 kV6 dc6 pm6 cd6 ct6 : Value} {od6 an6 : Option Addr} {sl6 : Array (Option Value)}
    {f7 : Addr} {oc7 kV7 dc7 pm7 cd7 ct7 : Value} {od7 an7 : Option Addr} {sl7 : Array (Option Value)}
    {f8 : Addr} {oc8 kV8 dc8 pm8 cd8 ct8 : Value} {od8 an8 : Option Addr} {sl8 : Array (Option Value)}
    {f9 : Addr} {oc9 kV9 dc9 pm9 cd9 ct9 : Value} {od9 an9 : Option Addr} {sl9 : Array (Option Value)}
    {f10 : Addr} {oc10 kV10 dc10 pm10 cd10 ct10 : Value} {od10 an10 : Option Addr} {sl10 : Array (Option Value)}
    {f11 : Addr} {oc11 kV11 dc11 pm11 cd11 ct11 : Value} {od11 an11 : Option Addr} {sl11 : Array (Option Value)}
    {f12 : Addr} {oc12 kV12 dc12 pm12 cd12 ct12 : Value} {od12 an12 : Option Addr} {sl12 : Array (Option Value)}
    {f13 : Addr} {oc13 kV13 dc13 pm13 cd13 ct13 : Value} {od13 an13 : Option Addr} {sl13 : Array (Option Value)}
    {f14 : Addr} {oc14 kV14 dc14 pm14 cd14 ct14 : Value} {od14 an14 : Option Addr} {sl14 : Array (Option Value)}
    {f15 : Addr} {oc15 kV15 dc15 pm15 cd15 ct15 : Value} {od15 an15 : Option Addr} {sl15 : Array (Option Value)}
    {f16 : Addr} {oc16 kV16 dc16 pm16 cd16 ct16 : Value} {od16 an16 : Option Addr} {sl16 : Array (Option Value)}
    {f17 : Addr} {oc17 kV17 dc17 pm17 cd17 ct17 : Value} {od17 an17 : Option Addr} {sl17 : Array (Option Value)}
    {f18 : Addr} {oc18 kV18 dc18 pm18 cd18 ct18 : Value} {od18 an18 : Option Addr} {sl18 : Array (Option Value)}
    {f19 : Addr} {oc19 kV19 dc19 pm19 cd19 ct19 : Value} {od19 an19 : Option Addr} {sl19 : Array (Option Value)}
    {f20 : Addr} {oc20 kV20 dc20 pm20 cd20 ct20 : Value} {od20 an20 : Option Addr} {sl20 : Array (Option Value)}
    {f21 : Addr} {oc21 kV21 dc21 pm21 cd21 ct21 : Value} {od21 an21 : Option Addr} {sl21 : Array (Option Value)}
    {f22 : Addr} {oc22 kV22 dc22 pm22 cd22 ct22 : Value} {od22 an22 : Option Addr} {sl22 : Array (Option Value)}
    {f23 : Addr} {oc23 kV23 dc23 pm23 cd23 ct23 : Value} {od23 an23 : Option Addr} {sl23 : Array (Option Value)}
    {f24 : Addr} {oc24 kV24 dc24 pm24 cd24 ct24 : Value} {od24 an24 : Option Addr} {sl24 : Array (Option Value)}
    {f25 : Addr} {oc25 kV25 dc25 pm25 cd25 ct25 : Value} {od25 an25 : Option Addr} {sl25 : Array (Option Value)}
    {f26 : Addr} {oc26 kV26 dc26 pm26 cd26 ct26 : Value} {od26 an26 : Option Addr} {sl26 : Array (Option Value)}
    {f27 : Addr} {oc27 kV27 dc27 pm27 cd27 ct27 : Value} {od27 an27 : Option Addr} {sl27 : Array (Option Value)}
    {f28 : Addr} {oc28 kV28 dc28 pm28 cd28 ct28 : Value} {od28 an28 : Option Addr} {sl28 : Array (Option Value)}
    {f29 : Addr} {oc29 kV29 dc29 pm29 cd29 ct29 : Value} {od29 an29 : Option Addr} {sl29 : Array (Option Value)}
    {f30 : Addr} {oc30 kV30 dc30 pm30 cd30 ct30 : Value} {od30 an30 : Option Addr} {sl30 : Array (Option Value)}
    {f31 : Addr} {oc31 kV31 dc31 pm31 cd31 ct31 : Value} {od31 an31 : Option Addr} {sl31 : Array (Option Value)}
    {f32 : Addr} {oc32 kV32 dc32 pm32 cd32 ct32 : Value} {od32 an32 : Option Addr} {sl32 : Array (Option Value)}
    {f33 : Addr} {oc33 kV33 dc33 pm33 cd33 ct33 : Value} {od33 an33 : Option Addr} {sl33 : Array (Option Value)}
    {f34 : Addr} {oc34 kV34 dc34 pm34 cd34 ct34 : Value} {od34 an34 : Option Addr} {sl34 : Array (Option Value)}
    {f35 : Addr} {oc35 kV35 dc35 pm35 cd35 ct35 : Value} {od35 an35 : Option Addr} {sl35 : Array (Option Value)}
    {f36 : Addr} {oc36 kV36 dc36 pm36 cd36 ct36 : Value} {od36 an36 : Option Addr} {sl36 : Array (Option Value)}
    {f37 : Addr} {oc37 kV37 dc37 pm37 cd37 ct37 : Value} {od37 an37 : Option Addr} {sl37 : Array (Option Value)}
    {C_AskedTwice : Addr}
    {C_BadFraction : Addr}
    {C_BadSign : Addr}
    {C_BadText : Addr}
    {C_NotAsked : Addr}
    {C_NotNamed : Addr}
    {C_Overspent : Addr}
    {C_StakesError : Addr}
    {C_TooDear : Addr}
    {C_TooMany : Addr}
    {C_Unfit : Addr}
    {C_Unkept : Addr}
    {nmS qS : Str} {NS : Addr} {bsS subS : List Value} {snS : List Str} {abS hdS : Bool} {colS : Option Bool} {ddS : Option Addr} {j0S j1S j2S j3S j5S : Option Value} {nwS : String}
    {fI_BadFraction cda_BadFraction cc_BadFraction N_BadFraction : Addr} {nm_BadFraction qn_BadFraction fl_BadFraction : Str} {tf_BadFraction : Tok} {bs_BadFraction sub_BadFraction : List Value} {sn_BadFraction : List Str} {ab_BadFraction : Bool} {col_BadFraction : Option Bool} {dd_BadFraction : Option Addr} {k0_BadFraction k1_BadFraction k2_BadFraction k3_BadFraction k5_BadFraction : Option Value} {oc_BadFraction kV_BadFraction dc_BadFraction pm_BadFraction ct_BadFraction ccl_BadFraction cl_BadFraction : Value} {od_BadFraction an_BadFraction cdd_BadFraction cld_BadFraction : Option Addr} {osl_BadFraction ccs_BadFraction csl_BadFraction : Array (Option Value)} {vs_BadFraction : Array Value}
    (a0 : PySem.W.nsIn K mainGlobals "is_whole" = some (some (.ref f0))) (l0 : K.lookup f0 = some ⟨oc0, od0, .func (PySem.W.fnOf "is_whole" "is_whole" (defArgs s_is_whole) (defBody s_is_whole) (defScope s_is_whole) .none kV0 dc0 pm0 an0 cd0 ct0), sl0⟩) (c0 : PySem.W.codeIn K cd0 "is_whole" = true) (k0 : PySem.W.keepIn K (.ref f0) = true)
    (a1 : PySem.W.nsIn K mainGlobals "is_fraction" = some (some (.ref f1))) (l1 : K.lookup f1 = some ⟨oc1, od1, .func (PySem.W.fnOf "is_fraction" "is_fraction" (defArgs s_is_fraction) (defBody s_is_fraction) (defScope s_is_fraction) .none kV1 dc1 pm1 an1 cd1 ct1), sl1⟩) (c1 : PySem.W.codeIn K cd1 "is_fraction" = true) (k1 : PySem.W.keepIn K (.ref f1) = true)
    (a2 : PySem.W.nsIn K mainGlobals "fraction" = some (some (.ref f2))) (l2 : K.lookup f2 = some ⟨oc2, od2, .func (PySem.W.fnOf "fraction" "fraction" (defArgs s_fraction) (defBody s_fraction) (defScope s_fraction) .none kV2 dc2 pm2 an2 cd2 ct2), sl2⟩) (c2 : PySem.W.codeIn K cd2 "fraction" = true) (k2 : PySem.W.keepIn K (.ref f2) = true)
    (a3 : PySem.W.nsIn K mainGlobals "plus" = some (some (.ref f3))) (l3 : K.lookup f3 = some ⟨oc3, od3, .func (PySem.W.fnOf "plus" "plus" (defArgs s_plus) (defBody s_plus) (defScope s_plus) .none kV3 dc3 pm3 an3 cd3 ct3), sl3⟩) (c3 : PySem.W.codeIn K cd3 "plus" = true) (k3 : PySem.W.keepIn K (.ref f3) = true)
    (a4 : PySem.W.nsIn K mainGlobals "minus" = some (some (.ref f4))) (l4 : K.lookup f4 = some ⟨oc4, od4, .func (PySem.W.fnOf "minus" "minus" (defArgs s_minus) (defBody s_minus) (defScope s_minus) .none kV4 dc4 pm4 an4 cd4 ct4), sl4⟩) (c4 : PySem.W.codeIn K cd4 "minus" = true) (k4 : PySem.W.keepIn K (.ref f4) = true)
    (a5 : PySem.W.nsIn K mainGlobals "times" = some (some (.ref f5))) (l5 : K.lookup f5 = some ⟨oc5, od5, .func (PySem.W.fnOf "times" "times" (defArgs s_times) (defBody s_times) (defScope s_times) .none kV5 dc5 pm5 an5 cd5 ct5), sl5⟩) (c5 : PySem.W.codeIn K cd5 "times" = true) (k5 : PySem.W.keepIn K (.ref f5) = true)
    (a6 : PySem.W.nsIn K mainGlobals "over" = some (some (.ref f6))) (l6 : K.lookup f6 = some ⟨oc6, od6, .func (PySem.W.fnOf "over" "over" (defArgs s_over) (defBody s_over) (defScope s_over) .none kV6 dc6 pm6 an6 cd6 ct6), sl6⟩) (c6 : PySem.W.codeIn K cd6 "over" = true) (k6 : PySem.W.keepIn K (.ref f6) = true)
    (a7 : PySem.W.nsIn K mainGlobals "less" = some (some (.ref f7))) (l7 : K.lookup f7 = some ⟨oc7, od7, .func (PySem.W.fnOf "less" "less" (defArgs s_less) (defBody s_less) (defScope s_less) .none kV7 dc7 pm7 an7 cd7 ct7), sl7⟩) (c7 : PySem.W.codeIn K cd7 "less" = true) (k7 : PySem.W.keepIn K (.ref f7) = true)
    (a8 : PySem.W.nsIn K mainGlobals "at_most" = some (some (.ref f8))) (l8 : K.lookup f8 = some ⟨oc8, od8, .func (PySem.W.fnOf "at_most" "at_most" (defArgs s_at_most) (defBody s_at_most) (defScope s_at_most) .none kV8 dc8 pm8 an8 cd8 ct8), sl8⟩) (c8 : PySem.W.codeIn K cd8 "at_most" = true) (k8 : PySem.W.keepIn K (.ref f8) = true)
    (a9 : PySem.W.nsIn K mainGlobals "shared" = some (some (.ref f9))) (l9 : K.lookup f9 = some ⟨oc9, od9, .func (PySem.W.fnOf "shared" "shared" (defArgs s_shared) (defBody s_shared) (defScope s_shared) .none kV9 dc9 pm9 an9 cd9 ct9), sl9⟩) (c9 : PySem.W.codeIn K cd9 "shared" = true) (k9 : PySem.W.keepIn K (.ref f9) = true)
    (a10 : PySem.W.nsIn K mainGlobals "total" = some (some (.ref f10))) (l10 : K.lookup f10 = some ⟨oc10, od10, .func (PySem.W.fnOf "total" "total" (defArgs s_total) (defBody s_total) (defScope s_total) .none kV10 dc10 pm10 an10 cd10 ct10), sl10⟩) (c10 : PySem.W.codeIn K cd10 "total" = true) (k10 : PySem.W.keepIn K (.ref f10) = true)
    (a11 : PySem.W.nsIn K mainGlobals "greatest_of" = some (some (.ref f11))) (l11 : K.lookup f11 = some ⟨oc11, od11, .func (PySem.W.fnOf "greatest_of" "greatest_of" (defArgs s_greatest_of) (defBody s_greatest_of) (defScope s_greatest_of) .none kV11 dc11 pm11 an11 cd11 ct11), sl11⟩) (c11 : PySem.W.codeIn K cd11 "greatest_of" = true) (k11 : PySem.W.keepIn K (.ref f11) = true)
    (a12 : PySem.W.nsIn K mainGlobals "least_of_all" = some (some (.ref f12))) (l12 : K.lookup f12 = some ⟨oc12, od12, .func (PySem.W.fnOf "least_of_all" "least_of_all" (defArgs s_least_of_all) (defBody s_least_of_all) (defScope s_least_of_all) .none kV12 dc12 pm12 an12 cd12 ct12), sl12⟩) (c12 : PySem.W.codeIn K cd12 "least_of_all" = true) (k12 : PySem.W.keepIn K (.ref f12) = true)
    (a13 : PySem.W.nsIn K mainGlobals "_law_begin" = some (some (.ref f13))) (l13 : K.lookup f13 = some ⟨oc13, od13, .func (PySem.W.fnOf "_law_begin" "_law_begin" (defArgs s_law_begin) (defBody s_law_begin) (defScope s_law_begin) .none kV13 dc13 pm13 an13 cd13 ct13), sl13⟩) (c13 : PySem.W.codeIn K cd13 "_law_begin" = true) (k13 : PySem.W.keepIn K (.ref f13) = true)
    (a14 : PySem.W.nsIn K mainGlobals "_law_draw" = some (some (.ref f14))) (l14 : K.lookup f14 = some ⟨oc14, od14, .func (PySem.W.fnOf "_law_draw" "_law_draw" (defArgs s_law_draw) (defBody s_law_draw) (defScope s_law_draw) .none kV14 dc14 pm14 an14 cd14 ct14), sl14⟩) (c14 : PySem.W.codeIn K cd14 "_law_draw" = true) (k14 : PySem.W.keepIn K (.ref f14) = true)
    (a15 : PySem.W.nsIn K mainGlobals "_law_pick" = some (some (.ref f15))) (l15 : K.lookup f15 = some ⟨oc15, od15, .func (PySem.W.fnOf "_law_pick" "_law_pick" (defArgs s_law_pick) (defBody s_law_pick) (defScope s_law_pick) .none kV15 dc15 pm15 an15 cd15 ct15), sl15⟩) (c15 : PySem.W.codeIn K cd15 "_law_pick" = true) (k15 : PySem.W.keepIn K (.ref f15) = true)
    (a16 : PySem.W.nsIn K mainGlobals "_law_rare" = some (some (.ref f16))) (l16 : K.lookup f16 = some ⟨oc16, od16, .func (PySem.W.fnOf "_law_rare" "_law_rare" (defArgs s_law_rare) (defBody s_law_rare) (defScope s_law_rare) .none kV16 dc16 pm16 an16 cd16 ct16), sl16⟩) (c16 : PySem.W.codeIn K cd16 "_law_rare" = true) (k16 : PySem.W.keepIn K (.ref f16) = true)
    (a17 : PySem.W.nsIn K mainGlobals "_law_shuffled" = some (some (.ref f17))) (l17 : K.lookup f17 = some ⟨oc17, od17, .func (PySem.W.fnOf "_law_shuffled" "_law_shuffled" (defArgs s_law_shuffled) (defBody s_law_shuffled) (defScope s_law_shuffled) .none kV17 dc17 pm17 an17 cd17 ct17), sl17⟩) (c17 : PySem.W.codeIn K cd17 "_law_shuffled" = true) (k17 : PySem.W.keepIn K (.ref f17) = true)
    (a18 : PySem.W.nsIn K mainGlobals "_law_is_int" = some (some (.ref f18))) (l18 : K.lookup f18 = some ⟨oc18, od18, .func (PySem.W.fnOf "_law_is_int" "_law_is_int" (defArgs s_law_is_int) (defBody s_law_is_int) (defScope s_law_is_int) .none kV18 dc18 pm18 an18 cd18 ct18), sl18⟩) (c18 : PySem.W.codeIn K cd18 "_law_is_int" = true) (k18 : PySem.W.keepIn K (.ref f18) = true)
    (a19 : PySem.W.nsIn K mainGlobals "_law_gcd" = some (some (.ref f19))) (l19 : K.lookup f19 = some ⟨oc19, od19, .func (PySem.W.fnOf "_law_gcd" "_law_gcd" (defArgs s_law_gcd) (defBody s_law_gcd) (defScope s_law_gcd) .none kV19 dc19 pm19 an19 cd19 ct19), sl19⟩) (c19 : PySem.W.codeIn K cd19 "_law_gcd" = true) (k19 : PySem.W.keepIn K (.ref f19) = true)
    (a20 : PySem.W.nsIn K mainGlobals "_law_frac" = some (some (.ref f20))) (l20 : K.lookup f20 = some ⟨oc20, od20, .func (PySem.W.fnOf "_law_frac" "_law_frac" (defArgs s_law_frac) (defBody s_law_frac) (defScope s_law_frac) .none kV20 dc20 pm20 an20 cd20 ct20), sl20⟩) (c20 : PySem.W.codeIn K cd20 "_law_frac" = true) (k20 : PySem.W.keepIn K (.ref f20) = true)
    (a21 : PySem.W.nsIn K mainGlobals "_law_is_frac" = some (some (.ref f21))) (l21 : K.lookup f21 = some ⟨oc21, od21, .func (PySem.W.fnOf "_law_is_frac" "_law_is_frac" (defArgs s_law_is_frac) (defBody s_law_is_frac) (defScope s_law_is_frac) .none kV21 dc21 pm21 an21 cd21 ct21), sl21⟩) (c21 : PySem.W.codeIn K cd21 "_law_is_frac" = true) (k21 : PySem.W.keepIn K (.ref f21) = true)
    (a22 : PySem.W.nsIn K mainGlobals "_law_plus" = some (some (.ref f22))) (l22 : K.lookup f22 = some ⟨oc22, od22, .func (PySem.W.fnOf "_law_plus" "_law_plus" (defArgs s_law_plus) (defBody s_law_plus) (defScope s_law_plus) .none kV22 dc22 pm22 an22 cd22 ct22), sl22⟩) (c22 : PySem.W.codeIn K cd22 "_law_plus" = true) (k22 : PySem.W.keepIn K (.ref f22) = true)
    (a23 : PySem.W.nsIn K mainGlobals "_law_less" = some (some (.ref f23))) (l23 : K.lookup f23 = some ⟨oc23, od23, .func (PySem.W.fnOf "_law_less" "_law_less" (defArgs s_law_less) (defBody s_law_less) (defScope s_law_less) .none kV23 dc23 pm23 an23 cd23 ct23), sl23⟩) (c23 : PySem.W.codeIn K cd23 "_law_less" = true) (k23 : PySem.W.keepIn K (.ref f23) = true)
    (a24 : PySem.W.nsIn K mainGlobals "_law_sum" = some (some (.ref f24))) (l24 : K.lookup f24 = some ⟨oc24, od24, .func (PySem.W.fnOf "_law_sum" "_law_sum" (defArgs s_law_sum) (defBody s_law_sum) (defScope s_law_sum) .none kV24 dc24 pm24 an24 cd24 ct24), sl24⟩) (c24 : PySem.W.codeIn K cd24 "_law_sum" = true) (k24 : PySem.W.keepIn K (.ref f24) = true)
    (a25 : PySem.W.nsIn K mainGlobals "_law_greatest" = some (some (.ref f25))) (l25 : K.lookup f25 = some ⟨oc25, od25, .func (PySem.W.fnOf "_law_greatest" "_law_greatest" (defArgs s_law_greatest) (defBody s_law_greatest) (defScope s_law_greatest) .none kV25 dc25 pm25 an25 cd25 ct25), sl25⟩) (c25 : PySem.W.codeIn K cd25 "_law_greatest" = true) (k25 : PySem.W.keepIn K (.ref f25) = true)
    (a26 : PySem.W.nsIn K mainGlobals "_law_least" = some (some (.ref f26))) (l26 : K.lookup f26 = some ⟨oc26, od26, .func (PySem.W.fnOf "_law_least" "_law_least" (defArgs s_law_least) (defBody s_law_least) (defScope s_law_least) .none kV26 dc26 pm26 an26 cd26 ct26), sl26⟩) (c26 : PySem.W.codeIn K cd26 "_law_least" = true) (k26 : PySem.W.keepIn K (.ref f26) = true)
    (a27 : PySem.W.nsIn K mainGlobals "_law_number" = some (some (.ref f27))) (l27 : K.lookup f27 = some ⟨oc27, od27, .func (PySem.W.fnOf "_law_number" "_law_number" (defArgs s_law_number) (defBody s_law_number) (defScope s_law_number) .none kV27 dc27 pm27 an27 cd27 ct27), sl27⟩) (c27 : PySem.W.codeIn K cd27 "_law_number" = true) (k27 : PySem.W.keepIn K (.ref f27) = true)
    (a28 : PySem.W.nsIn K mainGlobals "_law_some" = some (some (.ref f28))) (l28 : K.lookup f28 = some ⟨oc28, od28, .func (PySem.W.fnOf "_law_some" "_law_some" (defArgs s_law_some) (defBody s_law_some) (defScope s_law_some) .none kV28 dc28 pm28 an28 cd28 ct28), sl28⟩) (c28 : PySem.W.codeIn K cd28 "_law_some" = true) (k28 : PySem.W.keepIn K (.ref f28) = true)
    (a29 : PySem.W.nsIn K mainGlobals "_law_asked" = some (some (.ref f29))) (l29 : K.lookup f29 = some ⟨oc29, od29, .func (PySem.W.fnOf "_law_asked" "_law_asked" (defArgs s_law_asked) (defBody s_law_asked) (defScope s_law_asked) .none kV29 dc29 pm29 an29 cd29 ct29), sl29⟩) (c29 : PySem.W.codeIn K cd29 "_law_asked" = true) (k29 : PySem.W.keepIn K (.ref f29) = true)
    (a30 : PySem.W.nsIn K mainGlobals "_law_is" = some (some (.ref f30))) (l30 : K.lookup f30 = some ⟨oc30, od30, .func (PySem.W.fnOf "_law_is" "_law_is" (defArgs s_law_is) (defBody s_law_is) (defScope s_law_is) .none kV30 dc30 pm30 an30 cd30 ct30), sl30⟩) (c30 : PySem.W.codeIn K cd30 "_law_is" = true) (k30 : PySem.W.keepIn K (.ref f30) = true)
    (a31 : PySem.W.nsIn K mainGlobals "_law_is_quotient" = some (some (.ref f31))) (l31 : K.lookup f31 = some ⟨oc31, od31, .func (PySem.W.fnOf "_law_is_quotient" "_law_is_quotient" (defArgs s_law_is_quotient) (defBody s_law_is_quotient) (defScope s_law_is_quotient) .none kV31 dc31 pm31 an31 cd31 ct31), sl31⟩) (c31 : PySem.W.codeIn K cd31 "_law_is_quotient" = true) (k31 : PySem.W.keepIn K (.ref f31) = true)
    (a32 : PySem.W.nsIn K mainGlobals "_law_pair_told" = some (some (.ref f32))) (l32 : K.lookup f32 = some ⟨oc32, od32, .func (PySem.W.fnOf "_law_pair_told" "_law_pair_told" (defArgs s_law_pair_told) (defBody s_law_pair_told) (defScope s_law_pair_told) .none kV32 dc32 pm32 an32 cd32 ct32), sl32⟩) (c32 : PySem.W.codeIn K cd32 "_law_pair_told" = true) (k32 : PySem.W.keepIn K (.ref f32) = true)
    (a33 : PySem.W.nsIn K mainGlobals "_law_shared_told" = some (some (.ref f33))) (l33 : K.lookup f33 = some ⟨oc33, od33, .func (PySem.W.fnOf "_law_shared_told" "_law_shared_told" (defArgs s_law_shared_told) (defBody s_law_shared_told) (defScope s_law_shared_told) .none kV33 dc33 pm33 an33 cd33 ct33), sl33⟩) (c33 : PySem.W.codeIn K cd33 "_law_shared_told" = true) (k33 : PySem.W.keepIn K (.ref f33) = true)
    (a34 : PySem.W.nsIn K mainGlobals "_law_row_told" = some (some (.ref f34))) (l34 : K.lookup f34 = some ⟨oc34, od34, .func (PySem.W.fnOf "_law_row_told" "_law_row_told" (defArgs s_law_row_told) (defBody s_law_row_told) (defScope s_law_row_told) .none kV34 dc34 pm34 an34 cd34 ct34), sl34⟩) (c34 : PySem.W.codeIn K cd34 "_law_row_told" = true) (k34 : PySem.W.keepIn K (.ref f34) = true)
    (a35 : PySem.W.nsIn K mainGlobals "_law_things" = some (some (.ref f35))) (l35 : K.lookup f35 = some ⟨oc35, od35, .func (PySem.W.fnOf "_law_things" "_law_things" (defArgs s_law_things) (defBody s_law_things) (defScope s_law_things) .none kV35 dc35 pm35 an35 cd35 ct35), sl35⟩) (c35 : PySem.W.codeIn K cd35 "_law_things" = true) (k35 : PySem.W.keepIn K (.ref f35) = true)
    (a36 : PySem.W.nsIn K mainGlobals "_law_thing_told" = some (some (.ref f36))) (l36 : K.lookup f36 = some ⟨oc36, od36, .func (PySem.W.fnOf "_law_thing_told" "_law_thing_told" (defArgs s_law_thing_told) (defBody s_law_thing_told) (defScope s_law_thing_told) .none kV36 dc36 pm36 an36 cd36 ct36), sl36⟩) (c36 : PySem.W.codeIn K cd36 "_law_thing_told" = true) (k36 : PySem.W.keepIn K (.ref f36) = true)
    (a37 : PySem.W.nsIn K mainGlobals "law" = some (some (.ref f37))) (l37 : K.lookup f37 = some ⟨oc37, od37, .func (PySem.W.fnOf "law" "law" (defArgs s_law) (defBody s_law) (defScope s_law) .none kV37 dc37 pm37 an37 cd37 ct37), sl37⟩) (c37 : PySem.W.codeIn K cd37 "law" = true) (k37 : PySem.W.keepIn K (.ref f37) = true)
    (z_ValueError : PySem.W.nsIn K mainGlobals "ValueError" = some none)
    (z_abs : PySem.W.nsIn K mainGlobals "abs" = some none)
    (z_all : PySem.W.nsIn K mainGlobals "all" = some none)
    (z_bool : PySem.W.nsIn K mainGlobals "bool" = some none)
    (g_gcd : PySem.W.nsIn K mainGlobals "gcd" = some (some (.builtin "math.gcd")))
    (z_int : PySem.W.nsIn K mainGlobals "int" = some none)
    (z_isinstance : PySem.W.nsIn K mainGlobals "isinstance" = some none)
    (z_len : PySem.W.nsIn K mainGlobals "len" = some none)
    (z_list : PySem.W.nsIn K mainGlobals "list" = some none)
    (z_range : PySem.W.nsIn K mainGlobals "range" = some none)
    (z_sum : PySem.W.nsIn K mainGlobals "sum" = some none)
    (z_tuple : PySem.W.nsIn K mainGlobals "tuple" = some none)
    (qa_AskedTwice : PySem.W.nsIn K mainGlobals "AskedTwice" = some (some (.ref C_AskedTwice)))
    (qa_BadFraction : PySem.W.nsIn K mainGlobals "BadFraction" = some (some (.ref C_BadFraction)))
    (qa_BadSign : PySem.W.nsIn K mainGlobals "BadSign" = some (some (.ref C_BadSign)))
    (qa_BadText : PySem.W.nsIn K mainGlobals "BadText" = some (some (.ref C_BadText)))
    (qa_NotAsked : PySem.W.nsIn K mainGlobals "NotAsked" = some (some (.ref C_NotAsked)))
    (qa_NotNamed : PySem.W.nsIn K mainGlobals "NotNamed" = some (some (.ref C_NotNamed)))
    (qa_Overspent : PySem.W.nsIn K mainGlobals "Overspent" = some (some (.ref C_Overspent)))
    (qa_StakesError : PySem.W.nsIn K mainGlobals "StakesError" = some (some (.ref C_StakesError)))
    (qa_TooDear : PySem.W.nsIn K mainGlobals "TooDear" = some (some (.ref C_TooDear)))
    (qa_TooMany : PySem.W.nsIn K mainGlobals "TooMany" = some (some (.ref C_TooMany)))
    (qa_Unfit : PySem.W.nsIn K mainGlobals "Unfit" = some (some (.ref C_Unfit)))
    (qa_Unkept : PySem.W.nsIn K mainGlobals "Unkept" = some (some (.ref C_Unkept)))
    (qh_AskedTwice : PySem.W.hasDictIn K C_AskedTwice = true)
    (qt_AskedTwice : PySem.W.typeIn K (.ref C_AskedTwice) = some (.type "type"))
    (qs_AskedTwice : PySem.W.subIn K (.ref C_AskedTwice) (.ref C_AskedTwice) = some true)
    (qb_AskedTwice : PySem.W.subIn K (.ref C_AskedTwice) (.type "BaseException") = some true)
    (qh_BadFraction : PySem.W.hasDictIn K C_BadFraction = true)
    (qt_BadFraction : PySem.W.typeIn K (.ref C_BadFraction) = some (.type "type"))
    (qs_BadFraction : PySem.W.subIn K (.ref C_BadFraction) (.ref C_BadFraction) = some true)
    (qb_BadFraction : PySem.W.subIn K (.ref C_BadFraction) (.type "BaseException") = some true)
    (qh_BadSign : PySem.W.hasDictIn K C_BadSign = true)
    (qt_BadSign : PySem.W.typeIn K (.ref C_BadSign) = some (.type "type"))
    (qs_BadSign : PySem.W.subIn K (.ref C_BadSign) (.ref C_BadSign) = some true)
    (qb_BadSign : PySem.W.subIn K (.ref C_BadSign) (.type "BaseException") = some true)
    (qh_BadText : PySem.W.hasDictIn K C_BadText = true)
    (qt_BadText : PySem.W.typeIn K (.ref C_BadText) = some (.type "type"))
    (qs_BadText : PySem.W.subIn K (.ref C_BadText) (.ref C_BadText) = some true)
    (qb_BadText : PySem.W.subIn K (.ref C_BadText) (.type "BaseException") = some true)
    (qh_NotAsked : PySem.W.hasDictIn K C_NotAsked = true)
    (qt_NotAsked : PySem.W.typeIn K (.ref C_NotAsked) = some (.type "type"))
    (qs_NotAsked : PySem.W.subIn K (.ref C_NotAsked) (.ref C_NotAsked) = some true)
    (qb_NotAsked : PySem.W.subIn K (.ref C_NotAsked) (.type "BaseException") = some true)
    (qh_NotNamed : PySem.W.hasDictIn K C_NotNamed = true)
    (qt_NotNamed : PySem.W.typeIn K (.ref C_NotNamed) = some (.type "type"))
    (qs_NotNamed : PySem.W.subIn K (.ref C_NotNamed) (.ref C_NotNamed) = some true)
    (qb_NotNamed : PySem.W.subIn K (.ref C_NotNamed) (.type "BaseException") = some true)
    (qh_Overspent : PySem.W.hasDictIn K C_Overspent = true)
    (qt_Overspent : PySem.W.typeIn K (.ref C_Overspent) = some (.type "type"))
    (qs_Overspent : PySem.W.subIn K (.ref C_Overspent) (.ref C_Overspent) = some true)
    (qb_Overspent : PySem.W.subIn K (.ref C_Overspent) (.type "BaseException") = some true)
    (qh_StakesError : PySem.W.hasDictIn K C_StakesError = true)
    (qt_StakesError : PySem.W.typeIn K (.ref C_StakesError) = some (.type "type"))
    (qs_StakesError : PySem.W.subIn K (.ref C_StakesError) (.ref C_StakesError) = some true)
    (qb_StakesError : PySem.W.subIn K (.ref C_StakesError) (.type "BaseException") = some true)
    (qh_TooDear : PySem.W.hasDictIn K C_TooDear = true)
    (qt_TooDear : PySem.W.typeIn K (.ref C_TooDear) = some (.type "type"))
    (qs_TooDear : PySem.W.subIn K (.ref C_TooDear) (.ref C_TooDear) = some true)
    (qb_TooDear : PySem.W.subIn K (.ref C_TooDear) (.type "BaseException") = some true)
    (qh_TooMany : PySem.W.hasDictIn K C_TooMany = true)
    (qt_TooMany : PySem.W.typeIn K (.ref C_TooMany) = some (.type "type"))
    (qs_TooMany : PySem.W.subIn K (.ref C_TooMany) (.ref C_TooMany) = some true)
    (qb_TooMany : PySem.W.subIn K (.ref C_TooMany) (.type "BaseException") = some true)
    (qh_Unfit : PySem.W.hasDictIn K C_Unfit = true)
    (qt_Unfit : PySem.W.typeIn K (.ref C_Unfit) = some (.type "type"))
    (qs_Unfit : PySem.W.subIn K (.ref C_Unfit) (.ref C_Unfit) = some true)
    (qb_Unfit : PySem.W.subIn K (.ref C_Unfit) (.type "BaseException") = some true)
    (qh_Unkept : PySem.W.hasDictIn K C_Unkept = true)
    (qt_Unkept : PySem.W.typeIn K (.ref C_Unkept) = some (.type "type"))
    (qs_Unkept : PySem.W.subIn K (.ref C_Unkept) (.ref C_Unkept) = some true)
    (qb_Unkept : PySem.W.subIn K (.ref C_Unkept) (.type "BaseException") = some true)
    (kS : K.lookup C_StakesError = some (excClassObj nmS qS C_StakesError NS bsS veTail hdS snS subS abS colS ddS j0S j1S j2S j3S j5S nwS))
    (hSi : PySem.W.findIn K (.ref C_StakesError) "__init__" = some (some (.builtin "ValueError.__init__")))
    (opq : PySem.W.nsIn K cStatics "thirdparty.any" = some none)
    (z_super : PySem.W.nsIn K mainGlobals "super" = some none)
    (htop : (P.main.scope.names.lookup ("super" : Str)).isSome = false)
    (kC_BadFraction : K.lookup C_BadFraction = some (excClassObj nm_BadFraction qn_BadFraction C_BadFraction N_BadFraction bs_BadFraction (.ref C_StakesError :: veTail) true sn_BadFraction sub_BadFraction ab_BadFraction col_BadFraction dd_BadFraction k0_BadFraction k1_BadFraction k2_BadFraction k3_BadFraction k5_BadFraction "ValueError.__new__"))
    (xa_BadFraction : PySem.W.findIn K (.ref C_BadFraction) "__setattr__" = some (some (.builtin "object.__setattr__")))
    (xk_BadFraction : PySem.W.keepIn K (.ref C_BadFraction) = true)
    (xi_BadFraction : PySem.W.findIn K (.ref C_BadFraction) "__init__" = some (some (.ref fI_BadFraction)))
    (xt_BadFraction : PySem.W.typeIn K (.ref fI_BadFraction) = some (.type "function"))
    (xv_BadFraction : PySem.W.subIn K (.ref C_BadFraction) (.type "ValueError") = some true)
    (xm_BadFraction : PySem.W.mroIn K C_BadFraction (.ref C_BadFraction) = some true)
    (xl_BadFraction : K.lookup fI_BadFraction = some ⟨oc_BadFraction, od_BadFraction, .func (PySem.W.ksFn "__init__" "BadFraction.__init__" (defArgs (initOf s_BadFraction)) (defBody (initOf s_BadFraction)) (defScope (initOf s_BadFraction)) .none kV_BadFraction dc_BadFraction pm_BadFraction an_BadFraction (.ref cda_BadFraction) ct_BadFraction cc_BadFraction), osl_BadFraction⟩)
    (xc_BadFraction : PySem.W.codeIn K (.ref cda_BadFraction) "BadFraction.__init__" = true)
    (xo_BadFraction : K.lookup cda_BadFraction = some ⟨ccl_BadFraction, cdd_BadFraction, .fields vs_BadFraction, ccs_BadFraction⟩)
    (xe_BadFraction : K.lookup cc_BadFraction = some ⟨cl_BadFraction, cld_BadFraction, .cell (some (.ref C_BadFraction)), csl_BadFraction⟩)
    (xs_BadFraction : vs_BadFraction[2]? = some (.str fl_BadFraction tf_BadFraction))
    (xf_BadFraction : ((P.main.file : Str) == fl_BadFraction) = true)
    (qu_BadFraction_StakesError : PySem.W.subIn K (.ref C_BadFraction) (.ref C_StakesError) = some true)
    (e1_BadFraction : PySem.W.findIn K (.ref C_BadFraction) "__getattribute__" = some (some (.builtin "BaseException.__getattribute__")))
    (e2_BadFraction : PySem.W.findIn K (.ref C_BadFraction) "__getattr__" = some none)
    (e3_BadFraction : PySem.W.findIn K (.ref C_BadFraction) "__class__" = some (some (.builtin "object.__class__")))
    (e6_BadFraction : PySem.W.mroIn K C_BadFraction (.type "object") = some true)
    (e4 : PySem.W.specialIn K (.builtin "object.__class__") "__get__" = some (some (.builtin "getset_descriptor.__get__")))
    (e5 : PySem.W.takesIn K (.builtin "object.__class__") = some true)
    (qu_BadFraction_BadFraction : PySem.W.subIn K (.ref C_BadFraction) (.ref C_BadFraction) = some true)
    (qv_BadFraction_ValueError : PySem.W.subIn K (.ref C_BadFraction) (.type "ValueError") = some true)
    (qu_BadFraction_NotNamed : PySem.W.subIn K (.ref C_BadFraction) (.ref C_NotNamed) = some false)
    (qu_BadFraction_NotAsked : PySem.W.subIn K (.ref C_BadFraction) (.ref C_NotAsked) = some false)
    (qu_BadFraction_BadText : PySem.W.subIn K (.ref C_BadFraction) (.ref C_BadText) = some false)
    (qu_BadFraction_BadSign : PySem.W.subIn K (.ref C_BadFraction) (.ref C_BadSign) = some false)
    (qu_BadFraction_AskedTwice : PySem.W.subIn K (.ref C_BadFraction) (.ref C_AskedTwice) = some false)
    (qu_BadFraction_Unkept : PySem.W.subIn K (.ref C_BadFraction) (.ref C_Unkept) = some false)
    (qu_BadFraction_Unfit : PySem.W.subIn K (.ref C_BadFraction) (.ref C_Unfit) = some false)
    (qu_BadFraction_TooMany : PySem.W.subIn K (.ref C_BadFraction) (.ref C_TooMany) = some false)
    (qu_BadFraction_TooDear : PySem.W.subIn K (.ref C_BadFraction) (.ref C_TooDear) = some false)
    (qu_BadFraction_Overspent : PySem.W.subIn K (.ref C_BadFraction) (.ref C_Overspent) = some false) :
    ∃ fd : FuncData, (∀ (s : Shared) (v : Value), BindsTo s fd ⟨[v], []⟩ [("script", v)]) ∧ ∀ base : Heap, K.In base → base.Ns mainGlobals mg → FnOk P w K mg base (L2.CX P w) 7 fa fd ["script"] (spOf K spLaw) := by
  have e := hfa.symm.trans (PySem.W.mg_of X G a37)
  cases e
  have F0 := fun_mk (st := s_is_whole) l0 c0 k0
  have b0 := F0.binds (ps := ["thing"]) fun _ _ _ _ _ _ us hl => match us, hl with | [_], _ => rfl
  have F1 := fun_mk (st := s_is_fraction) l1 c1 k1
  have b1 := F1.binds (ps := ["thing"]) fun _ _ _ _ _ _ us hl => match us, hl with | [_], _ => rfl
  have F2 := fun_mk (st := s_fraction) l2 c2 k2
  have b2 := F2.binds (ps := ["n", "d"]) fun _ _ _ _ _ _ us hl => match us, hl with | [_, _], _ => rfl
  have F3 := fun_mk (st := s_plus) l3 c3 k3
  have b3 := F3.binds (ps := ["a", "b"]) fun _ _ _ _ _ _ us hl => match us, hl with | [_, _], _ => rfl
  have F4 := fun_mk (st := s_minus) l4 c4 k4
  have b4 := F4.binds (ps := ["a", "b"]) fun _ _ _ _ _ _ us hl => match us, hl with | [_, _], _ => rfl
  have F5 := fun_mk (st := s_times) l5 c5 k5
  have b5 := F5.binds (ps := ["a", "b"]) fun _ _ _ _ _ _ us hl => match us, hl with | [_, _], _ => rfl
  have F6 := fun_mk (st := s_over) l6 c6 k6
  have b6 := F6.binds (ps := ["a", "b"]) fun _ _ _ _ _ _ us hl => match us, hl with | [_, _], _ => rfl
  have F7 := fun_mk (st := s_less) l7 c7 k7
  have b7 := F7.binds (ps := ["a", "b"]) fun _ _ _ _ _ _ us hl => match us, hl with | [_, _], _ => rfl
  have F8 := fun_mk (st := s_at_most) l8 c8 k8
  have b8 := F8.binds (ps := ["a", "b"]) fun _ _ _ _ _ _ us hl => match us, hl with | [_, _], _ => rfl
  have F9 := fun_mk (st := s_shared) l9 c9 k9
  have b9 := F9.binds (ps := ["row"]) fun _ _ _ _ _ _ us hl => match us, hl with | [_], _ => rfl
  have F10 := fun_mk (st := s_total) l10 c10 k10
  have b10 := F10.binds (ps := ["row"]) fun _ _ _ _ _ _ us hl => match us, hl with | [_], _ => rfl
  have F11 := fun_mk (st := s_greatest_of) l11 c11 k11
  have b11 := F11.binds (ps := ["row"]) fun _ _ _ _ _ _ us hl => match us, hl with | [_], _ => rfl
  have F12 := fun_mk (st := s_least_of_all) l12 c12 k12
  have b12 := F12.binds (ps := ["row"]) fun _ _ _ _ _ _ us hl => match us, hl with | [_], _ => rfl
  have F13 := fun_mk (st := s_law_begin) l13 c13 k13
  have b13 := F13.binds (ps := ["script"]) fun _ _ _ _ _ _ us hl => match us, hl with | [_], _ => rfl
  have F14 := fun_mk (st := s_law_draw) l14 c14 k14
  have b14 := F14.binds (ps := ["d", "many"]) fun _ _ _ _ _ _ us hl => match us, hl with | [_, _], _ => rfl
  have F15 := fun_mk (st := s_law_pick) l15 c15 k15
  have b15 := F15.binds (ps := ["d", "row"]) fun _ _ _ _ _ _ us hl => match us, hl with | [_, _], _ => rfl
  have F16 := fun_mk (st := s_law_rare) l16 c16 k16
  have b16 := F16.binds (ps := ["d", "many"]) fun _ _ _ _ _ _ us hl => match us, hl with | [_, _], _ => rfl
  have F17 := fun_mk (st := s_law_shuffled) l17 c17 k17
  have b17 := F17.binds (ps := ["d", "row"]) fun _ _ _ _ _ _ us hl => match us, hl with | [_, _], _ => rfl
  have F18 := fun_mk (st := s_law_is_int) l18 c18 k18
  have b18 := F18.binds (ps := ["thing"]) fun _ _ _ _ _ _ us hl => match us, hl with | [_], _ => rfl
  have F19 := fun_mk (st := s_law_gcd) l19 c19 k19
  have b19 := F19.binds (ps := ["a", "b"]) fun _ _ _ _ _ _ us hl => match us, hl with | [_, _], _ => rfl
  have F20 := fun_mk (st := s_law_frac) l20 c20 k20
  have b20 := F20.binds (ps := ["n", "d"]) fun _ _ _ _ _ _ us hl => match us, hl with | [_, _], _ => rfl
  have F21 := fun_mk (st := s_law_is_frac) l21 c21 k21
  have b21 := F21.binds (ps := ["thing"]) fun _ _ _ _ _ _ us hl => match us, hl with | [_], _ => rfl
  have F22 := fun_mk (st := s_law_plus) l22 c22 k22
  have b22 := F22.binds (ps := ["a", "b"]) fun _ _ _ _ _ _ us hl => match us, hl with | [_, _], _ => rfl
  have F23 := fun_mk (st := s_law_less) l23 c23 k23
  have b23 := F23.binds (ps := ["a", "b"]) fun _ _ _ _ _ _ us hl => match us, hl with | [_, _], _ => rfl
  have F24 := fun_mk (st := s_law_sum) l24 c24 k24
  have b24 := F24.binds (ps := ["row"]) fun _ _ _ _ _ _ us hl => match us, hl with | [_], _ => rfl
  have F25 := fun_mk (st := s_law_greatest) l25 c25 k25
  have b25 := F25.binds (ps := ["row"]) fun _ _ _ _ _ _ us hl => match us, hl with | [_], _ => rfl
  have F26 := fun_mk (st := s_law_least) l26 c26 k26
  have b26 := F26.binds (ps := ["row"]) fun _ _ _ _ _ _ us hl => match us, hl with | [_], _ => rfl
  have F27 := fun_mk (st := s_law_number) l27 c27 k27
  have b27 := F27.binds (ps := ["d"]) fun _ _ _ _ _ _ us hl => match us, hl with | [_], _ => rfl
  have F28 := fun_mk (st := s_law_some) l28 c28 k28
  have b28 := F28.binds (ps := ["d", "row"]) fun _ _ _ _ _ _ us hl => match us, hl with | [_, _], _ => rfl
  have F29 := fun_mk (st := s_law_asked) l29 c29 k29
  have b29 := F29.binds (ps := ["is_over", "a", "b"]) fun _ _ _ _ _ _ us hl => match us, hl with | [_, _, _], _ => rfl
  have F30 := fun_mk (st := s_law_is) l30 c30 k30
  have b30 := F30.binds (ps := ["told", "n", "under"]) fun _ _ _ _ _ _ us hl => match us, hl with | [_, _, _], _ => rfl
  have F31 := fun_mk (st := s_law_is_quotient) l31 c31 k31
  have b31 := F31.binds (ps := ["is_over", "a", "b", "n", "under"]) fun _ _ _ _ _ _ us hl => match us, hl with | [_, _, _, _, _], _ => rfl
  have F32 := fun_mk (st := s_law_pair_told) l32 c32 k32
  have b32 := F32.binds (ps := ["a", "b"]) fun _ _ _ _ _ _ us hl => match us, hl with | [_, _], _ => rfl
  have F33 := fun_mk (st := s_law_shared_told) l33 c33 k33
  have b33 := F33.binds (ps := ["row"]) fun _ _ _ _ _ _ us hl => match us, hl with | [_], _ => rfl
  have F34 := fun_mk (st := s_law_row_told) l34 c34 k34
  have b34 := F34.binds (ps := ["row"]) fun _ _ _ _ _ _ us hl => match us, hl with | [_], _ => rfl
  have F35 := fun_mk (st := s_law_things) l35 c35 k35
  have b35 := F35.binds (ps := ["d", "one"]) fun _ _ _ _ _ _ us hl => match us, hl with | [_, _], _ => rfl
  have F36 := fun_mk (st := s_law_thing_told) l36 c36 k36
  have b36 := F36.binds (ps := ["thing"]) fun _ _ _ _ _ _ us hl => match us, hl with | [_], _ => rfl
  have F37 := fun_mk (st := s_law) l37 c37 k37
  have b37 := F37.binds (ps := ["script"]) fun _ _ _ _ _ _ us hl => match us, hl with | [_], _ => rfl
  refine ⟨PySem.W.fnOf "law" "law" (defArgs s_law) (defBody s_law) (defScope s_law) .none kV37 dc37 pm37 an37 cd37 ct37, fun s v => .of_eq rfl, fun base _ _ => ?_⟩
  have cb_AskedTwice : CB K C_AskedTwice := ⟨qh_AskedTwice, qt_AskedTwice, qs_AskedTwice, qb_AskedTwice⟩
  have cb_BadFraction : CB K C_BadFraction := ⟨qh_BadFraction, qt_BadFraction, qs_BadFraction, qb_BadFraction⟩
  have cb_BadSign : CB K C_BadSign := ⟨qh_BadSign, qt_BadSign, qs_BadSign, qb_BadSign⟩
  have cb_BadText : CB K C_BadText := ⟨qh_BadText, qt_BadText, qs_BadText, qb_BadText⟩
  have cb_NotAsked : CB K C_NotAsked := ⟨qh_NotAsked, qt_NotAsked, qs_NotAsked, qb_NotAsked⟩
  have cb_NotNamed : CB K C_NotNamed := ⟨qh_NotNamed, qt_NotNamed, qs_NotNamed, qb_NotNamed⟩
  have cb_Overspent : CB K C_Overspent := ⟨qh_Overspent, qt_Overspent, qs_Overspent, qb_Overspent⟩
  have cb_StakesError : CB K C_StakesError := ⟨qh_StakesError, qt_StakesError, qs_StakesError, qb_StakesError⟩
  have cb_TooDear : CB K C_TooDear := ⟨qh_TooDear, qt_TooDear, qs_TooDear, qb_TooDear⟩
  have cb_TooMany : CB K C_TooMany := ⟨qh_TooMany, qt_TooMany, qs_TooMany, qb_TooMany⟩
  have cb_Unfit : CB K C_Unfit := ⟨qh_Unfit, qt_Unfit, qs_Unfit, qb_Unfit⟩
  have cb_Unkept : CB K C_Unkept := ⟨qh_Unkept, qt_Unkept, qs_Unkept, qb_Unkept⟩
  have x_BadFraction : XC0 P K mg "BadFraction" C_BadFraction := ⟨fI_BadFraction, defArgs (initOf s_BadFraction), defScope (initOf s_BadFraction), xb_mk (PySem.W.mg_of X G qa_BadFraction) (PySem.W.mg_none_of X G z_super) kC_BadFraction kS hSi xa_BadFraction qb_BadFraction qt_BadFraction xk_BadFraction xi_BadFraction xt_BadFraction xv_BadFraction opq xm_BadFraction xl_BadFraction xc_BadFraction xo_BadFraction xe_BadFraction xs_BadFraction xf_BadFraction htop rfl rfl (fun us hl => match us, (hl.trans (rfl : (defArgs (initOf s_BadFraction)).args.length = 1)) with | [_], _ => rfl) rfl rfl rfl rfl rfl rfl rfl (by decide) rfl rfl, rfl⟩
  have ec_BadFraction : EC K C_BadFraction := ec_mk qh_BadFraction e1_BadFraction e2_BadFraction qb_BadFraction e3_BadFraction e4 e5 e6_BadFraction
  let T : Txt P K mg := { f_is_whole := f0, fd_is_whole := _, F_is_whole := F0, m_is_whole := PySem.W.mg_of X G a0, b_is_whole := b0, f_is_fraction := f1, fd_is_fraction := _, F_is_fraction := F1, m_is_fraction := PySem.W.mg_of X G a1, b_is_fraction := b1, f_fraction := f2, fd_fraction := _, F_fraction := F2, m_fraction := PySem.W.mg_of X G a2, b_fraction := b2, f_plus := f3, fd_plus := _, F_plus := F3, m_plus := PySem.W.mg_of X G a3, b_plus := b3, f_minus := f4, fd_minus := _, F_minus := F4, m_minus := PySem.W.mg_of X G a4, b_minus := b4, f_times := f5, fd_times := _, F_times := F5, m_times := PySem.W.mg_of X G a5, b_times := b5, f_over := f6, fd_over := _, F_over := F6, m_over := PySem.W.mg_of X G a6, b_over := b6, f_less := f7, fd_less := _, F_less := F7, m_less := PySem.W.mg_of X G a7, b_less := b7, f_at_most := f8, fd_at_most := _, F_at_most := F8, m_at_most := PySem.W.mg_of X G a8, b_at_most := b8, f_shared := f9, fd_shared := _, F_shared := F9, m_shared := PySem.W.mg_of X G a9, b_shared := b9, f_total := f10, fd_total := _, F_total := F10, m_total := PySem.W.mg_of X G a10, b_total := b10, f_greatest_of := f11, fd_greatest_of := _, F_greatest_of := F11, m_greatest_of := PySem.W.mg_of X G a11, b_greatest_of := b11, f_least_of_all := f12, fd_least_of_all := _, F_least_of_all := F12, m_least_of_all := PySem.W.mg_of X G a12, b_least_of_all := b12, f_law_begin := f13, fd_law_begin := _, F_law_begin := F13, m_law_begin := PySem.W.mg_of X G a13, b_law_begin := b13, f_law_draw := f14, fd_law_draw := _, F_law_draw := F14, m_law_draw := PySem.W.mg_of X G a14, b_law_draw := b14, f_law_pick := f15, fd_law_pick := _, F_law_pick := F15, m_law_pick := PySem.W.mg_of X G a15, b_law_pick := b15, f_law_rare := f16, fd_law_rare := _, F_law_rare := F16, m_law_rare := PySem.W.mg_of X G a16, b_law_rare := b16, f_law_shuffled := f17, fd_law_shuffled := _, F_law_shuffled := F17, m_law_shuffled := PySem.W.mg_of X G a17, b_law_shuffled := b17, f_law_is_int := f18, fd_law_is_int := _, F_law_is_int := F18, m_law_is_int := PySem.W.mg_of X G a18, b_law_is_int := b18, f_law_gcd := f19, fd_law_gcd := _, F_law_gcd := F19, m_law_gcd := PySem.W.mg_of X G a19, b_law_gcd := b19, f_law_frac := f20, fd_law_frac := _, F_law_frac := F20, m_law_frac := PySem.W.mg_of X G a20, b_law_frac := b20, f_law_is_frac := f21, fd_law_is_frac := _, F_law_is_frac := F21, m_law_is_frac := PySem.W.mg_of X G a21, b_law_is_frac := b21, f_law_plus := f22, fd_law_plus := _, F_law_plus := F22, m_law_plus := PySem.W.mg_of X G a22, b_law_plus := b22, f_law_less := f23, fd_law_less := _, F_law_less := F23, m_law_less := PySem.W.mg_of X G a23, b_law_less := b23, f_law_sum := f24, fd_law_sum := _, F_law_sum := F24, m_law_sum := PySem.W.mg_of X G a24, b_law_sum := b24, f_law_greatest := f25, fd_law_greatest := _, F_law_greatest := F25, m_law_greatest := PySem.W.mg_of X G a25, b_law_greatest := b25, f_law_least := f26, fd_law_least := _, F_law_least := F26, m_law_least := PySem.W.mg_of X G a26, b_law_least := b26, f_law_number := f27, fd_law_number := _, F_law_number := F27, m_law_number := PySem.W.mg_of X G a27, b_law_number := b27, f_law_some := f28, fd_law_some := _, F_law_some := F28, m_law_some := PySem.W.mg_of X G a28, b_law_some := b28, f_law_asked := f29, fd_law_asked := _, F_law_asked := F29, m_law_asked := PySem.W.mg_of X G a29, b_law_asked := b29, f_law_is := f30, fd_law_is := _, F_law_is := F30, m_law_is := PySem.W.mg_of X G a30, b_law_is := b30, f_law_is_quotient := f31, fd_law_is_quotient := _, F_law_is_quotient := F31, m_law_is_quotient := PySem.W.mg_of X G a31, b_law_is_quotient := b31, f_law_pair_told := f32, fd_law_pair_told := _, F_law_pair_told := F32, m_law_pair_told := PySem.W.mg_of X G a32, b_law_pair_told := b32, f_law_shared_told := f33, fd_law_shared_told := _, F_law_shared_told := F33, m_law_shared_told := PySem.W.mg_of X G a33, b_law_shared_told := b33, f_law_row_told := f34, fd_law_row_told := _, F_law_row_told := F34, m_law_row_told := PySem.W.mg_of X G a34, b_law_row_told := b34, f_law_things := f35, fd_law_things := _, F_law_things := F35, m_law_things := PySem.W.mg_of X G a35, b_law_things := b35, f_law_thing_told := f36, fd_law_thing_told := _, F_law_thing_told := F36, m_law_thing_told := PySem.W.mg_of X G a36, b_law_thing_told := b36, f_law := fa, fd_law := _, F_law := F37, m_law := PySem.W.mg_of X G a37, b_law := b37, z_ValueError := PySem.W.mg_none_of X G z_ValueError, z_abs := PySem.W.mg_none_of X G z_abs, z_all := PySem.W.mg_none_of X G z_all, z_bool := PySem.W.mg_none_of X G z_bool, g_gcd := PySem.W.mg_of X G g_gcd, z_int := PySem.W.mg_none_of X G z_int, z_isinstance := PySem.W.mg_none_of X G z_isinstance, z_len := PySem.W.mg_none_of X G z_len, z_list := PySem.W.mg_none_of X G z_list, z_range := PySem.W.mg_none_of X G z_range, z_sum := PySem.W.mg_none_of X G z_sum, z_tuple := PySem.W.mg_none_of X G z_tuple, c_AskedTwice := C_AskedTwice, m_AskedTwice := PySem.W.mg_of X G qa_AskedTwice, c_BadFraction := C_BadFraction, m_BadFraction := PySem.W.mg_of X G qa_BadFraction, c_BadSign := C_BadSign, m_BadSign := PySem.W.mg_of X G qa_BadSign, c_BadText := C_BadText, m_BadText := PySem.W.mg_of X G qa_BadText, c_NotAsked := C_NotAsked, m_NotAsked := PySem.W.mg_of X G qa_NotAsked, c_NotNamed := C_NotNamed, m_NotNamed := PySem.W.mg_of X G qa_NotNamed, c_Overspent := C_Overspent, m_Overspent := PySem.W.mg_of X G qa_Overspent, c_StakesError := C_StakesError, m_StakesError := PySem.W.mg_of X G qa_StakesError, c_TooDear := C_TooDear, m_TooDear := PySem.W.mg_of X G qa_TooDear, c_TooMany := C_TooMany, m_TooMany := PySem.W.mg_of X G qa_TooMany, c_Unfit := C_Unfit, m_Unfit := PySem.W.mg_of X G qa_Unfit, c_Unkept := C_Unkept, m_Unkept := PySem.W.mg_of X G qa_Unkept, x_BadFraction := x_BadFraction }
  have h_is_whole : FnD P w K mg base 1 T.f_is_whole T.fd_is_whole ["thing"] spIsInt := ok_is_whole T  len_is_int read_is_whole
  have h_is_fraction : FnD P w K mg base 2 T.f_is_fraction T.fd_is_fraction ["thing"] spIsFr := ok_is_fraction T h_is_whole len_isfr read_is_fraction
  have h_fraction : FnD P w K mg base 2 T.f_fraction T.fd_fraction ["n", "d"] (spFracX T.c_BadFraction) := ok_fraction T  len_fracX read_fractionX
  have h_plus : FnD P w K mg base 3 T.f_plus T.fd_plus ["a", "b"] spPlus := ok_plus T (fn_weak h_fraction fracX_of) len_q2 read_plus2
  have h_minus : FnD P w K mg base 3 T.f_minus T.fd_minus ["a", "b"] spMinus := ok_minus T (fn_weak h_fraction fracX_of) len_q2 read_minus2
  have h_times : FnD P w K mg base 3 T.f_times T.fd_times ["a", "b"] spTimes := ok_times T (fn_weak h_fraction fracX_of) len_times read_times
  have h_over : FnD P w K mg base 3 T.f_over T.fd_over ["a", "b"] (spOverX T.c_BadFraction) := ok_over T h_fraction len_overX read_overX
  have h_less : FnD P w K mg base 1 T.f_less T.fd_less ["a", "b"] spLess := ok_less T  len_less read_less2
  have h_at_most : FnD P w K mg base 1 T.f_at_most T.fd_at_most ["a", "b"] spAtMost := ok_at_most T  len_at_most read_at_most
  have h_shared : FnD P w K mg base 1 T.f_shared T.fd_shared ["row"] spSharedL := ok_shared T  len_sharedL read_sharedL
  have h_total : FnD P w K mg base 3 T.f_total T.fd_total ["row"] spTotal := ok_total T (fn_weak h_shared sharedL_of) (fn_weak h_fraction fracX_of) len_total read_total
  have h_greatest_of : FnD P w K mg base 2 T.f_greatest_of T.fd_greatest_of ["row"] spGreatest := ok_greatest_of T h_less len_greatest read_greatest2
  have h_least_of_all : FnD P w K mg base 2 T.f_least_of_all T.fd_least_of_all ["row"] spLeast := ok_least_of_all T h_less len_least read_least2
  have h_law_begin : FnD P w K mg base 1 T.f_law_begin T.fd_law_begin ["script"] spBegin := ok_law_begin T  len_begin read_begin
  have h_law_draw : FnD P w K mg base 1 T.f_law_draw T.fd_law_draw ["d", "many"] spDraw := ok_law_draw T  len_draw read_draw
  have h_law_pick : FnD P w K mg base 2 T.f_law_pick T.fd_law_pick ["d", "row"] spPick := ok_law_pick T h_law_draw len_pick read_pick
  have h_law_rare : FnD P w K mg base 2 T.f_law_rare T.fd_law_rare ["d", "many"] spRare := ok_law_rare T h_law_draw len_rare read_rare
  have h_law_shuffled : FnD P w K mg base 2 T.f_law_shuffled T.fd_law_shuffled ["d", "row"] spShuffled := ok_law_shuffled T h_law_draw len_shuffled read_shuffled
  have h_law_is_int : FnD P w K mg base 1 T.f_law_is_int T.fd_law_is_int ["thing"] spIsInt := ok_law_is_int T  len_is_int read_is_int
  have h_law_gcd : FnD P w K mg base 1 T.f_law_gcd T.fd_law_gcd ["a", "b"] spGcd := ok_law_gcd T  len_gcd read_gcd
  have h_law_frac : FnD P w K mg base 2 T.f_law_frac T.fd_law_frac ["n", "d"] spFrac := ok_law_frac T h_law_gcd len_frac read_frac
  have h_law_is_frac : FnD P w K mg base 2 T.f_law_is_frac T.fd_law_is_frac ["thing"] spIsFr := ok_law_is_frac T h_law_is_int h_law_gcd len_isfr read_is_frac
  have h_law_plus : FnD P w K mg base 3 T.f_law_plus T.fd_law_plus ["a", "b"] spPlus := ok_law_plus T h_law_frac len_q2 read_plus
  have h_law_less : FnD P w K mg base 1 T.f_law_less T.fd_law_less ["a", "b"] spLess := ok_law_less T  len_less read_less
  have h_law_sum : FnD P w K mg base 3 T.f_law_sum T.fd_law_sum ["row"] spSumQ := ok_law_sum T h_law_gcd h_law_frac len_sumq read_sumq
  have h_law_greatest : FnD P w K mg base 2 T.f_law_greatest T.fd_law_greatest ["row"] spGreatest := ok_law_greatest T h_law_less len_greatest read_greatest
  have h_law_least : FnD P w K mg base 2 T.f_law_least T.fd_law_least ["row"] spLeast := ok_law_least T h_law_less len_least read_leastL
  have h_law_number : FnD P w K mg base 2 T.f_law_number T.fd_law_number ["d"] spNumber := ok_law_number T h_law_draw len_number read_number
  have h_law_some : FnD P w K mg base 4 T.f_law_some T.fd_law_some ["d", "row"] spSome := ok_law_some T h_law_draw h_law_pick h_law_plus h_law_number h_law_frac len_some read_some
  have h_law_asked : FnD P w K mg base 4 T.f_law_asked T.fd_law_asked ["is_over", "a", "b"] spAsked := ok_law_asked T h_over h_fraction len_asked (read_asked ⟨exm_of cb_StakesError qu_BadFraction_StakesError, fun _ => ⟨ec_BadFraction, trivial⟩⟩ (kit_ref cb_BadFraction qu_BadFraction_BadFraction) (kit_ty' qv_BadFraction_ValueError) (any_no (kit_ref cb_AskedTwice qu_BadFraction_AskedTwice) (any_no (kit_ref cb_BadSign qu_BadFraction_BadSign) (any_no (kit_ref cb_BadText qu_BadFraction_BadText) (any_no (kit_ref cb_NotAsked qu_BadFraction_NotAsked) (any_no (kit_ref cb_NotNamed qu_BadFraction_NotNamed) any_nil))))) (any_no (kit_ref cb_Overspent qu_BadFraction_Overspent) (any_no (kit_ref cb_TooDear qu_BadFraction_TooDear) (any_no (kit_ref cb_TooMany qu_BadFraction_TooMany) (any_no (kit_ref cb_Unfit qu_BadFraction_Unfit) (any_no (kit_ref cb_Unkept qu_BadFraction_Unkept) any_nil))))))
  have h_law_is : FnD P w K mg base 3 T.f_law_is T.fd_law_is ["told", "n", "under"] spIs := ok_law_is T h_law_is_frac len_is read_is
  have h_law_is_quotient : FnD P w K mg base 5 T.f_law_is_quotient T.fd_law_is_quotient ["is_over", "a", "b", "n", "under"] spIsQuot := ok_law_is_quotient T h_law_asked h_law_is len_isquot read_isquot
  have h_law_pair_told : FnD P w K mg base 6 T.f_law_pair_told T.fd_law_pair_told ["a", "b"] spPairTold := ok_law_pair_told T h_law_is h_plus h_minus h_times h_law_is_quotient h_less h_at_most len_pairtold read_pairtold
  have h_law_shared_told : FnD P w K mg base 2 T.f_law_shared_told T.fd_law_shared_told ["row"] spSharedTold := ok_law_shared_told T h_shared h_law_is_int h_law_gcd len_sharedTold read_sharedTold
  have h_law_row_told : FnD P w K mg base 4 T.f_law_row_told T.fd_law_row_told ["row"] spRowTold := ok_law_row_told T h_total h_law_is_frac h_law_sum h_law_shared_told h_greatest_of h_least_of_all h_law_greatest h_law_least len_rowTold read_rowTold
  have h_law_things : FnD P w K mg base 3 T.f_law_things T.fd_law_things ["d", "one"] spThings := ok_law_things T h_law_draw h_law_shuffled len_things read_things
  have h_law_thing_told : FnD P w K mg base 3 T.f_law_thing_told T.fd_law_thing_told ["thing"] spThingTold := ok_law_thing_told T h_is_fraction h_law_is_frac len_thingTold read_thingTold
  have h_law : FnD P w K mg base 7 T.f_law T.fd_law ["script"] spLaw := ok_law T h_law_begin h_law_draw h_law_number h_law_some h_law_pick h_law_is_quotient h_law_pair_told h_law_things h_law_thing_told h_law_row_told h_law_rare h_law_frac len_law read_law
  exact h_law
end K01
end DL

open PySem PySem.W PyProof.Rows
set_option maxRecDepth 100000 in
set_option maxHeartbeats 16000000 in
theorem PySem.Challenge.cw_carriedstakes_k01_fractions_holds : PySem.Challenge.rw_carriedstakes_k01_fractions.Holds := by
  w_on; o_law; k_head; (case hw => w_witness2)
  k_fill
  refine L2.walk_of (l := PySem.Challenge.rw_carriedstakes_k01_fractions) (n := 63) (k := 7) (x := "script") (CX := fun w => L2.CX PySem.Challenge.rw_carriedstakes_k01_fractions.prog w) (sp := fun w => DL.spOf _ DL.K01.spLaw) rfl (by decide) rfl ⟨rfl, by decide, by decide⟩ (fun w h Y => PySem.W.kIn_of Y) ?F (fun _ _ a ns hl hO hS => DL.law_start hO hS ⟨ns, rfl, Nat.le_trans hl (by decide), fun _ => rfl⟩) (fun _ _ _ _ _ h => DL.no_cx h)
  case F =>
    intro w mg fa h KX G hmg
    refine' DL.K01.all_mk KX G hmg ?a0 ?l0 ?c0 ?k0 ?a1 ?l1 ?c1 ?k1 ?a2 ?l2 ?c2 ?k2 ?a3 ?l3 ?c3 ?k3 ?a4 ?l4 ?c4 ?k4 ?a5 ?l5 ?c5 ?k5 ?a6 ?l6 ?c6 ?k6 ?a7 ?l7 ?c7 ?k7 ?a8 ?l8 ?c8 ?k8 ?a9 ?l9 ?c9 ?k9 ?a10 ?l10 ?c10 ?k10 ?a11 ?l11 ?c11 ?k11 ?a12 ?l12 ?c12 ?k12 ?a13 ?l13 ?c13 ?k13 ?a14 ?l14 ?c14 ?k14 ?a15 ?l15 ?c15 ?k15 ?a16 ?l16 ?c16 ?k16 ?a17 ?l17 ?c17 ?k17 ?a18 ?l18 ?c18 ?k18 ?a19 ?l19 ?c19 ?k19 ?a20 ?l20 ?c20 ?k20 ?a21 ?l21 ?c21 ?k21 ?a22 ?l22 ?c22 ?k22 ?a23 ?l23 ?c23 ?k23 ?a24 ?l24 ?c24 ?k24 ?a25 ?l25 ?c25 ?k25 ?a26 ?l26 ?c26 ?k26 ?a27 ?l27 ?c27 ?k27 ?a28 ?l28 ?c28 ?k28 ?a29 ?l29 ?c29 ?k29 ?a30 ?l30 ?c30 ?k30 ?a31 ?l31 ?c31 ?k31 ?a32 ?l32 ?c32 ?k32 ?a33 ?l33 ?c33 ?k33 ?a34 ?l34 ?c34 ?k34 ?a35 ?l35 ?c35 ?k35 ?a36 ?l36 ?c36 ?k36 ?a37 ?l37 ?c37 ?k37 ?z_ValueError ?z_abs ?z_all ?z_bool ?g_gcd ?z_int ?z_isinstance ?z_len ?z_list ?z_range ?z_sum ?z_tuple ?qa_AskedTwice ?qa_BadFraction ?qa_BadSign ?qa_BadText ?qa_NotAsked ?qa_NotNamed ?qa_Overspent ?qa_StakesError ?qa_TooDear ?qa_TooMany ?qa_Unfit ?qa_Unkept ?qh_AskedTwice ?qt_AskedTwice ?qs_AskedTwice ?qb_AskedTwice ?qh_BadFraction ?qt_BadFraction ?qs_BadFraction ?qb_BadFraction ?qh_BadSign ?qt_BadSign ?qs_BadSign ?qb_BadSign ?qh_BadText ?qt_BadText ?qs_BadText ?qb_BadText ?qh_NotAsked ?qt_NotAsked ?qs_NotAsked ?qb_NotAsked ?qh_NotNamed ?qt_NotNamed ?qs_NotNamed ?qb_NotNamed ?qh_Overspent ?qt_Overspent ?qs_Overspent ?qb_Overspent ?qh_StakesError ?qt_StakesError ?qs_StakesError ?qb_StakesError ?qh_TooDear ?qt_TooDear ?qs_TooDear ?qb_TooDear ?qh_TooMany ?qt_TooMany ?qs_TooMany ?qb_TooMany ?qh_Unfit ?qt_Unfit ?qs_Unfit ?qb_Unfit ?qh_Unkept ?qt_Unkept ?qs_Unkept ?qb_Unkept ?kS ?hSi ?opq ?z_super ?htop ?kC_BadFraction ?xa_BadFraction ?xk_BadFraction ?xi_BadFraction ?xt_BadFraction ?xv_BadFraction ?xm_BadFraction ?xl_BadFraction ?xc_BadFraction ?xo_BadFraction ?xe_BadFraction ?xs_BadFraction ?xf_BadFraction ?qu_BadFraction_StakesError ?e1_BadFraction ?e2_BadFraction ?e3_BadFraction ?e6_BadFraction ?e4 ?e5 ?qu_BadFraction_BadFraction ?qv_BadFraction_ValueError ?qu_BadFraction_NotNamed ?qu_BadFraction_NotAsked ?qu_BadFraction_BadText ?qu_BadFraction_BadSign ?qu_BadFraction_AskedTwice ?qu_BadFraction_Unkept ?qu_BadFraction_Unfit ?qu_BadFraction_TooMany ?qu_BadFraction_TooDear ?qu_BadFraction_Overspent
    (case a0 => k_is)
    (case l0 => k_is)
    (case c0 => k_is)
    (case k0 => k_is)
    (case a1 => k_is)
    (case l1 => k_is)
    (case c1 => k_is)
    (case k1 => k_is)
    (case a2 => k_is)
    (case l2 => k_is)
    (case c2 => k_is)
    (case k2 => k_is)
    (case a3 => k_is)
    (case l3 => k_is)
    (case c3 => k_is)
    (case k3 => k_is)
    (case a4 => k_is)
    (case l4 => k_is)
    (case c4 => k_is)
    (case k4 => k_is)
    (case a5 => k_is)
    (case l5 => k_is)
    (case c5 => k_is)
    (case k5 => k_is)
    (case a6 => k_is)
    (case l6 => k_is)
    (case c6 => k_is)
    (case k6 => k_is)
    (case a7 => k_is)
    (case l7 => k_is)
    (case c7 => k_is)
    (case k7 => k_is)
    (case a8 => k_is)
    (case l8 => k_is)
    (case c8 => k_is)
    (case k8 => k_is)
    (case a9 => k_is)
    (case l9 => k_is)
    (case c9 => k_is)
    (case k9 => k_is)
    (case a10 => k_is)
    (case l10 => k_is)
    (case c10 => k_is)
    (case k10 => k_is)
    (case a11 => k_is)
    (case l11 => k_is)
    (case c11 => k_is)
    (case k11 => k_is)
    (case a12 => k_is)
    (case l12 => k_is)
    (case c12 => k_is)
    (case k12 => k_is)
    (case a13 => k_is)
    (case l13 => k_is)
    (case c13 => k_is)
    (case k13 => k_is)
    (case a14 => k_is)
    (case l14 => k_is)
    (case c14 => k_is)
    (case k14 => k_is)
    (case a15 => k_is)
    (case l15 => k_is)
    (case c15 => k_is)
    (case k15 => k_is)
    (case a16 => k_is)
    (case l16 => k_is)
    (case c16 => k_is)
    (case k16 => k_is)
    (case a17 => k_is)
    (case l17 => k_is)
    (case c17 => k_is)
    (case k17 => k_is)
    (case a18 => k_is)
    (case l18 => k_is)
    (case c18 => k_is)
    (case k18 => k_is)
    (case a19 => k_is)
    (case l19 => k_is)
    (case c19 => k_is)
    (case k19 => k_is)
    (case a20 => k_is)
    (case l20 => k_is)
    (case c20 => k_is)
    (case k20 => k_is)
    (case a21 => k_is)
    (case l21 => k_is)
    (case c21 => k_is)
    (case k21 => k_is)
    (case a22 => k_is)
    (case l22 => k_is)
    (case c22 => k_is)
    (case k22 => k_is)
    (case a23 => k_is)
    (case l23 => k_is)
    (case c23 => k_is)
    (case k23 => k_is)
    (case a24 => k_is)
    (case l24 => k_is)
    (case c24 => k_is)
    (case k24 => k_is)
    (case a25 => k_is)
    (case l25 => k_is)
    (case c25 => k_is)
    (case k25 => k_is)
    (case a26 => k_is)
    (case l26 => k_is)
    (case c26 => k_is)
    (case k26 => k_is)
    (case a27 => k_is)
    (case l27 => k_is)
    (case c27 => k_is)
    (case k27 => k_is)
    (case a28 => k_is)
    (case l28 => k_is)
    (case c28 => k_is)
    (case k28 => k_is)
    (case a29 => k_is)
    (case l29 => k_is)
    (case c29 => k_is)
    (case k29 => k_is)
    (case a30 => k_is)
    (case l30 => k_is)
    (case c30 => k_is)
    (case k30 => k_is)
    (case a31 => k_is)
    (case l31 => k_is)
    (case c31 => k_is)
    (case k31 => k_is)
    (case a32 => k_is)
    (case l32 => k_is)
    (case c32 => k_is)
    (case k32 => k_is)
    (case a33 => k_is)
    (case l33 => k_is)
    (case c33 => k_is)
    (case k33 => k_is)
    (case a34 => k_is)
    (case l34 => k_is)
    (case c34 => k_is)
    (case k34 => k_is)
    (case a35 => k_is)
    (case l35 => k_is)
    (case c35 => k_is)
    (case k35 => k_is)
    (case a36 => k_is)
    (case l36 => k_is)
    (case c36 => k_is)
    (case k36 => k_is)
    (case a37 => k_is)
    (case l37 => k_is)
    (case c37 => k_is)
    (case k37 => k_is)
    (case z_ValueError => k_is)
    (case z_abs => k_is)
    (case z_all => k_is)
    (case z_bool => k_is)
    (case g_gcd => k_is)
    (case z_int => k_is)
    (case z_isinstance => k_is)
    (case z_len => k_is)
    (case z_list => k_is)
    (case z_range => k_is)
    (case z_sum => k_is)
    (case z_tuple => k_is)
    (case qa_AskedTwice => k_is)
    (case qa_BadFraction => k_is)
    (case qa_BadSign => k_is)
    (case qa_BadText => k_is)
    (case qa_NotAsked => k_is)
    (case qa_NotNamed => k_is)
    (case qa_Overspent => k_is)
    (case qa_StakesError => k_is)
    (case qa_TooDear => k_is)
    (case qa_TooMany => k_is)
    (case qa_Unfit => k_is)
    (case qa_Unkept => k_is)
    (case qh_AskedTwice => k_is)
    (case qt_AskedTwice => k_is)
    (case qs_AskedTwice => k_is)
    (case qb_AskedTwice => k_is)
    (case qh_BadFraction => k_is)
    (case qt_BadFraction => k_is)
    (case qs_BadFraction => k_is)
    (case qb_BadFraction => k_is)
    (case qh_BadSign => k_is)
    (case qt_BadSign => k_is)
    (case qs_BadSign => k_is)
    (case qb_BadSign => k_is)
    (case qh_BadText => k_is)
    (case qt_BadText => k_is)
    (case qs_BadText => k_is)
    (case qb_BadText => k_is)
    (case qh_NotAsked => k_is)
    (case qt_NotAsked => k_is)
    (case qs_NotAsked => k_is)
    (case qb_NotAsked => k_is)
    (case qh_NotNamed => k_is)
    (case qt_NotNamed => k_is)
    (case qs_NotNamed => k_is)
    (case qb_NotNamed => k_is)
    (case qh_Overspent => k_is)
    (case qt_Overspent => k_is)
    (case qs_Overspent => k_is)
    (case qb_Overspent => k_is)
    (case qh_StakesError => k_is)
    (case qt_StakesError => k_is)
    (case qs_StakesError => k_is)
    (case qb_StakesError => k_is)
    (case qh_TooDear => k_is)
    (case qt_TooDear => k_is)
    (case qs_TooDear => k_is)
    (case qb_TooDear => k_is)
    (case qh_TooMany => k_is)
    (case qt_TooMany => k_is)
    (case qs_TooMany => k_is)
    (case qb_TooMany => k_is)
    (case qh_Unfit => k_is)
    (case qt_Unfit => k_is)
    (case qs_Unfit => k_is)
    (case qb_Unfit => k_is)
    (case qh_Unkept => k_is)
    (case qt_Unkept => k_is)
    (case qs_Unkept => k_is)
    (case qb_Unkept => k_is)
    (case kS => k_is)
    (case hSi => k_is)
    (case opq => k_is)
    (case z_super => k_is)
    (case htop => first | rfl | decide +kernel)
    (case kC_BadFraction => k_is)
    (case xa_BadFraction => k_is)
    (case xk_BadFraction => k_is)
    (case xi_BadFraction => k_is)
    (case xt_BadFraction => k_is)
    (case xv_BadFraction => k_is)
    (case xm_BadFraction => k_is)
    (case xl_BadFraction => k_is)
    (case xc_BadFraction => k_is)
    (case xo_BadFraction => k_is)
    (case xe_BadFraction => k_is)
    (case xs_BadFraction => rfl)
    (case xf_BadFraction => first | rfl | decide +kernel)
    (case qu_BadFraction_StakesError => k_is)
    (case e1_BadFraction => k_is)
    (case e2_BadFraction => k_is)
    (case e3_BadFraction => k_is)
    (case e6_BadFraction => k_is)
    (case e4 => k_is)
    (case e5 => k_is)
    (case qu_BadFraction_BadFraction => k_is)
    (case qv_BadFraction_ValueError => k_is)
    (case qu_BadFraction_NotNamed => k_is)
    (case qu_BadFraction_NotAsked => k_is)
    (case qu_BadFraction_BadText => k_is)
    (case qu_BadFraction_BadSign => k_is)
    (case qu_BadFraction_AskedTwice => k_is)
    (case qu_BadFraction_Unkept => k_is)
    (case qu_BadFraction_Unfit => k_is)
    (case qu_BadFraction_TooMany => k_is)
    (case qu_BadFraction_TooDear => k_is)
    (case qu_BadFraction_Overspent => k_is)
