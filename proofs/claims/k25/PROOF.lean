import PyProof.Rows.All
import Wide.All
import OpenK.AllK
import Wide.FinOn
import HandS.ForMost
import HandS.Walk
import HandS.Exc
import HandS.ExcOwn
import HandS.TryOnly
import HandS.TryMany
import HandS.WordsExc
import HandS.Wide
import HandS.Gcd
import HandS.IsInst
import HandS.TupAny
import HandS.Dict
import HandS.Iter
import KE.GoesMore
import KE.GoesZip
import HandS.SortRule
import HandS.SortInts
import HandS.Style
import KE.KTupSum
import HandS.ExcInit
import HandS.ExcSuper
import KE.KExcSuper
import KE.KSuper
import HandS.ExcField
import KE.KExcIs
import HandS.Conv
import HandS.TupMul
import PySem.Challenge.RW_carriedstakes_k25_plans_run
set_option Elab.async false
set_option linter.all false
set_option maxRecDepth 100000
set_option maxHeartbeats 8000000
/-! The data layer: pure data over the hand layer. Tuples are plain values; what may change stands in a store. -/
namespace DL
open PySem PySem.Spec PyProof.Rows L2

/-- data: tuples are values, lists and instances are named by their place -/
inductive D where
  | non | bl (b : Bool) | int (i : Int) | str (x : Str) | tup (ds : List D) | ref (a : Addr) | scr (ds : List D) | key (ks : List L2.Key)
/-- what stands at a place -/
inductive OB where
  | lst (ds : List D)
  | ins (C : Addr) (fs : List (Str × D))
  | dk (kvs : List (L2.Key × D))
  | dt (kvs : List (List L2.Key × D))
  | xd (fs : List (Str × D))
  | lk (kvs : List (L2.Key × D))
  | lt (kvs : List (List L2.Key × D))
/-- may it be written -/
def OB.wr : OB → Bool
  | .lst _ => true
  | .ins _ _ => true
  | .dk _ => true
  | .dt _ => true
  | _ => false
abbrev DS := Addr → Option OB
abbrev DE := List (Option D)
/-- an exception: its class, what it holds -/
structure Xn where
  cls : Addr
  fs : List (Str × D)
abbrev RD := D → DS → Prop
abbrev RX := Xn → DS → Prop
abbrev WE := DE → DS → RD → RX → Prop
abbrev WT := DE → DS → (Bool → DS → Prop) → RX → Prop
abbrev WA := DE → DS → (List D → DS → Prop) → RX → Prop
structure Ed where
  nx : DE → DS → Prop
  rt : D → DS → Prop
  bk : DE → DS → Prop := fun _ _ => False
  ct : DE → DS → Prop := fun _ _ => False
  ex : Xn → DE → DS → Prop := fun _ _ _ => False
abbrev WS := Ed → DE → DS → Prop
def put (st : DS) (a : Addr) (o : OB) : DS := fun b => if b = a then some o else st b
@[simp] theorem put_same {st : DS} {a : Addr} {o : OB} : put st a o a = some o := by unfold put; rw [if_pos rfl]
theorem put_ne {st : DS} {a b : Addr} {o : OB} (h : b ≠ a) : put st a o b = st b := by unfold put; rw [if_neg h]
@[simp] theorem put_put {st : DS} {a : Addr} {o u : OB} : put (put st a o) a u = put st a u := by
  funext b; unfold put; split <;> rfl
theorem put_id {st : DS} {a : Addr} {o : OB} (h : st a = some o) : put st a o = st := by
  funext b; unfold put; split
  · rename_i e; rw [e, h]
  · rfl
theorem put_comm {st : DS} {a b : Addr} {o u : OB} (h : a ≠ b) : put (put st a o) b u = put (put st b u) a o := by
  funext c; unfold put
  by_cases h1 : c = a
  · subst h1; rw [if_neg h, if_pos rfl, if_pos rfl]
  · by_cases h2 : c = b
    · subst h2; rw [if_pos rfl, if_neg h1, if_pos rfl]
    · simp only [if_neg h1, if_neg h2]
/-- fewer places -/
def Sub (s t : DS) : Prop := ∀ a o, s a = some o → t a = some o
theorem Sub.refl (s : DS) : Sub s s := fun _ _ h => h
theorem Sub.trans {s t u : DS} (a : Sub s t) (b : Sub t u) : Sub s u := fun c o h => b c o (a c o h)
theorem Sub.put_new {s : DS} {p : Addr} {o : OB} (h : s p = none) : Sub s (put s p o) := fun a u e => by
  rw [put_ne (fun z => by rw [z, h] at e; cases e)]; exact e
theorem Sub.put_both {s t : DS} (h : Sub s t) (p : Addr) (o : OB) : Sub (put s p o) (put t p o) := fun a u e => by
  unfold put at e ⊢
  split at e
  · rename_i z; rw [if_pos z]; exact e
  · rename_i z; rw [if_neg z]; exact h a u e
theorem Sub.put_to {s t : DS} (h : Sub s t) {p : Addr} (o : OB) (hp : s p = none) : Sub s (put t p o) := fun a u e => by
  rw [put_ne (fun z => by rw [z, hp] at e; cases e)]; exact h a u e

/-! ### data and values -/
/-- a list that is known and never changes: the script -/
def SqF (K : PySem.W.Frag) (H : Hp) (a : Addr) (xs : List V) : Prop :=
  (∃ o, H a = some (.frz o (.lst xs))) ∨
    ∃ (o : Obj) (its : Array Value) (n : Nat), K.lookup a = some o ∧ o.cls = .type "list" ∧ o.dict = none ∧ o.data = .seq its n ∧ its.size ≤ sizeLine ∧ Vals xs its.toList
theorem SqF.sq {K : PySem.W.Frag} {H : Hp} {a : Addr} {xs : List V} (h : SqF K H a xs) : SqL K H a xs := by
  rcases h with ⟨o, h⟩ | h
  · exact .inl (.inr ⟨o, h⟩)
  · exact .inr h
mutual
def Rep (K : PySem.W.Frag) (H : Hp) : D → V → Prop
  | .non, v => v = .non
  | .bl b, v => v = .bl b
  | .int i, v => v = .int i
  | .str x, v => v = .str x
  | .ref a, v => v = .ref a
  | .scr ds, v => ∃ a vs, v = .ref a ∧ SqF K H a vs ∧ Reps K H ds vs
  | .key ks, v => ∃ a, v = .ref a ∧ H a = some (.tup (ks.map kV))
  | .tup ds, v => ∃ a vs, v = .ref a ∧ SqT K H a vs ∧ Reps K H ds vs
def Reps (K : PySem.W.Frag) (H : Hp) : List D → List V → Prop
  | [], vs => vs = []
  | d :: ds, vs => ∃ v r, vs = v :: r ∧ Rep K H d v ∧ Reps K H ds r
end
def RepF (K : PySem.W.Frag) (H : Hp) : List (Str × D) → List (Str × V) → Prop
  | [], fv => fv = []
  | (n, d) :: r, fv => ∃ v t, fv = (n, v) :: t ∧ Rep K H d v ∧ RepF K H r t
def RepK {κ : Type} (K : PySem.W.Frag) (H : Hp) : List (κ × D) → List (κ × V) → Prop
  | [], fv => fv = []
  | (n, d) :: r, fv => ∃ v t, fv = (n, v) :: t ∧ Rep K H d v ∧ RepK K H r t
def RepO (K : PySem.W.Frag) (H : Hp) (a : Addr) : OB → Prop
  | .lst ds => ∃ vs, H a = some (.lst vs) ∧ Reps K H ds vs
  | .ins C fs => ∃ dx fv, H a = some (.ins C dx fv) ∧ RepF K H fs fv
  | .dk kvs => ∃ vs, H a = some (.dK vs) ∧ RepK K H kvs vs
  | .dt kvs => ∃ vs, H a = some (.dT vs) ∧ RepK K H kvs vs
  | .xd fs => ∃ fv, H a = some (.xd fv) ∧ RepF K H fs fv
  | .lk kvs => ∃ o vs, H a = some (.frz o (.dK vs)) ∧ RepK K H kvs vs
  | .lt kvs => ∃ o vs, H a = some (.frz o (.dT vs)) ∧ RepK K H kvs vs
def RepS (K : PySem.W.Frag) (H : Hp) (st : DS) : Prop := ∀ a o, st a = some o → RepO K H a o
def RepE (K : PySem.W.Frag) (H : Hp) (ep : DE) (sg : L2.St) : Prop :=
  ep.length = sg.length ∧ ∀ (i : Nat) (d : D), ep[i]? = some (some d) → ∃ v, sg[i]? = some (some v) ∧ Rep K H d v
def RepX (K : PySem.W.Frag) (H : Hp) (x : Xn) (cls : Value) (dd : Option Addr) : Prop :=
  cls = .ref x.cls ∧ ((x.fs = [] ∧ dd = none) ∨ x.fs ≠ [] ∧ ∃ d fv, dd = some d ∧ H d = some (.xd fv) ∧ RepF K H x.fs fv)
/-- what stays: tuples, and all that the store does not name -/
structure Keep (K : PySem.W.Frag) (H : Hp) (st : DS) (H' : Hp) (st' : DS) : Prop where
  tup : ∀ a vs, SqT K H a vs → SqT K H' a vs
  scr : ∀ a vs, SqF K H a vs → SqF K H' a vs
  tps : ∀ a vs, H a = some (.tup vs) → H' a = some (.tup vs)
  oth : ∀ a o, H a = some o → (∀ fv, o ≠ .xd fv) → st a = none → H' a = some o ∧ st' a = none
  xds : ∀ a fv, H a = some (.xd fv) → H' a = some (.xd fv)
  fzs : ∀ a o u, H a = some (.frz o u) → H' a = some (.frz o u)
section
variable {K : PySem.W.Frag} {H H' H1 H2 : Hp} {st st' st1 st2 : DS}
theorem Keep.refl : Keep K H st H st := ⟨fun _ _ h => h, fun _ _ h => h, fun _ _ h => h, fun _ _ h _ k => ⟨h, k⟩, fun _ _ h => h, fun _ _ _ h => h⟩
theorem Keep.trans (a : Keep K H st H1 st1) (b : Keep K H1 st1 H2 st2) : Keep K H st H2 st2 :=
  ⟨fun c vs h => b.tup c vs (a.tup c vs h), fun c vs h => b.scr c vs (a.scr c vs h), fun c vs h => b.tps c vs (a.tps c vs h), fun c o h n k => b.oth c o (a.oth c o h n k).1 n (a.oth c o h n k).2, fun c fv h => b.xds c fv (a.xds c fv h), fun c o u h => b.fzs c o u (a.fzs c o u h)⟩
mutual
theorem Rep.mono (k : ∀ a vs, SqT K H a vs → SqT K H' a vs) (j : ∀ a vs, SqF K H a vs → SqF K H' a vs) (m : ∀ a vs, H a = some (.tup vs) → H' a = some (.tup vs)) : ∀ (d : D) (v : V), Rep K H d v → Rep K H' d v
  | .non, _, h => by unfold Rep at h ⊢; exact h
  | .bl _, _, h => by unfold Rep at h ⊢; exact h
  | .int _, _, h => by unfold Rep at h ⊢; exact h
  | .str _, _, h => by unfold Rep at h ⊢; exact h
  | .ref _, _, h => by unfold Rep at h ⊢; exact h
  | .tup ds, v, h => by
    unfold Rep at h ⊢
    obtain ⟨a, vs, e, s, r⟩ := h
    exact ⟨a, vs, e, k a vs s, Reps.mono k j m ds vs r⟩
  | .scr ds, v, h => by
    unfold Rep at h ⊢
    obtain ⟨a, vs, e, s, r⟩ := h
    exact ⟨a, vs, e, j a vs s, Reps.mono k j m ds vs r⟩
  | .key ks, v, h => by
    unfold Rep at h ⊢
    obtain ⟨a, e, s⟩ := h
    exact ⟨a, e, m a _ s⟩
theorem Reps.mono (k : ∀ a vs, SqT K H a vs → SqT K H' a vs) (j : ∀ a vs, SqF K H a vs → SqF K H' a vs) (m : ∀ a vs, H a = some (.tup vs) → H' a = some (.tup vs)) : ∀ (ds : List D) (vs : List V), Reps K H ds vs → Reps K H' ds vs
  | [], _, h => by unfold Reps at h ⊢; exact h
  | d :: ds, vs, h => by
    unfold Reps at h ⊢
    obtain ⟨v, r, e, h1, h2⟩ := h
    exact ⟨v, r, e, Rep.mono k j m d v h1, Reps.mono k j m ds r h2⟩
end
theorem RepF.mono (k : ∀ a vs, SqT K H a vs → SqT K H' a vs) (j : ∀ a vs, SqF K H a vs → SqF K H' a vs) (m : ∀ a vs, H a = some (.tup vs) → H' a = some (.tup vs)) : ∀ (fs : List (Str × D)) (fv : List (Str × V)), RepF K H fs fv → RepF K H' fs fv
  | [], _, h => h
  | (n, d) :: r, _, ⟨v, t, e, h1, h2⟩ => ⟨v, t, e, Rep.mono k j m d v h1, RepF.mono k j m r t h2⟩
theorem RepK.mono {κ : Type} (k : ∀ a vs, SqT K H a vs → SqT K H' a vs) (j : ∀ a vs, SqF K H a vs → SqF K H' a vs) (m : ∀ a vs, H a = some (.tup vs) → H' a = some (.tup vs)) : ∀ (fs : List (κ × D)) (fv : List (κ × V)), RepK K H fs fv → RepK K H' fs fv
  | [], _, h => h
  | (n, d) :: r, _, ⟨v, t, e, h1, h2⟩ => ⟨v, t, e, Rep.mono k j m d v h1, RepK.mono k j m r t h2⟩
theorem RepK.keep {κ : Type} {d : List (κ × D)} {v : List (κ × V)} (h : RepK K H d v) (k : Keep K H st H' st') : RepK K H' d v := RepK.mono k.tup k.scr k.tps d v h
theorem Rep.keep {d : D} {v : V} (h : Rep K H d v) (k : Keep K H st H' st') : Rep K H' d v := Rep.mono k.tup k.scr k.tps d v h
theorem Reps.keep {d : List D} {v : List V} (h : Reps K H d v) (k : Keep K H st H' st') : Reps K H' d v := Reps.mono k.tup k.scr k.tps d v h
theorem RepF.keep {d : List (Str × D)} {v : List (Str × V)} (h : RepF K H d v) (k : Keep K H st H' st') : RepF K H' d v := RepF.mono k.tup k.scr k.tps d v h
theorem RepE.keep {ep : DE} {sg : L2.St} (h : RepE K H ep sg) (k : Keep K H st H' st') : RepE K H' ep sg :=
  ⟨h.1, fun i d e => let ⟨v, e1, r⟩ := h.2 i d e; ⟨v, e1, r.keep k⟩⟩
@[simp] theorem Reps_nil {vs : List V} : Reps K H [] vs ↔ vs = [] := by unfold Reps; rfl
@[simp] theorem Reps_cons {d : D} {ds : List D} {vs : List V} : Reps K H (d :: ds) vs ↔ ∃ v r, vs = v :: r ∧ Rep K H d v ∧ Reps K H ds r := by conv => lhs; unfold Reps
theorem Rep_tup {ds : List D} {v : V} : Rep K H (.tup ds) v ↔ ∃ a vs, v = .ref a ∧ SqT K H a vs ∧ Reps K H ds vs := by conv => lhs; unfold Rep
theorem Rep_scr {ds : List D} {v : V} : Rep K H (.scr ds) v ↔ ∃ a vs, v = .ref a ∧ SqF K H a vs ∧ Reps K H ds vs := by conv => lhs; unfold Rep
theorem Rep_key {ks : List L2.Key} {v : V} : Rep K H (.key ks) v ↔ ∃ a, v = .ref a ∧ H a = some (.tup (ks.map kV)) := by conv => lhs; unfold Rep
theorem Rep_int {i : Int} {v : V} : Rep K H (.int i) v ↔ v = .int i := by unfold Rep; rfl
theorem Rep_bl {i : Bool} {v : V} : Rep K H (.bl i) v ↔ v = .bl i := by unfold Rep; rfl
theorem Rep_str {i : Str} {v : V} : Rep K H (.str i) v ↔ v = .str i := by unfold Rep; rfl
theorem Rep_non {v : V} : Rep K H .non v ↔ v = .non := by unfold Rep; rfl
theorem Rep_ref {i : Addr} {v : V} : Rep K H (.ref i) v ↔ v = .ref i := by unfold Rep; rfl
theorem Reps.nil : Reps K H [] [] := Reps_nil.mpr rfl
theorem Reps.cons {d : D} {ds : List D} {v : V} {vs : List V} (h : Rep K H d v) (t : Reps K H ds vs) : Reps K H (d :: ds) (v :: vs) := Reps_cons.mpr ⟨v, vs, rfl, h, t⟩
theorem Reps.append : ∀ {ds es : List D} {vs us : List V}, Reps K H ds vs → Reps K H es us → Reps K H (ds ++ es) (vs ++ us)
  | [], _, _, _, h, k => by rw [Reps_nil] at h; subst h; exact k
  | d :: ds, es, vs, us, h, k => by
    obtain ⟨v, r, rfl, h1, h2⟩ := Reps_cons.mp h
    exact .cons h1 (Reps.append h2 k)
theorem Reps.length : ∀ {ds : List D} {vs : List V}, Reps K H ds vs → ds.length = vs.length
  | [], _, h => by rw [Reps_nil] at h; subst h; rfl
  | d :: ds, _, h => by
    obtain ⟨v, r, rfl, _, h2⟩ := Reps_cons.mp h
    rw [List.length_cons, List.length_cons, h2.length]
theorem Reps.get : ∀ {ds : List D} {vs : List V} {i : Nat} {d : D}, Reps K H ds vs → ds[i]? = some d → ∃ v, vs[i]? = some v ∧ Rep K H d v
  | [], _, _, _, _, e => by simp at e
  | d :: ds, _, 0, x, h, e => by
    obtain ⟨v, r, rfl, h1, _⟩ := Reps_cons.mp h
    have : d = x := by simpa using e
    subst this
    exact ⟨v, rfl, h1⟩
  | d :: ds, _, i + 1, x, h, e => by
    obtain ⟨v, r, rfl, _, h2⟩ := Reps_cons.mp h
    obtain ⟨u, e1, r1⟩ := Reps.get (i := i) h2 (by simpa using e)
    exact ⟨u, by simpa using e1, r1⟩
theorem Reps.set {d : D} {v : V} (h : Rep K H d v) : ∀ {ds : List D} {vs : List V} (i : Nat), Reps K H ds vs → Reps K H (ds.set i d) (vs.set i v)
  | [], _, _, k => by rw [Reps_nil] at k; subst k; exact Reps.nil
  | e :: ds, _, 0, k => by
    obtain ⟨u, r, rfl, _, h2⟩ := Reps_cons.mp k
    exact .cons h h2
  | e :: ds, _, i + 1, k => by
    obtain ⟨u, r, rfl, h1, h2⟩ := Reps_cons.mp k
    exact .cons h1 (Reps.set h i h2)
theorem Reps.eraseIdx : ∀ {ds : List D} {vs : List V} (i : Nat), Reps K H ds vs → Reps K H (ds.eraseIdx i) (vs.eraseIdx i)
  | [], _, _, k => by rw [Reps_nil] at k; subst k; exact Reps.nil
  | e :: ds, _, 0, k => by
    obtain ⟨u, r, rfl, _, h2⟩ := Reps_cons.mp k
    exact h2
  | e :: ds, _, i + 1, k => by
    obtain ⟨u, r, rfl, h1, h2⟩ := Reps_cons.mp k
    exact .cons h1 (Reps.eraseIdx i h2)
theorem Reps.take : ∀ {ds : List D} {vs : List V} (i : Nat), Reps K H ds vs → Reps K H (ds.take i) (vs.take i)
  | _, _, 0, _ => Reps.nil
  | [], _, _ + 1, k => by rw [Reps_nil] at k; subst k; exact Reps.nil
  | e :: ds, _, i + 1, k => by
    obtain ⟨u, r, rfl, h1, h2⟩ := Reps_cons.mp k
    exact .cons h1 (Reps.take i h2)
theorem Reps.drop : ∀ {ds : List D} {vs : List V} (i : Nat), Reps K H ds vs → Reps K H (ds.drop i) (vs.drop i)
  | _, _, 0, k => k
  | [], _, _ + 1, k => by rw [Reps_nil] at k; subst k; exact Reps.nil
  | e :: ds, _, i + 1, k => by
    obtain ⟨u, r, rfl, h1, h2⟩ := Reps_cons.mp k
    exact Reps.drop i h2
theorem Reps.reverse : ∀ {ds : List D} {vs : List V}, Reps K H ds vs → Reps K H ds.reverse vs.reverse
  | [], _, k => by rw [Reps_nil] at k; subst k; exact Reps.nil
  | e :: ds, _, k => by
    obtain ⟨u, r, rfl, h1, h2⟩ := Reps_cons.mp k
    rw [List.reverse_cons, List.reverse_cons]
    exact (Reps.reverse h2).append (.cons h1 Reps.nil)
theorem Reps.ints : ∀ {ns : List Int} {vs : List V}, Reps K H (ns.map D.int) vs ↔ vs = ns.map V.int
  | [], vs => by rw [List.map_nil, List.map_nil, Reps_nil]
  | n :: ns, vs => by
    rw [List.map_cons, List.map_cons, Reps_cons]
    constructor
    · rintro ⟨v, r, rfl, h1, h2⟩
      rw [Rep_int.mp h1, Reps.ints.mp h2]
    · rintro rfl
      exact ⟨_, _, rfl, Rep_int.mpr rfl, Reps.ints.mpr rfl⟩
theorem RepE.set {ep : DE} {sg : L2.St} {d : D} {v : V} (h : RepE K H ep sg) (r : Rep K H d v) (i : Nat) : RepE K H (ep.set i (some d)) (sg.set i (some v)) := by
  refine ⟨by rw [List.length_set, List.length_set]; exact h.1, fun j e hj => ?_⟩
  by_cases hij : i = j
  · subst hij
    have hl : i < ep.length := by
      have := (List.getElem?_eq_some_iff.mp hj).1
      rw [List.length_set] at this; exact this
    rw [List.getElem?_set_self hl] at hj
    have : d = e := by simpa using hj
    subst this
    exact ⟨v, List.getElem?_set_self (by rw [← h.1]; exact hl), r⟩
  · rw [List.getElem?_set_ne hij] at hj
    obtain ⟨u, e1, r1⟩ := h.2 j e hj
    exact ⟨u, by rw [List.getElem?_set_ne hij]; exact e1, r1⟩
/-- a place where no tuple stands -/
def Nt : Option HO → Prop
  | some (.tup _) => False
  | some (.frz _ _) => False
  | _ => True
theorem sqT_upd {p a : Addr} {o : HO} {vs : List V} (hn : Nt (H p)) (h : SqT K H a vs) : SqT K (upd H p o) a vs := by
  rcases h with (h | ⟨u, h⟩) | h
  · refine .inl (.inl ?_)
    rw [upd_ne (fun z => by rw [← z, h] at hn; exact hn)]; exact h
  · refine .inl (.inr ⟨u, ?_⟩)
    rw [upd_ne (fun z => by rw [← z, h] at hn; exact hn)]; exact h
  · exact .inr h
theorem sqF_upd {p a : Addr} {o : HO} {vs : List V} (hn : Nt (H p)) (h : SqF K H a vs) : SqF K (upd H p o) a vs := by
  rcases h with ⟨u, h⟩ | h
  · refine .inl ⟨u, ?_⟩
    rw [upd_ne (fun z => by rw [← z, h] at hn; exact hn)]; exact h
  · exact .inr h
theorem tps_upd {p a : Addr} {o : HO} {vs : List V} (hn : Nt (H p)) (h : H a = some (.tup vs)) : upd H p o a = some (.tup vs) := by
  rw [upd_ne (fun z => by rw [← z, h] at hn; exact hn)]; exact h
/-- the objects at other places stand -/
theorem RepO.upd {p a : Addr} {o : HO} {ob : OB} (hn : Nt (H p)) (hne : a ≠ p) (h : RepO K H a ob) : RepO K (upd H p o) a ob := by
  have k : ∀ b vs, SqT K H b vs → SqT K (L2.upd H p o) b vs := fun b vs => sqT_upd hn
  have j : ∀ b vs, SqF K H b vs → SqF K (L2.upd H p o) b vs := fun b vs => sqF_upd hn
  have m : ∀ b vs, H b = some (.tup vs) → L2.upd H p o b = some (.tup vs) := fun b vs => tps_upd hn
  cases ob with
  | lst ds =>
    obtain ⟨vs, e, r⟩ := h
    exact ⟨vs, by rw [upd_ne hne]; exact e, Reps.mono k j m ds vs r⟩
  | ins C fs =>
    obtain ⟨dx, fv, e, r⟩ := h
    exact ⟨dx, fv, by rw [upd_ne hne]; exact e, RepF.mono k j m fs fv r⟩
  | dk kvs =>
    obtain ⟨fv, e, r⟩ := h
    exact ⟨fv, by rw [upd_ne hne]; exact e, RepK.mono k j m kvs fv r⟩
  | dt kvs =>
    obtain ⟨fv, e, r⟩ := h
    exact ⟨fv, by rw [upd_ne hne]; exact e, RepK.mono k j m kvs fv r⟩
  | xd kvs =>
    obtain ⟨fv, e, r⟩ := h
    exact ⟨fv, by rw [upd_ne hne]; exact e, RepF.mono k j m kvs fv r⟩
  | lk kvs =>
    obtain ⟨o, fv, e, r⟩ := h
    exact ⟨o, fv, by rw [upd_ne hne]; exact e, RepK.mono k j m kvs fv r⟩
  | lt kvs =>
    obtain ⟨o, fv, e, r⟩ := h
    exact ⟨o, fv, by rw [upd_ne hne]; exact e, RepK.mono k j m kvs fv r⟩
theorem RepS.there (h : RepS K H st) {p : Addr} {o : OB} (e : st p = some o) : ∃ u, H p = some u := by
  have q := h p o e
  cases o with
  | ins C fs => obtain ⟨_, _, e1, _⟩ := q; exact ⟨_, e1⟩
  | lk fs => obtain ⟨_, _, e1, _⟩ := q; exact ⟨_, e1⟩
  | lt fs => obtain ⟨_, _, e1, _⟩ := q; exact ⟨_, e1⟩
  | _ => obtain ⟨_, e1, _⟩ := q; exact ⟨_, e1⟩
/-- a thing that may be written -/
theorem RepS.mut (h : RepS K H st) {p : Addr} {o : OB} (e : st p = some o) (w : o.wr = true) : ∃ u, H p = some u ∧ Nt (some u) ∧ (∀ fv, u ≠ .xd fv) ∧ Mut (some u) := by
  have q := h p o e
  cases o with
  | lst ds => obtain ⟨_, e1, _⟩ := q; exact ⟨_, e1, trivial, (fun _ z => by cases z), trivial⟩
  | ins C fs => obtain ⟨_, _, e1, _⟩ := q; exact ⟨_, e1, trivial, (fun _ z => by cases z), trivial⟩
  | dk fs => obtain ⟨_, e1, _⟩ := q; exact ⟨_, e1, trivial, (fun _ z => by cases z), trivial⟩
  | dt fs => obtain ⟨_, e1, _⟩ := q; exact ⟨_, e1, trivial, (fun _ z => by cases z), trivial⟩
  | _ => cases w
theorem RepS.free (h : RepS K H st) {p : Addr} (hp : H p = none) : st p = none := by
  cases e : st p with
  | none => rfl
  | some o =>
    obtain ⟨u, e1⟩ := h.there e
    rw [hp] at e1; cases e1
theorem nt_none {p : Addr} (hp : H p = none) : Nt (H p) := by rw [hp]; trivial
/-- a new thing, tracked in the store or not -/
theorem RepS.untold (h : RepS K H st) {p : Addr} (hp : H p = none) (o : HO) : RepS K (upd H p o) st := fun a ob e => by
  have ne : a ≠ p := fun z => by rw [z, h.free hp] at e; cases e
  exact (h a ob e).upd (nt_none hp) ne
theorem Keep.untold {p : Addr} (hp : H p = none) (o : HO) : Keep K H st (upd H p o) st :=
  ⟨fun a vs => sqT_upd (nt_none hp), fun a vs => sqF_upd (nt_none hp), fun a vs => tps_upd (nt_none hp), fun a u e _ k => ⟨by rw [upd_ne (ne_of_none e hp)]; exact e, k⟩, fun a fv e => by rw [upd_ne (ne_of_none e hp)]; exact e, fun a o' u e => by rw [upd_ne (ne_of_none e hp)]; exact e⟩
theorem RepS.told (h : RepS K H st) {p : Addr} (hp : H p = none) {o : HO} {ob : OB} (hob : RepO K (upd H p o) p ob) : RepS K (upd H p o) (put st p ob) := fun a u e => by
  by_cases ne : a = p
  · subst ne
    rw [put_same] at e; cases e
    exact hob
  · rw [put_ne ne] at e
    exact (h a u e).upd (nt_none hp) ne
theorem Keep.told {p : Addr} (hp : H p = none) (o : HO) (ob : OB) : Keep K H st (upd H p o) (put st p ob) :=
  ⟨fun a vs => sqT_upd (nt_none hp), fun a vs => sqF_upd (nt_none hp), fun a vs => tps_upd (nt_none hp), fun a u e _ k => ⟨by rw [upd_ne (ne_of_none e hp)]; exact e, by rw [put_ne (ne_of_none e hp)]; exact k⟩, fun a fv e => by rw [upd_ne (ne_of_none e hp)]; exact e, fun a o' u e => by rw [upd_ne (ne_of_none e hp)]; exact e⟩
/-- a thing of the store changes -/
theorem RepS.write (h : RepS K H st) {p : Addr} {o0 : OB} (hp : st p = some o0) {o : HO} {ob : OB} (hob : RepO K (upd H p o) p ob) (hx : o0.wr = true := by rfl) : RepS K (upd H p o) (put st p ob) := fun a u e => by
  obtain ⟨_, e0, hn, _⟩ := h.mut hp hx
  by_cases ne : a = p
  · subst ne
    rw [put_same] at e; cases e
    exact hob
  · rw [put_ne ne] at e
    exact (h a u e).upd (by rw [e0]; exact hn) ne
theorem RepS.keepW (h : RepS K H st) {p : Addr} {o0 : OB} (hp : st p = some o0) (o : HO) (ob : OB) (hx : o0.wr = true := by rfl) : Keep K H st (upd H p o) (put st p ob) := by
  obtain ⟨u0, e0, hn, hnx, _⟩ := h.mut hp hx
  have nx : ∀ fv, H p ≠ some (.xd fv) := fun fv z => by
    rw [e0] at z; exact hnx fv (Option.some.inj z)
  have hn' : Nt (H p) := by rw [e0]; exact hn
  refine ⟨fun a vs => sqT_upd hn', fun a vs => sqF_upd hn', fun a vs => tps_upd hn', fun a u e _ k => ?_, fun a fv e => by rw [upd_ne (fun z => nx fv (by rw [← z]; exact e))]; exact e, fun a o' u e => by rw [upd_ne (fun z => by rw [z, e0] at e; cases e; exact hn)]; exact e⟩
  have ne : a ≠ p := fun z => by rw [z, hp] at k; cases k
  exact ⟨by rw [upd_ne ne]; exact e, by rw [put_ne ne]; exact k⟩
/-- fewer places may be told -/
theorem RepS.sub (h : RepS K H st) (s : Sub st1 st) : RepS K H st1 := fun a o e => h a o (s a o e)
theorem Keep.sub (k : Keep K H st H' st') (s : Sub st1 st') : Keep K H st H' st1 :=
  ⟨k.tup, k.scr, k.tps, fun a o e n z => ⟨(k.oth a o e n z).1, by
    cases q : st1 a with
    | none => rfl
    | some u =>
      have := s a u q
      rw [(k.oth a o e n z).2] at this; cases this⟩, k.xds, k.fzs⟩
end
end DL

namespace DL
open PySem PySem.Spec PyProof.Rows L2

/-! ### judgements over data -/
section
variable (K : PySem.W.Frag) (W : WX)
def OkQ (H : Hp) (st : DS) (R : RD) (Q : VK) : Prop := ∀ v H' d st', Keep K H st H' st' → RepS K H' st' → Rep K H' d v → R d st' → Q v H'
def OkX (sg : L2.St) (H : Hp) (st : DS) (Rx : RX) : Prop := ∀ x cls dd H' st', Keep K H st H' st' → RepS K H' st' → RepX K H' x cls dd → Rx x st' → W cls dd sg H'
def twE (w : WE) : TE := fun sg H Q => ∃ ep st R Rx, RepE K H ep sg ∧ RepS K H st ∧ w ep st R Rx ∧ OkQ K H st R Q ∧ OkX K W sg H st Rx
def twT (w : WT) : TT := fun sg H Q => ∃ ep st R Rx, RepE K H ep sg ∧ RepS K H st ∧ w ep st R Rx ∧ (∀ b H' st', Keep K H st H' st' → RepS K H' st' → R b st' → Q b H') ∧ OkX K W sg H st Rx
def twA (n : Nat) (w : WA) : TA := fun sg H Q => ∃ ep st R Rx, RepE K H ep sg ∧ RepS K H st ∧ w ep st R Rx ∧ (∀ vs H' ds st', ds.length = n → Keep K H st H' st' → RepS K H' st' → Reps K H' ds vs → R ds st' → Q vs H') ∧ OkX K W sg H st Rx
structure OkS (H : Hp) (st : DS) (E : Ed) (Dn : Ends) : Prop where
  nx : ∀ sg' H' ep' st', Keep K H st H' st' → RepS K H' st' → RepE K H' ep' sg' → E.nx ep' st' → Dn.nx sg' H'
  rt : ∀ v H' d st', Keep K H st H' st' → RepS K H' st' → Rep K H' d v → E.rt d st' → Dn.rt v H'
  bk : ∀ sg' H' ep' st', Keep K H st H' st' → RepS K H' st' → RepE K H' ep' sg' → E.bk ep' st' → Dn.bk sg' H'
  ct : ∀ sg' H' ep' st', Keep K H st H' st' → RepS K H' st' → RepE K H' ep' sg' → E.ct ep' st' → Dn.ct sg' H'
  ex : ∀ x cls dd sg' H' ep' st', Keep K H st H' st' → RepS K H' st' → RepE K H' ep' sg' → RepX K H' x cls dd → E.ex x ep' st' → W cls dd sg' H'
def twS (w : WS) : TS := fun Dn sg H => ∃ ep st E, RepE K H ep sg ∧ RepS K H st ∧ w E ep st ∧ OkS K W H st E Dn
end
section
variable {K : PySem.W.Frag} {W : WX} {H H1 : Hp} {st st1 : DS} {sg : L2.St} {ep : DE}
theorem OkX.keep {Rx : RX} (h : OkX K W sg H st Rx) (k : Keep K H st H1 st1) : OkX K W sg H1 st1 Rx := fun x cls dd H' st' k' s r q => h x cls dd H' st' (k.trans k') s r q
theorem OkQ.keep {R : RD} {Q : VK} (h : OkQ K H st R Q) (k : Keep K H st H1 st1) : OkQ K H1 st1 R Q := fun v H' d st' k' s r q => h v H' d st' (k.trans k') s r q
theorem OkS.keep {E : Ed} {Dn : Ends} (h : OkS K W H st E Dn) (k : Keep K H st H1 st1) : OkS K W H1 st1 E Dn :=
  ⟨fun a b c d k' => h.nx a b c d (k.trans k'), fun a b c d k' => h.rt a b c d (k.trans k'), fun a b c d k' => h.bk a b c d (k.trans k'), fun a b c d k' => h.ct a b c d (k.trans k'), fun a b c d e f g k' => h.ex a b c d e f g (k.trans k')⟩
theorem OkS.okX {E : Ed} {Dn : Ends} (h : OkS K W H st E Dn) (e : RepE K H ep sg) : OkX K W sg H st (fun x st' => E.ex x ep st') :=
  fun x cls dd H' st' k s r q => h.ex x cls dd sg H' ep st' k s (e.keep k) r q
end

theorem _root_.L2.PE.weak {X : Cx} {e : Expr} {t t' : TE} (h : PE X e t) (f : ∀ sg H Q, t' sg H Q → t sg H Q) : PE X e t' := ⟨fun pins s sg H Q I hw => h.run pins s sg H Q I (f sg H Q hw)⟩
theorem _root_.L2.PT.weak {X : Cx} {e : Expr} {t t' : TT} (h : PT X e t) (f : ∀ sg H Q, t' sg H Q → t sg H Q) : PT X e t' := ⟨fun pins s sg H Q I hw => h.run pins s sg H Q I (f sg H Q hw)⟩
theorem _root_.L2.PW.weak {X : Cx} {e : Expr} {t t' : TT} (h : PW X e t) (f : ∀ sg H Q, t' sg H Q → t sg H Q) : PW X e t' := ⟨fun wh pins s sg H Q I hw => h.run wh pins s sg H Q I (f sg H Q hw)⟩
theorem _root_.L2.PA.weak {X : Cx} {e : List Expr} {t t' : TA} (h : PA X e t) (f : ∀ sg H Q, t' sg H Q → t sg H Q) : PA X e t' := ⟨fun pos pins s sg H Q I hw => h.run pos pins s sg H Q I (f sg H Q hw)⟩
theorem _root_.L2.PS.weak {X : Cx} {e : Stmt} {t t' : TS} (h : PS X e t) (f : ∀ Dn sg H, t' Dn sg H → t Dn sg H) : PS X e t' := ⟨fun pins s sg H Dn I hw => h.run pins s sg H Dn I (f Dn sg H hw)⟩
theorem _root_.L2.PSs.weak {X : Cx} {e : List Stmt} {t t' : TS} (h : PSs X e t) (f : ∀ Dn sg H, t' Dn sg H → t Dn sg H) : PSs X e t' := ⟨fun pins s sg H Dn I hw => h.run pins s sg H Dn I (f Dn sg H hw)⟩

abbrev JE (X : Cx) (W : WX) (e : Expr) (w : WE) : Prop := PE X e (twE X.K W w)
abbrev JT (X : Cx) (W : WX) (e : Expr) (w : WT) : Prop := PT X e (twT X.K W w)
abbrev JW (X : Cx) (W : WX) (e : Expr) (w : WT) : Prop := PW X e (twT X.K W w)
abbrev JA (X : Cx) (W : WX) (n : Nat) (e : List Expr) (w : WA) : Prop := PA X e (twA X.K W n w)
abbrev JS (X : Cx) (W : WX) (e : Stmt) (w : WS) : Prop := PS X e (twS X.K W w)
abbrev JSs (X : Cx) (W : WX) (e : List Stmt) (w : WS) : Prop := PSs X e (twS X.K W w)

/-! ### names and constants -/
/-- a test's two ways -/
def cnd (t : Bool) (A B : Unit → Prop) : Prop := (t = true → A ()) ∧ (t = false → B ())
@[simp] theorem cnd_true {A B : Unit → Prop} : cnd true A B = A () := by
  unfold cnd
  exact propext ⟨fun h => h.1 rfl, fun h => ⟨fun _ => h, fun e => Bool.noConfusion e⟩⟩
@[simp] theorem cnd_false {A B : Unit → Prop} : cnd false A B = B () := by
  unfold cnd
  exact propext ⟨fun h => h.2 rfl, fun h => ⟨fun e => Bool.noConfusion e, fun _ => h⟩⟩
theorem cnd_not {t : Bool} {A B : Unit → Prop} : cnd (!t) A B = cnd t B A := by cases t <;> simp
def getL (st : DS) (a : Addr) (k : List D → Prop) : Prop := match st a with
  | some (.lst ds) => k ds
  | _ => False
def optP {α : Type} (o : Option α) (k : α → Prop) : Prop := match o with
  | some x => k x
  | none => False
def asB (d : D) (k : Bool → Prop) : Prop := match d with
  | .bl b => k b
  | _ => False
def asI (d : D) (k : Int → Prop) : Prop := match d with
  | .int b => k b
  | _ => False
theorem getL_inv {st : DS} {a : Addr} {k : List D → Prop} (h : getL st a k) : ∃ ds, st a = some (.lst ds) ∧ k ds := by
  unfold getL at h
  cases e : st a with
  | none => rw [e] at h; exact h.elim
  | some o =>
    rw [e] at h
    cases o with
    | lst ds => exact ⟨ds, rfl, h⟩
    | _ => exact h.elim
theorem optP_inv {α : Type} {o : Option α} {k : α → Prop} (h : optP o k) : ∃ x, o = some x ∧ k x := by
  cases o with
  | none => exact h.elim
  | some x => exact ⟨x, rfl, h⟩
theorem getL_eq {st : DS} {a : Addr} {k : List D → Prop} {ds : List D} (e : st a = some (.lst ds)) : getL st a k = k ds := by unfold getL; rw [e]
@[simp] theorem getL_put {st : DS} {a : Addr} {k : List D → Prop} {ds : List D} : getL (put st a (.lst ds)) a k = k ds := getL_eq put_same
theorem getL_ne {st : DS} {a b : Addr} {o : OB} {k : List D → Prop} (h : b ≠ a) : getL (put st a o) b k = getL st b k := by unfold getL; rw [put_ne h]
@[simp] theorem optP_some {α : Type} {x : α} {k : α → Prop} : optP (some x) k = k x := rfl
def lk (ep : DE) (i : Nat) : Option D := (ep[i]?).getD none
def wVar (i : Nat) : WE := fun ep st R _ => match lk ep i with
  | some d => R d st
  | none => False
def wC (d : D) : WE := fun _ st R _ => R d st
theorem lk_some {ep : DE} {i : Nat} {d : D} (h : lk ep i = some d) : ep[i]? = some (some d) := by
  unfold lk at h
  cases e : ep[i]? with
  | none => rw [e] at h; cases h
  | some x => rw [e] at h; rw [show x = some d from h]
section
variable {X : Cx} {W : WX}
theorem jv (i : Nat) {x : Str} {pos : Pos} (hN : X.N[i]? = some x := by rfl) (hv : Vis X.env.scope x := by first | exact Or.inl rfl | exact Or.inr (Or.inl rfl) | exact Or.inr (Or.inr rfl)) (hd : (x == ("__debug__" : Str)) = false := by decide)
    (hcd : (x == ("__classdict__" : Str)) = false := by decide) : JE X W (.Name x pos) (wVar i) := by
  refine (pe_var hN hv hd hcd).weak ?_
  rintro sg H Q ⟨ep, st, R, Rx, he, hs, hw, hq, hx⟩
  unfold wVar at hw
  cases e : lk ep i with
  | none => rw [e] at hw; exact hw.elim
  | some d =>
    rw [e] at hw
    obtain ⟨v, e1, r⟩ := he.2 i d (lk_some e)
    exact ⟨v, e1, hq v H d st .refl hs r hw⟩
theorem j_const {e : Expr} {v : V} {d : D} (h : PE X e (tC v)) (r : ∀ K H, Rep K H d v) : JE X W e (wC d) := by
  refine h.weak ?_
  rintro sg H Q ⟨ep, st, R, Rx, he, hs, hw, hq, hx⟩
  exact hq v H d st .refl hs (r _ _) hw
theorem ji {i j pos} : JE X W (.Constant (.int i) j pos) (wC (.int i)) := j_const pe_int fun _ _ => Rep_int.mpr rfl
theorem jb {b j pos} : JE X W (.Constant (.bool b) j pos) (wC (.bl b)) := j_const pe_bl fun _ _ => Rep_bl.mpr rfl
theorem jn {j pos} : JE X W (.Constant .none j pos) (wC .non) := j_const pe_non fun _ _ => Rep_non.mpr rfl
theorem jstr {x j pos} : JE X W (.Constant (.str x) j pos) (wC (.str x)) := j_const pe_str fun _ _ => Rep_str.mpr rfl
/-- a class or a function as a value -/
theorem jg {x : Str} {a : Addr} {pos : Pos} (hg : Gl X x) (hm : X.mg x = some (.ref a)) (hd : (x == ("__debug__" : Str)) = false := by decide) : JE X W (.Name x pos) (wC (.ref a)) :=
  j_const (pe_glob (v := .ref a) hg hm rfl hd) fun _ _ => Rep_ref.mpr rfl
end

/-! ### two parts -/
abbrev F2 := D → D → DS → RD → Prop
def wBin (f : F2) (wa wb : WE) : WE := fun ep st R Rx => wa ep st (fun x st1 => wb ep st1 (fun y st2 => f x y st2 R) Rx) Rx
/-- what a hand-layer reading does, told by data -/
def Sim2 (K : PySem.W.Frag) (r : R2) (f : F2) : Prop := ∀ H st x y dx dy R Q, RepS K H st → Rep K H dx x → Rep K H dy y → f dx dy st R → OkQ K H st R Q → r x y H Q
section
variable {X : Cx} {W : WX} {K : PySem.W.Frag}
theorem tw_bin {r : R2} {f : F2} {wa wb : WE} (hf : Sim2 K r f) : ∀ sg H Q, twE K W (wBin f wa wb) sg H Q → tOp r (twE K W wa) (twE K W wb) sg H Q := by
  rintro sg H Q ⟨ep, st, R, Rx, he, hs, hw, hq, hx⟩
  refine ⟨ep, st, _, Rx, he, hs, hw, fun x H1 d1 st1 k1 s1 r1 hw1 => ?_, hx⟩
  exact ⟨ep, st1, _, Rx, he.keep k1, s1, hw1, fun y H2 d2 st2 k2 s2 r2 hw2 => hf H2 st2 x y d1 d2 R Q s2 (r1.keep k2) r2 hw2 (hq.keep (k1.trans k2)), hx.keep k1⟩
theorem j_op {a b : Expr} {wa wb : WE} {op : Operator} {r : R2} {f : F2} {pos : Pos} (ho : OpR X (binaryOp op) r) (hf : Sim2 X.K r f) (ha : JE X W a wa) (hb : JE X W b wb) : JE X W (.BinOp a op b pos) (wBin f wa wb) :=
  (pe_op ho ha hb).weak (tw_bin hf)
theorem j_cmp {a b : Expr} {wa wb : WE} {op : CmpOp} {r : R2} {f : F2} {pos : Pos} (ho : OpR X (compareOp op) r) (hf : Sim2 X.K r f) (ha : JE X W a wa) (hb : JE X W b wb) (hm : behindInMarks op b = false := by first | rfl | exact nobehind _ (by decide) (by decide)) :
    JE X W (.Compare a [op] [b] pos) (wBin f wa wb) := (pe_cmpR ho ha hb hm).weak (tw_bin hf)
def wBinT (f : F2) (wa wb : WE) : WT := fun ep st R Rx => wBin f wa wb ep st (fun d st' => asB d fun b => R b st') Rx
theorem tw_binT {r : R2} {f : F2} {wa wb : WE} (hf : Sim2 K r f) : ∀ sg H Q, twT K W (wBinT f wa wb) sg H Q → tTest (tOp r (twE K W wa) (twE K W wb)) sg H Q := by
  rintro sg H Q ⟨ep, st, R, Rx, he, hs, hw, hq, hx⟩
  refine tw_bin hf sg H _ ⟨ep, st, _, Rx, he, hs, hw, fun v H' d st' k s r h => ?_, hx⟩
  cases d with
  | bl b => exact ⟨b, Rep_bl.mp r, hq b H' st' k s h⟩
  | _ => exact h.elim
theorem j_cmpT {a b : Expr} {wa wb : WE} {op : CmpOp} {r : R2} {f : F2} {pos : Pos} (ho : OpR X (compareOp op) r) (hf : Sim2 X.K r f) (ha : JE X W a wa) (hb : JE X W b wb) (hm : behindInMarks op b = false := by first | rfl | exact nobehind _ (by decide) (by decide)) :
    JT X W (.Compare a [op] [b] pos) (wBinT f wa wb) := (pt_cmpR ho ha hb hm).weak (tw_binT hf)
end
end DL

namespace DL
open PySem PySem.Spec PyProof.Rows L2

/-! ### operators by data -/
theorem OpR_or {X : Cx} {f : Value → Value → Sem Value} {r r' : R2} (h : OpR X f r) (h' : OpR X f r') : OpR X f (fun x y H Q => r x y H Q ∨ r' x y H Q) := by
  intro pins s sg H x y v u Q I rx ry hq
  rcases hq with q | q
  · exact h pins s sg H x y v u Q I rx ry q
  · exact h' pins s sg H x y v u Q I rx ry q
/-- products that the machine's size of ints lets -/
def MulOk (i j : Int) : Prop := CMul i j ∨ CMulW i j
theorem op_mulA {X : Cx} : OpR X (binaryOp .Mult) (rI MulOk fun i j => .int (i * j)) := opI fun _ _ _ _ _ _ _ hc q => mul_int q (hc.elim CMul.ok CMulW.ok)
def addD : F2 := fun x y st R => match x, y with
  | .int i, .int j => R (.int (i + j)) st
  | .str a, .str b => a.length + b.length ≤ sizeLine ∧ R (.str (a ++ b)) st
  | .tup a, .tup b => a.length + b.length ≤ sizeLine ∧ R (.tup (a ++ b)) st
  | .ref p, .ref q => getL st p fun a => getL st q fun b => a.length + b.length ≤ sizeLine ∧ ∀ l, st l = none → R (.ref l) (put st l (.lst (a ++ b)))
  | _, _ => False
def subD : F2 := fun x y st R => match x, y with
  | .int i, .int j => R (.int (i - j)) st
  | _, _ => False
def mulD : F2 := fun x y st R => match x, y with
  | .int i, .int j => MulOk i j ∧ R (.int (i * j)) st
  | _, _ => False
def divD : F2 := fun x y st R => match x, y with
  | .int i, .int j => (0 < j ∧ j.natAbs.log2 < 9000) ∧ R (.int (i / j)) st
  | _, _ => False
def modD : F2 := fun x y st R => match x, y with
  | .int i, .int j => 0 < j ∧ R (.int (i % j)) st
  | _, _ => False
def powD : F2 := fun x y st R => match x, y with
  | .int i, .int j => CPow i j ∧ R (.int (i ^ j.toNat)) st
  | _, _ => False
def shlD : F2 := fun x y st R => match x, y with
  | .int i, .int j => CPow i j ∧ R (.int (i * 2 ^ j.toNat)) st
  | _, _ => False
section
variable {K : PySem.W.Frag}
theorem sim_int {C : Int → Int → Prop} {g : Int → Int → Int} {f : F2} (h : ∀ dx dy st R, f dx dy st R → ∃ i j, dx = .int i ∧ dy = .int j ∧ C i j ∧ R (.int (g i j)) st) : Sim2 K (rI C fun i j => .int (g i j)) f := by
  intro H st x y dx dy R Q hs rx ry hf hq
  obtain ⟨i, j, rfl, rfl, hc, hr⟩ := h _ _ _ _ hf
  exact ⟨i, j, Rep_int.mp rx, Rep_int.mp ry, hc, hq _ _ _ _ .refl hs (Rep_int.mpr rfl) hr⟩
theorem sim_int0 {g : Int → Int → Int} {f : F2} (h : ∀ dx dy st R, f dx dy st R → ∃ i j, dx = .int i ∧ dy = .int j ∧ R (.int (g i j)) st) : Sim2 K (rI0 fun i j => .int (g i j)) f := by
  intro H st x y dx dy R Q hs rx ry hf hq
  obtain ⟨i, j, rfl, rfl, hr⟩ := h _ _ _ _ hf
  exact ⟨i, j, Rep_int.mp rx, Rep_int.mp ry, hq _ _ _ _ .refl hs (Rep_int.mpr rfl) hr⟩
theorem sim_sub : Sim2 K (rI0 fun i j => .int (i - j)) subD := sim_int0 fun dx dy st R h => by
  cases dx <;> cases dy <;> first | exact h.elim | exact ⟨_, _, rfl, rfl, h⟩
theorem sim_mul : Sim2 K (rI MulOk fun i j => .int (i * j)) mulD := sim_int fun dx dy st R h => by
  cases dx <;> cases dy <;> first | exact h.elim | exact ⟨_, _, rfl, rfl, h.1, h.2⟩
theorem sim_div : Sim2 K (rI CDivW fun i j => .int (i / j)) divD := sim_int fun dx dy st R h => by
  cases dx <;> cases dy <;> first | exact h.elim | exact ⟨_, _, rfl, rfl, h.1, h.2⟩
theorem sim_mod : Sim2 K (rI (fun _ j => 0 < j) fun i j => .int (i % j)) modD := sim_int fun dx dy st R h => by
  cases dx <;> cases dy <;> first | exact h.elim | exact ⟨_, _, rfl, rfl, h.1, h.2⟩
theorem sim_pow : Sim2 K (rI CPow fun i j => .int (i ^ j.toNat)) powD := sim_int fun dx dy st R h => by
  cases dx <;> cases dy <;> first | exact h.elim | exact ⟨_, _, rfl, rfl, h.1, h.2⟩
theorem sim_shl : Sim2 K (rI CPow fun i j => .int (i * 2 ^ j.toNat)) shlD := sim_int fun dx dy st R h => by
  cases dx <;> cases dy <;> first | exact h.elim | exact ⟨_, _, rfl, rfl, h.1, h.2⟩
end
def rStrAdd : R2 := fun x y H Q => ∃ i j, x = .str i ∧ y = .str j ∧ i.length + j.length ≤ sizeLine ∧ Q (.str (i ++ j)) H
theorem op_addA {X : Cx} : OpR X (binaryOp .Add) (fun x y H Q => (rI0 (fun i j => .int (i + j)) x y H Q ∨ rStrAdd x y H Q) ∨ (rCatA X.K x y H Q ∨ rCat x y H Q)) :=
  OpR_or (OpR_or op_add op_add_str) (OpR_or op_catA op_cat)
theorem sim_add {K : PySem.W.Frag} : Sim2 K (fun x y H Q => (rI0 (fun i j => .int (i + j)) x y H Q ∨ rStrAdd x y H Q) ∨ (rCatA K x y H Q ∨ rCat x y H Q)) addD := by
  intro H st x y dx dy R Q hs rx ry hf hq
  cases dx with
  | int i =>
    cases dy with
    | int j => exact .inl (.inl ⟨i, j, Rep_int.mp rx, Rep_int.mp ry, hq _ _ _ _ .refl hs (Rep_int.mpr rfl) hf⟩)
    | _ => exact hf.elim
  | str i =>
    cases dy with
    | str j => exact .inl (.inr ⟨i, j, Rep_str.mp rx, Rep_str.mp ry, hf.1, hq _ _ _ _ .refl hs (Rep_str.mpr rfl) hf.2⟩)
    | _ => exact hf.elim
  | tup as =>
    cases dy with
    | tup bs =>
      obtain ⟨a, va, rfl, ta, ra⟩ := Rep_tup.mp rx
      obtain ⟨b, vb, rfl, tb, rb⟩ := Rep_tup.mp ry
      obtain ⟨hz, hr⟩ := hf
      have la := ra.length
      have lb := rb.length
      refine .inr (.inl ⟨a, b, va, vb, rfl, rfl, ta, tb, by omega, fun e => ?_, fun e1 e2 => ?_, fun e1 e2 p hp => ?_⟩)
      · subst e
        have : as = [] := by
          cases as with
          | nil => rfl
          | cons d ds => simp at la
        subst this
        exact hq _ _ _ _ .refl hs (Rep_tup.mpr ⟨b, vb, rfl, tb, rb⟩) hr
      · subst e2
        have : bs = [] := by
          cases bs with
          | nil => rfl
          | cons d ds => simp at lb
        subst this
        refine hq _ _ _ _ .refl hs (Rep_tup.mpr ⟨a, va, rfl, ta, ra⟩) ?_
        rw [List.append_nil] at hr; exact hr
      · have k : Keep K H st (upd H p (.tup (va ++ vb))) st := Keep.untold hp _
        exact hq _ _ _ _ k (hs.untold hp _) (Rep_tup.mpr ⟨p, _, rfl, .inl (.inl upd_same), (ra.keep k).append (rb.keep k)⟩) hr
    | _ => exact hf.elim
  | ref p =>
    cases dy with
    | ref q =>
      obtain ⟨as, ha, hf⟩ := getL_inv hf
      obtain ⟨bs, hb, hz, hr⟩ := getL_inv hf
      obtain ⟨va, ea, ra⟩ := hs p _ ha
      obtain ⟨vb, eb, rb⟩ := hs q _ hb
      have la := ra.length
      have lb := rb.length
      refine .inr (.inr ⟨p, q, va, vb, Rep_ref.mp rx, Rep_ref.mp ry, ea, eb, by omega, fun l hl => ?_⟩)
      have k : Keep K H st (upd H l (.lst (va ++ vb))) (put st l (.lst (as ++ bs))) := Keep.told hl _ _
      exact hq _ _ _ _ k (hs.told hl ⟨_, upd_same, (ra.keep k).append (rb.keep k)⟩) (Rep_ref.mpr rfl) (hr l (hs.free hl))
    | _ => exact hf.elim
  | _ => exact hf.elim
section
variable {X : Cx} {W : WX} {a b : Expr} {wa wb : WE} {pos : Pos}
theorem j_add (ha : JE X W a wa) (hb : JE X W b wb) : JE X W (.BinOp a .Add b pos) (wBin addD wa wb) := j_op op_addA sim_add ha hb
theorem j_sub (ha : JE X W a wa) (hb : JE X W b wb) : JE X W (.BinOp a .Sub b pos) (wBin subD wa wb) := j_op op_sub sim_sub ha hb
theorem j_mul (ha : JE X W a wa) (hb : JE X W b wb) : JE X W (.BinOp a .Mult b pos) (wBin mulD wa wb) := j_op op_mulA sim_mul ha hb
theorem j_div (ha : JE X W a wa) (hb : JE X W b wb) : JE X W (.BinOp a .FloorDiv b pos) (wBin divD wa wb) := j_op op_fdivW sim_div ha hb
theorem j_mod (ha : JE X W a wa) (hb : JE X W b wb) : JE X W (.BinOp a .Mod b pos) (wBin modD wa wb) := j_op op_mod sim_mod ha hb
theorem j_pow (ha : JE X W a wa) (hb : JE X W b wb) : JE X W (.BinOp a .Pow b pos) (wBin powD wa wb) := j_op op_pow sim_pow ha hb
theorem j_shl (ha : JE X W a wa) (hb : JE X W b wb) : JE X W (.BinOp a .LShift b pos) (wBin shlD wa wb) := j_op op_shl sim_shl ha hb
end

/-! ### comparisons by data -/
/-- data that == tells, with the lists of the store -/
inductive PyOf (st : DS) : D → PyData → Prop where
  | non : PyOf st .non .none
  | bl (b : Bool) : PyOf st (.bl b) (.bool b)
  | int (i : Int) : PyOf st (.int i) (.int i)
  | str (x : Str) : PyOf st (.str x) (.str x)
  | tup {ds : List D} {ps : List PyData} (h : Paired (PyOf st) ds ps) : PyOf st (.tup ds) (.tuple ps)
  | lst {a : Addr} {ds : List D} {ps : List PyData} (e : st a = some (.lst ds)) (h : Paired (PyOf st) ds ps) : PyOf st (.ref a) (.list ps)
theorem dp_all {K : PySem.W.Frag} {H : Hp} : ∀ {vs : List V} {ps : List PyData}, Paired (Dp K H) vs ps → DpAll K H vs ps
  | _, _, .nil => .nil
  | _, _, .cons a b => .cons a (dp_all b)
mutual
theorem PyOf.dp {K : PySem.W.Frag} {H : Hp} {st : DS} (hs : RepS K H st) : ∀ {d : D} {p : PyData} {v : V}, PyOf st d p → Rep K H d v → Dp K H v p
  | _, _, _, .non, r => by rw [Rep_non.mp r]; exact .non
  | _, _, _, .bl b, r => by rw [Rep_bl.mp r]; exact .bl b
  | _, _, _, .int i, r => by rw [Rep_int.mp r]; exact .int i
  | _, _, _, .str x, r => by rw [Rep_str.mp r]; exact .str x
  | _, _, _, .tup h, r => by
    obtain ⟨a, vs, rfl, t, q⟩ := Rep_tup.mp r
    exact .tup t (PyOf.dps hs h q)
  | _, _, _, .lst e h, r => by
    rw [Rep_ref.mp r]
    obtain ⟨vs, e1, q⟩ := hs _ _ e
    exact .lst (SqL.of e1) (PyOf.dps hs h q)
theorem PyOf.dps {K : PySem.W.Frag} {H : Hp} {st : DS} (hs : RepS K H st) : ∀ {ds : List D} {ps : List PyData} {vs : List V}, Paired (PyOf st) ds ps → Reps K H ds vs → DpAll K H vs ps
  | _, _, _, .nil, r => by rw [Reps_nil.mp r]; exact .nil
  | _, _, _, .cons a b, r => by
    obtain ⟨v, t, rfl, h1, h2⟩ := Reps_cons.mp r
    exact .cons (PyOf.dp hs a h1) (PyOf.dps hs b h2)
end
/-- plain scalars -/
def D.flat : D → Bool
  | .non => true
  | .bl _ => true
  | .int _ => true
  | .str _ => true
  | _ => false
/-- == of scalars -/
def D.feq : D → D → Bool
  | .non, .non => true
  | .bl a, .bl b => a == b
  | .bl a, .int b => (if a then 1 else 0) == b
  | .int a, .bl b => a == (if b then 1 else 0)
  | .int a, .int b => a == b
  | .str a, .str b => a == b
  | _, _ => false
def D.toV : D → V
  | .non => .non
  | .bl b => .bl b
  | .int i => .int i
  | .str x => .str x
  | _ => .non
theorem D.flat_rep {K : PySem.W.Frag} {H : Hp} {d : D} {v : V} (f : d.flat = true) (r : Rep K H d v) : v = d.toV ∧ flatV v = true := by
  cases d with
  | non => rw [Rep_non.mp r]; exact ⟨rfl, rfl⟩
  | bl b => rw [Rep_bl.mp r]; exact ⟨rfl, rfl⟩
  | int b => rw [Rep_int.mp r]; exact ⟨rfl, rfl⟩
  | str b => rw [Rep_str.mp r]; exact ⟨rfl, rfl⟩
  | _ => cases f
theorem D.feq_V {d e : D} (f : d.flat = true) (g : e.flat = true) : eqV d.toV e.toV = D.feq d e := by
  cases d <;> cases e <;> first | exact absurd (show false = true from f) Bool.false_ne_true | exact absurd (show false = true from g) Bool.false_ne_true | rfl
theorem flats_rep {K : PySem.W.Frag} {H : Hp} {x : D} (g : x.flat = true) : ∀ {ds : List D} {vs : List V}, ds.all D.flat = true → Reps K H ds vs → vs.all flatV = true ∧ inV x.toV vs = ds.any fun d => D.feq d x
  | [], _, _, r => by rw [Reps_nil.mp r]; exact ⟨rfl, rfl⟩
  | d :: ds, _, f, r => by
    obtain ⟨v, t, rfl, h1, h2⟩ := Reps_cons.mp r
    rw [List.all_cons, Bool.and_eq_true] at f
    obtain ⟨e1, e2⟩ := D.flat_rep f.1 h1
    obtain ⟨i1, i2⟩ := flats_rep g f.2 h2
    refine ⟨by rw [List.all_cons, e2, i1]; rfl, ?_⟩
    unfold inV at i2 ⊢
    rw [List.any_cons, List.any_cons, i2, e1, D.feq_V f.1 g]
/-- x == y -/
def eqD : F2 := fun x y st R => match x, y with
  | .int i, .int j => R (.bl (decide (i = j))) st
  | .str i, .str j => R (.bl (decide (i = j))) st
  | .bl i, .bl j => R (.bl (decide (i = j))) st
  | .non, .non => R (.bl true) st
  | .non, .int _ => R (.bl false) st
  | .int _, .non => R (.bl false) st
  | .non, .str _ => R (.bl false) st
  | .str _, .non => R (.bl false) st
  | .int _, .str _ => R (.bl false) st
  | .str _, .int _ => R (.bl false) st
  | x, y => ∃ px py, PyOf st x px ∧ PyOf st y py ∧ SeqAt.shaped px = true ∧ SeqAt.shaped py = true ∧ R (.bl (PyData.eqv px py)) st
def neD : F2 := fun x y st R => match x, y with
  | .int i, .int j => R (.bl (!decide (i = j))) st
  | .str i, .str j => R (.bl (!decide (i = j))) st
  | .bl i, .bl j => R (.bl (!decide (i = j))) st
  | .non, .non => R (.bl false) st
  | .non, .int _ => R (.bl true) st
  | .int _, .non => R (.bl true) st
  | .non, .str _ => R (.bl true) st
  | .str _, .non => R (.bl true) st
  | .int _, .str _ => R (.bl true) st
  | .str _, .int _ => R (.bl true) st
  | x, y => ∃ px py, PyOf st x px ∧ PyOf st y py ∧ SeqAt.shaped px = true ∧ SeqAt.shaped py = true ∧ R (.bl (!PyData.eqv px py)) st
theorem sim_eq {K : PySem.W.Frag} : Sim2 K (fun x y H Q => rEq x y H Q ∨ rEqD K x y H Q) eqD := by
  intro H st x y dx dy R Q hs rx ry hf hq
  have fin : ∀ {b : Bool}, R (.bl b) st → Q (.bl b) H := fun h => hq _ _ _ _ .refl hs (Rep_bl.mpr rfl) h
  have deep : (∃ px py, PyOf st dx px ∧ PyOf st dy py ∧ SeqAt.shaped px = true ∧ SeqAt.shaped py = true ∧ R (.bl (PyData.eqv px py)) st) → rEqD K x y H Q := by
    rintro ⟨px, py, h1, h2, s1, s2, h⟩
    exact ⟨px, py, h1.dp hs rx, h2.dp hs ry, s1, s2, fin h⟩
  have scal : ∀ {a b : V} {c : Bool}, x = a → y = b → L2.scal a b = true → decide (a = b) = c → R (.bl c) st → rEq x y H Q := by
    rintro a b c rfl rfl h1 h2 h3
    refine ⟨h1, ?_⟩
    rw [h2]; exact fin h3
  cases dx <;> cases dy <;> first
    | exact .inr (deep hf)
    | exact .inl (scal (Rep_int.mp rx) (Rep_int.mp ry) rfl (by simp) hf)
    | exact .inl (scal (Rep_str.mp rx) (Rep_str.mp ry) rfl (by simp) hf)
    | exact .inl (scal (Rep_bl.mp rx) (Rep_bl.mp ry) rfl (by simp) hf)
    | exact .inl (scal (Rep_non.mp rx) (Rep_non.mp ry) rfl (by simp) hf)
    | exact .inl (scal (Rep_non.mp rx) (Rep_int.mp ry) rfl (by simp) hf)
    | exact .inl (scal (Rep_int.mp rx) (Rep_non.mp ry) rfl (by simp) hf)
    | exact .inl (scal (Rep_non.mp rx) (Rep_str.mp ry) rfl (by simp) hf)
    | exact .inl (scal (Rep_str.mp rx) (Rep_non.mp ry) rfl (by simp) hf)
    | exact .inl (scal (Rep_int.mp rx) (Rep_str.mp ry) rfl (by simp) hf)
    | exact .inl (scal (Rep_str.mp rx) (Rep_int.mp ry) rfl (by simp) hf)
theorem sim_ne {K : PySem.W.Frag} : Sim2 K (fun x y H Q => rNe x y H Q ∨ rNeD K x y H Q) neD := by
  intro H st x y dx dy R Q hs rx ry hf hq
  have fin : ∀ {b : Bool}, R (.bl b) st → Q (.bl b) H := fun h => hq _ _ _ _ .refl hs (Rep_bl.mpr rfl) h
  have deep : (∃ px py, PyOf st dx px ∧ PyOf st dy py ∧ SeqAt.shaped px = true ∧ SeqAt.shaped py = true ∧ R (.bl (!PyData.eqv px py)) st) → rNeD K x y H Q := by
    rintro ⟨px, py, h1, h2, s1, s2, h⟩
    exact ⟨px, py, h1.dp hs rx, h2.dp hs ry, s1, s2, fin h⟩
  have scal : ∀ {a b : V} {c : Bool}, x = a → y = b → L2.scal a b = true → (!decide (a = b)) = c → R (.bl c) st → rNe x y H Q := by
    rintro a b c rfl rfl h1 h2 h3
    refine ⟨h1, ?_⟩
    rw [h2]; exact fin h3
  cases dx <;> cases dy <;> first
    | exact .inr (deep hf)
    | exact .inl (scal (Rep_int.mp rx) (Rep_int.mp ry) rfl (by simp) hf)
    | exact .inl (scal (Rep_str.mp rx) (Rep_str.mp ry) rfl (by simp) hf)
    | exact .inl (scal (Rep_bl.mp rx) (Rep_bl.mp ry) rfl (by simp) hf)
    | exact .inl (scal (Rep_non.mp rx) (Rep_non.mp ry) rfl (by simp) hf)
    | exact .inl (scal (Rep_non.mp rx) (Rep_int.mp ry) rfl (by simp) hf)
    | exact .inl (scal (Rep_int.mp rx) (Rep_non.mp ry) rfl (by simp) hf)
    | exact .inl (scal (Rep_non.mp rx) (Rep_str.mp ry) rfl (by simp) hf)
    | exact .inl (scal (Rep_str.mp rx) (Rep_non.mp ry) rfl (by simp) hf)
    | exact .inl (scal (Rep_int.mp rx) (Rep_str.mp ry) rfl (by simp) hf)
    | exact .inl (scal (Rep_str.mp rx) (Rep_int.mp ry) rfl (by simp) hf)
def cmpD (p : Int → Int → Bool) : F2 := fun x y st R => match x, y with
  | .int i, .int j => R (.bl (p i j)) st
  | _, _ => False
theorem sim_cmp {K : PySem.W.Frag} {p : Int → Int → Bool} : Sim2 K (rI0 fun i j => .bl (p i j)) (cmpD p) := by
  intro H st x y dx dy R Q hs rx ry hf hq
  cases dx <;> cases dy <;> first | exact hf.elim | exact ⟨_, _, Rep_int.mp rx, Rep_int.mp ry, hq _ _ _ _ .refl hs (Rep_bl.mpr rfl) hf⟩
/-- x in y; neg: not in -/
def inD (neg : Bool) : F2 := fun x y st R => match y with
  | .ref a => getL st a fun ds => x.flat = true ∧ ds.all D.flat = true ∧ R (.bl (if neg = true then !(ds.any fun d => D.feq d x) else ds.any fun d => D.feq d x)) st
  | .tup ds => x.flat = true ∧ ds.all D.flat = true ∧ R (.bl (if neg = true then !(ds.any fun d => D.feq d x) else ds.any fun d => D.feq d x)) st
  | .str z => ∃ c : Nat, x = .str ⟨#[c]⟩ ∧ R (.bl (if neg = true then !decide (c ∈ z.cps.toList) else decide (c ∈ z.cps.toList))) st
  | _ => False
def rInSign (neg : Bool) : R2 := fun x y H Q => ∃ (c : Nat) (z : Str), x = .str ⟨#[c]⟩ ∧ y = .str z ∧ Q (.bl (if neg = true then !decide (c ∈ z.cps.toList) else decide (c ∈ z.cps.toList))) H
theorem sim_in {K : PySem.W.Frag} {neg : Bool} : Sim2 K (fun x y H Q => rIn K neg x y H Q ∨ rInSign neg x y H Q) (inD neg) := by
  intro H st x y dx dy R Q hs rx ry hf hq
  cases dy with
  | ref a =>
    obtain ⟨ds, e, f, g, h⟩ := getL_inv hf
    obtain ⟨vs, e1, q⟩ := hs a _ e
    obtain ⟨ex, fx⟩ := D.flat_rep f rx
    obtain ⟨g1, g2⟩ := flats_rep f g q
    refine .inl ⟨a, vs, Rep_ref.mp ry, .inl (SqL.of e1), fx, g1, ?_⟩
    rw [ex, g2]
    exact hq _ _ _ _ .refl hs (Rep_bl.mpr rfl) h
  | tup ds =>
    obtain ⟨f, g, h⟩ := hf
    obtain ⟨a, vs, rfl, t, q⟩ := Rep_tup.mp ry
    obtain ⟨ex, fx⟩ := D.flat_rep f rx
    obtain ⟨g1, g2⟩ := flats_rep f g q
    refine .inl ⟨a, vs, rfl, .inr t, fx, g1, ?_⟩
    rw [ex, g2]
    exact hq _ _ _ _ .refl hs (Rep_bl.mpr rfl) h
  | str z =>
    obtain ⟨c, rfl, h⟩ := hf
    exact .inr ⟨c, z, Rep_str.mp rx, Rep_str.mp ry, hq _ _ _ _ .refl hs (Rep_bl.mpr rfl) h⟩
  | _ => exact hf.elim
def D.isNon : D → Bool
  | .non => true
  | _ => false
section
variable {X : Cx} {W : WX} {a b : Expr} {wa wb : WE} {pos : Pos}
theorem op_inA : OpR X (compareOp .In) (fun x y H Q => rIn X.K false x y H Q ∨ rInSign false x y H Q) := OpR_or op_in_seq op_in_sign
theorem op_notInA : OpR X (compareOp .NotIn) (fun x y H Q => rIn X.K true x y H Q ∨ rInSign true x y H Q) := OpR_or op_notIn_seq op_notIn_sign
def wNone (neg : Bool) (wa : WE) : WE := fun ep st R Rx => wa ep st (fun d st' => R (.bl (if neg = true then !d.isNon else d.isNon)) st') Rx
theorem non_dec {K : PySem.W.Frag} {H : Hp} {d : D} {v : V} (r : Rep K H d v) : decide (v = V.non) = d.isNon := by
  cases d with
  | non => rw [Rep_non.mp r]; rfl
  | bl b => rw [Rep_bl.mp r]; rfl
  | int b => rw [Rep_int.mp r]; rfl
  | str b => rw [Rep_str.mp r]; rfl
  | ref b => rw [Rep_ref.mp r]; rfl
  | tup b => obtain ⟨a, vs, rfl, _⟩ := Rep_tup.mp r; rfl
  | scr b => obtain ⟨a, vs, rfl, _⟩ := Rep_scr.mp r; rfl
  | key b => obtain ⟨a, rfl, _⟩ := Rep_key.mp r; rfl
theorem j_isN {j p2} (ha : JE X W a wa) : JE X W (.Compare a [.Is] [.Constant .none j p2] pos) (wNone false wa) := by
  refine (pe_cmp (pc_isN ha)).weak ?_
  rintro sg H Q ⟨ep, st, R, Rx, he, hs, hw, hq, hx⟩
  refine ⟨ep, st, _, Rx, he, hs, hw, fun v H' d st' k s r h => ?_, hx⟩
  show Q (V.bl (decide (v = V.non))) H'
  rw [non_dec r]
  exact hq _ _ _ _ k s (Rep_bl.mpr rfl) h
theorem j_notN {j p2} (ha : JE X W a wa) : JE X W (.Compare a [.IsNot] [.Constant .none j p2] pos) (wNone true wa) := by
  refine (pe_cmp (pc_notN ha)).weak ?_
  rintro sg H Q ⟨ep, st, R, Rx, he, hs, hw, hq, hx⟩
  refine ⟨ep, st, _, Rx, he, hs, hw, fun v H' d st' k s r h => ?_, hx⟩
  show Q (V.bl (!decide (v = V.non))) H'
  rw [non_dec r]
  exact hq _ _ _ _ k s (Rep_bl.mpr rfl) h
abbrev ltD : F2 := cmpD fun i j => decide (i < j)
abbrev leD : F2 := cmpD fun i j => decide (i ≤ j)
abbrev gtD : F2 := cmpD fun i j => decide (j < i)
abbrev geD : F2 := cmpD fun i j => decide (j ≤ i)
end
/-! ### and, or, not, if -/
def wTru (f : D → DS → (Bool → DS → Prop) → Prop) (wa : WE) : WT := fun ep st R Rx => wa ep st (fun d st' => f d st' R) Rx
def wB (wa : WE) : WT := fun ep st R Rx => wa ep st (fun d st' => asB d fun b => R b st') Rx
def wAnd (a b : WT) : WT := fun ep st R Rx => a ep st (fun c st' => cnd c (fun _ => b ep st' R Rx) (fun _ => R false st')) Rx
def wOr (a b : WT) : WT := fun ep st R Rx => a ep st (fun c st' => cnd c (fun _ => R true st') (fun _ => b ep st' R Rx)) Rx
def wNot (a : WT) : WT := fun ep st R Rx => a ep st (fun c st' => R (!c) st') Rx
def wTV (a : WT) : WE := fun ep st R Rx => a ep st (fun c st' => R (.bl c) st') Rx
def wIfE (c : WT) (a b : WE) : WE := fun ep st R Rx => c ep st (fun t st' => cnd t (fun _ => a ep st' R Rx) (fun _ => b ep st' R Rx)) Rx
section
variable {X : Cx} {W : WX} {a b : Expr} {wa wb : WE} {ta tb : WT} {rest : List Expr} {pos : Pos}
theorem jt_val (h : JE X W a wa) (he : ∀ whole, isTrue a X.env whole = (do let v ← whole; standAt a.pos; holding [v] (truthy v)) := by intro _; rfl) : JT X W a (wB wa) := by
  refine (pt_val h he).weak ?_
  rintro sg H Q ⟨ep, st, R, Rx, he, hs, hw, hq, hx⟩
  refine ⟨ep, st, _, Rx, he, hs, hw, fun v H' d st' k s r h => ?_, hx⟩
  cases d with
  | bl b => exact ⟨b, Rep_bl.mp r, hq b H' st' k s h⟩
  | _ => exact h.elim
theorem jw_and1 (ha : JT X W a ta) : JW X W (.BoolOp .And [a] pos) ta := pw_and1 ha
theorem jw_or1 (ha : JT X W a ta) : JW X W (.BoolOp .Or [a] pos) ta := pw_or1 ha
theorem jw_and (ha : JT X W a ta) (hb : JW X W (.BoolOp .And (b :: rest) pos) tb) : JW X W (.BoolOp .And (a :: b :: rest) pos) (wAnd ta tb) := by
  refine (pw_and ha hb).weak ?_
  rintro sg H Q ⟨ep, st, R, Rx, he, hs, hw, hq, hx⟩
  refine ⟨ep, st, _, Rx, he, hs, hw, fun c H1 st1 k s h => ?_, hx⟩
  cases c with
  | true => exact ⟨ep, st1, R, Rx, he.keep k, s, h.1 rfl, fun b H2 st2 k2 => hq b H2 st2 (k.trans k2), hx.keep k⟩
  | false => exact hq false H1 st1 k s (h.2 rfl)
theorem jw_or (ha : JT X W a ta) (hb : JW X W (.BoolOp .Or (b :: rest) pos) tb) : JW X W (.BoolOp .Or (a :: b :: rest) pos) (wOr ta tb) := by
  refine (pw_or ha hb).weak ?_
  rintro sg H Q ⟨ep, st, R, Rx, he, hs, hw, hq, hx⟩
  refine ⟨ep, st, _, Rx, he, hs, hw, fun c H1 st1 k s h => ?_, hx⟩
  cases c with
  | false => exact ⟨ep, st1, R, Rx, he.keep k, s, h.2 rfl, fun b H2 st2 k2 => hq b H2 st2 (k.trans k2), hx.keep k⟩
  | true => exact hq true H1 st1 k s (h.1 rfl)
theorem jw_t {e : Expr} (h : JW X W e ta) : JT X W e ta := PW.pt h
theorem jt_not (ha : JT X W a ta) : JT X W (.UnaryOp .Not a pos) (wNot ta) := by
  refine (pt_not ha).weak ?_
  rintro sg H Q ⟨ep, st, R, Rx, he, hs, hw, hq, hx⟩
  exact ⟨ep, st, _, Rx, he, hs, hw, fun c H1 st1 k s h => hq (!c) H1 st1 k s h, hx⟩
/-- as values: all parts are True or False -/
theorem je_one {op} (h : JE X W a wa) : JE X W (.BoolOp op [a] pos) wa := pe_one h
theorem je_and (ha : JE X W a wa) (hb : JE X W (.BoolOp .And (b :: rest) pos) wb) : JE X W (.BoolOp .And (a :: b :: rest) pos)
    (fun ep st R Rx => wB wa ep st (fun c st' => cnd c (fun _ => wb ep st' R Rx) (fun _ => R (.bl false) st')) Rx) := by
  refine (pe_and ha hb).weak ?_
  rintro sg H Q ⟨ep, st, R, Rx, he, hs, hw, hq, hx⟩
  refine ⟨ep, st, _, Rx, he, hs, hw, fun v H1 d st1 k s r h => ?_, hx⟩
  cases d with
  | bl c =>
    refine ⟨c, Rep_bl.mp r, ?_⟩
    cases c with
    | true => exact ⟨ep, st1, R, Rx, he.keep k, s, h.1 rfl, hq.keep k, hx.keep k⟩
    | false => exact hq _ H1 _ st1 k s (Rep_bl.mpr rfl) (h.2 rfl)
  | _ => exact h.elim
theorem je_or (ha : JE X W a wa) (hb : JE X W (.BoolOp .Or (b :: rest) pos) wb) : JE X W (.BoolOp .Or (a :: b :: rest) pos)
    (fun ep st R Rx => wB wa ep st (fun c st' => cnd c (fun _ => R (.bl true) st') (fun _ => wb ep st' R Rx)) Rx) := by
  refine (pe_or ha hb).weak ?_
  rintro sg H Q ⟨ep, st, R, Rx, he, hs, hw, hq, hx⟩
  refine ⟨ep, st, _, Rx, he, hs, hw, fun v H1 d st1 k s r h => ?_, hx⟩
  cases d with
  | bl c =>
    refine ⟨c, Rep_bl.mp r, ?_⟩
    cases c with
    | false => exact ⟨ep, st1, R, Rx, he.keep k, s, h.2 rfl, hq.keep k, hx.keep k⟩
    | true => exact hq _ H1 _ st1 k s (Rep_bl.mpr rfl) (h.1 rfl)
  | _ => exact h.elim
theorem je_not (ha : JE X W a wa) : JE X W (.UnaryOp .Not a pos) (fun ep st R Rx => wB wa ep st (fun c st' => R (.bl (!c)) st') Rx) := by
  refine (pe_not ha).weak ?_
  rintro sg H Q ⟨ep, st, R, Rx, he, hs, hw, hq, hx⟩
  refine ⟨ep, st, _, Rx, he, hs, hw, fun v H1 d st1 k s r h => ?_, hx⟩
  cases d with
  | bl c => exact ⟨c, Rep_bl.mp r, hq _ H1 _ st1 k s (Rep_bl.mpr rfl) h⟩
  | _ => exact h.elim
theorem je_if {c : Expr} {tc : WT} (hc : JT X W c tc) (ha : JE X W a wa) (hb : JE X W b wb) : JE X W (.IfExp c a b pos) (wIfE tc wa wb) := by
  refine (pe_ifExp hc ha hb).weak ?_
  rintro sg H Q ⟨ep, st, R, Rx, he, hs, hw, hq, hx⟩
  refine ⟨ep, st, _, Rx, he, hs, hw, fun t H1 st1 k s h => ?_, hx⟩
  cases t with
  | true => exact ⟨ep, st1, R, Rx, he.keep k, s, h.1 rfl, hq.keep k, hx.keep k⟩
  | false => exact ⟨ep, st1, R, Rx, he.keep k, s, h.2 rfl, hq.keep k, hx.keep k⟩
theorem je_neg (ha : JE X W a wa) : JE X W (.UnaryOp .USub a pos) (fun ep st R Rx => wa ep st (fun d st' => asI d fun i => R (.int (-i)) st') Rx) := by
  refine (pe_un un_neg ha).weak ?_
  rintro sg H Q ⟨ep, st, R, Rx, he, hs, hw, hq, hx⟩
  refine ⟨ep, st, _, Rx, he, hs, hw, fun v H1 d st1 k s r h => ?_, hx⟩
  cases d with
  | int c => exact ⟨c, Rep_int.mp r, hq _ H1 _ st1 k s (Rep_int.mpr rfl) h⟩
  | _ => exact h.elim
end
end DL

namespace DL
open PySem PySem.Spec PyProof.Rows L2

/-! ### argument lists, displays -/
def wANil : WA := fun _ st R _ => R [] st
def wACons (w : WE) (ws : WA) : WA := fun ep st R Rx => w ep st (fun d st1 => ws ep st1 (fun ds st2 => R (d :: ds) st2) Rx) Rx
def kD : L2.Key → D
  | .inl i => .int i
  | .inr x => .str x
theorem reps_kD {K : PySem.W.Frag} {H : Hp} : ∀ {ks : List L2.Key} {vs : List V}, Reps K H (ks.map kD) vs ↔ vs = ks.map kV
  | [], vs => by rw [List.map_nil, List.map_nil, Reps_nil]
  | k :: ks, vs => by
    rw [List.map_cons, List.map_cons, Reps_cons]
    have e : ∀ v, Rep K H (kD k) v ↔ v = kV k := fun v => by cases k <;> first | exact Rep_int | exact Rep_str
    constructor
    · rintro ⟨v, r, rfl, h1, h2⟩
      rw [(e v).mp h1, reps_kD.mp h2]
    · rintro rfl
      exact ⟨_, _, rfl, (e _).mpr rfl, reps_kD.mpr rfl⟩
def wTup (wa : WA) : WE := fun ep st R Rx => wa ep st (fun ds st' => R (.tup ds) st' ∨ ∃ ks : List L2.Key, ds = ks.map kD ∧ R (.key ks) st') Rx
def wLst (wa : WA) : WE := fun ep st R Rx => wa ep st (fun ds st' => ∀ p, st' p = none → R (.ref p) (put st' p (.lst ds))) Rx
section
variable {X : Cx} {W : WX} {e : Expr} {es : List Expr} {w : WE} {ws : WA} {n : Nat} {pos : Pos}
theorem ja_nil : JA X W 0 [] wANil := by
  refine pa_nil.weak ?_
  rintro sg H Q ⟨ep, st, R, Rx, he, hs, hw, hq, hx⟩
  exact hq [] H [] st rfl .refl hs Reps.nil hw
theorem ja_cons (h : JE X W e w) (t : JA X W n es ws) (hst : starEach (e :: es) X.env = (false, eval e X.env) :: starEach es X.env := by rfl) : JA X W (n + 1) (e :: es) (wACons w ws) := by
  refine (pa_cons h t hst).weak ?_
  rintro sg H Q ⟨ep, st, R, Rx, he, hs, hw, hq, hx⟩
  refine ⟨ep, st, _, Rx, he, hs, hw, fun v H1 d st1 k s r h => ?_, hx⟩
  exact ⟨ep, st1, _, Rx, he.keep k, s, h, fun vs H2 ds st2 hl k2 s2 r2 h2 => hq (v :: vs) H2 (d :: ds) st2 (by rw [List.length_cons, hl]) (k.trans k2) s2 (.cons (r.keep k2) r2) h2, hx.keep k⟩
theorem je_tup {x1} (h : JA X W n es ws) (hn : n ≤ sizeLine := by decide) : JE X W (.Tuple es x1 pos) (wTup ws) := by
  refine (pe_tup h).weak ?_
  rintro sg H Q ⟨ep, st, R, Rx, he, hs, hw, hq, hx⟩
  refine ⟨ep, st, _, Rx, he, hs, hw, fun vs H1 ds st1 hl k s r h => ⟨by rw [← r.length, hl]; exact hn, fun p hp => ?_⟩, hx⟩
  have k2 : Keep X.K H1 st1 (upd H1 p (.tup vs)) st1 := Keep.untold hp _
  rcases h with h | ⟨ks, rfl, h⟩
  · exact hq _ _ _ _ (k.trans k2) (s.untold hp _) (Rep_tup.mpr ⟨p, vs, rfl, .inl (.inl upd_same), r.keep k2⟩) h
  · rw [reps_kD.mp r] at k2 ⊢
    exact hq _ _ _ _ (k.trans k2) (s.untold hp _) (Rep_key.mpr ⟨p, rfl, upd_same⟩) h
theorem je_lst (h : JA X W n es ws) (hn : n ≤ sizeLine := by decide) : JE X W (.List es pos) (wLst ws) := by
  refine (pe_lst h).weak ?_
  rintro sg H Q ⟨ep, st, R, Rx, he, hs, hw, hq, hx⟩
  refine ⟨ep, st, _, Rx, he, hs, hw, fun vs H1 ds st1 hl k s r h => ⟨by rw [← r.length, hl]; exact hn, fun p hp => ?_⟩, hx⟩
  have k2 : Keep X.K H1 st1 (upd H1 p (.lst vs)) (put st1 p (.lst ds)) := Keep.told hp _ _
  exact hq _ _ _ _ (k.trans k2) (s.told hp ⟨vs, upd_same, r.keep k2⟩) (Rep_ref.mpr rfl) (h p (s.free hp))
end

/-! ### subscripts -/
def ixD : F2 := fun x y st R => match x, y with
  | .key ks, .int i => optP (atI (ks.map kD) i) fun d => R d st
  | .tup ds, .int i => optP (atI ds i) fun d => R d st
  | .scr ds, .int i => optP (atI ds i) fun d => R d st
  | .ref a, .int i => getL st a fun ds => optP (atI ds i) fun d => R d st
  | .str z, .int i => z.length ≤ sizeLine ∧ optP (atI z.cps.toList i) fun c => R (.str ⟨#[c]⟩) st
  | _, _ => False
theorem atI_rep {K : PySem.W.Frag} {H : Hp} {ds : List D} {vs : List V} {i : Int} {d : D} (r : Reps K H ds vs) (h : atI ds i = some d) : ∃ v, atI vs i = some v ∧ Rep K H d v := by
  unfold atI at h ⊢
  rw [← r.length]
  cases e : ixN ds.length i with
  | none => rw [e] at h; cases h
  | some j =>
    rw [e] at h
    obtain ⟨v, h1, h2⟩ := r.get (show ds[j]? = some d from h)
    exact ⟨v, h1, h2⟩
theorem sim_ix {K : PySem.W.Frag} : Sim2 K (rIx K) ixD := by
  intro H st x y dx dy R Q hs rx ry hf hq
  cases dy with
  | int i =>
    cases dx with
    | key ks =>
      obtain ⟨d, h1, h2⟩ := optP_inv hf
      obtain ⟨a, rfl, t⟩ := Rep_key.mp rx
      obtain ⟨v, e1, r1⟩ := atI_rep (reps_kD.mpr rfl) h1
      exact .inr (.inl ⟨a, _, i, v, rfl, Rep_int.mp ry, .inl (.inl t), e1, hq _ _ _ _ .refl hs r1 h2⟩)
    | tup ds =>
      obtain ⟨d, h1, h2⟩ := optP_inv hf
      obtain ⟨a, vs, rfl, t, q⟩ := Rep_tup.mp rx
      obtain ⟨v, e1, r1⟩ := atI_rep q h1
      exact .inr (.inl ⟨a, vs, i, v, rfl, Rep_int.mp ry, t, e1, hq _ _ _ _ .refl hs r1 h2⟩)
    | scr ds =>
      obtain ⟨d, h1, h2⟩ := optP_inv hf
      obtain ⟨a, vs, rfl, t, q⟩ := Rep_scr.mp rx
      obtain ⟨v, e1, r1⟩ := atI_rep q h1
      exact .inl ⟨a, vs, i, v, rfl, Rep_int.mp ry, t.sq, e1, hq _ _ _ _ .refl hs r1 h2⟩
    | ref a =>
      obtain ⟨ds, h0, hf⟩ := getL_inv hf
      obtain ⟨d, h1, h2⟩ := optP_inv hf
      obtain ⟨vs, t, q⟩ := hs a _ h0
      obtain ⟨v, e1, r1⟩ := atI_rep q h1
      exact .inl ⟨a, vs, i, v, Rep_ref.mp rx, Rep_int.mp ry, SqL.of t, e1, hq _ _ _ _ .refl hs r1 h2⟩
    | str z =>
      obtain ⟨h0, hf⟩ := hf
      obtain ⟨c, h1, h2⟩ := optP_inv hf
      exact .inr (.inr ⟨z, i, c, Rep_str.mp rx, Rep_int.mp ry, h0, h1, hq _ _ _ _ .refl hs (Rep_str.mpr rfl) h2⟩)
    | _ => exact hf.elim
  | _ => cases dx <;> exact hf.elim
theorem j_ix {X : Cx} {W : WX} {a b : Expr} {wa wb : WE} {pos : Pos} (ha : JE X W a wa) (hb : JE X W b wb) (hs : PlainIx b := by intro _ _; rfl) : JE X W (.Subscript a b pos) (wBin ixD wa wb) :=
  (pe_ix ix_seq ha hb hs).weak (tw_bin sim_ix)
@[simp] theorem atI_0 {α : Type} (a : α) (l : List α) : atI (a :: l) 0 = some a := atI_nat (j := 0) rfl
@[simp] theorem atI_1 {α : Type} (a b : α) (l : List α) : atI (a :: b :: l) 1 = some b := atI_nat (j := 1) rfl
@[simp] theorem atI_2 {α : Type} (a b c : α) (l : List α) : atI (a :: b :: c :: l) 2 = some c := atI_nat (j := 2) rfl
@[simp] theorem atI_3 {α : Type} (a b c d : α) (l : List α) : atI (a :: b :: c :: d :: l) 3 = some d := atI_nat (j := 3) rfl
@[simp] theorem atI_4 {α : Type} (a b c d e : α) (l : List α) : atI (a :: b :: c :: d :: e :: l) 4 = some e := atI_nat (j := 4) rfl

/-! ### slices -/
abbrev WO := DE → DS → (Option Int → DS → Prop) → RX → Prop
def twO (K : PySem.W.Frag) (W : WX) (w : WO) : TO := fun sg H Q => ∃ ep st R Rx, RepE K H ep sg ∧ RepS K H st ∧ w ep st R Rx ∧ (∀ o H' st', Keep K H st H' st' → RepS K H' st' → R o st' → Q o H') ∧ OkX K W sg H st Rx
def wONone : WO := fun _ st R _ => R none st
def wOSome (w : WE) : WO := fun ep st R Rx => w ep st (fun d st' => asI d fun i => R (some i) st') Rx
def cutD (ds : List D) (lo hi : Option Int) : List D := (ds.drop (HT.sIx ds.length 0 lo)).take (HT.sIx ds.length ds.length hi - HT.sIx ds.length 0 lo)
def slD (x : D) (lo hi : Option Int) (st : DS) (R : RD) : Prop := match x with
  | .tup ds => R (.tup (cutD ds lo hi)) st
  | .ref a => getL st a fun ds => ∀ p, st p = none → R (.ref p) (put st p (.lst (cutD ds lo hi)))
  | .str z => z.length ≤ sizeLine ∧ R (.str (cutS z lo hi)) st
  | _ => False
def wSl (wa : WE) (wl wh : WO) : WE := fun ep st R Rx => wa ep st (fun x st1 => wl ep st1 (fun lo st2 => wh ep st2 (fun hi st3 => slD x lo hi st3 R) Rx) Rx) Rx
theorem cut_whole {ds : List D} {lo hi : Option Int} (h : HT.sIx ds.length 0 lo = 0 ∧ HT.sIx ds.length ds.length hi = ds.length) : cutD ds lo hi = ds := by
  unfold cutD
  rw [h.1, h.2, List.drop_zero, Nat.sub_zero, List.take_length]
theorem Reps.cut {K : PySem.W.Frag} {H : Hp} {ds : List D} {vs : List V} (r : Reps K H ds vs) (lo hi : Option Int) : Reps K H (cutD ds lo hi) (cutV vs lo hi) := by
  unfold cutD cutV
  rw [← r.length]
  exact (r.drop _).take _
section
variable {X : Cx} {W : WX} {a : Expr} {wa : WE} {wl wh : WO} {lo hi : Option Expr} {pos p2 : Pos}
theorem jo_none : PO X none (twO X.K W wONone) := by
  refine ⟨fun pins s sg H Q I h => po_none.run pins s sg H Q I ?_⟩
  obtain ⟨ep, st, R, Rx, he, hs, hw, hq, hx⟩ := h
  exact hq none H st .refl hs hw
theorem jo_some {e : Expr} {w : WE} (h : JE X W e w) : PO X (some e) (twO X.K W (wOSome w)) := by
  refine ⟨fun pins s sg H Q I hh => (po_some h).run pins s sg H Q I ?_⟩
  obtain ⟨ep, st, R, Rx, he, hs, hw, hq, hx⟩ := hh
  refine ⟨ep, st, _, Rx, he, hs, hw, fun v H' d st' k s r h => ?_, hx⟩
  cases d with
  | int i => exact ⟨i, Rep_int.mp r, hq _ H' st' k s h⟩
  | _ => exact h.elim
theorem j_sl (ha : JE X W a wa) (hl : PO X lo (twO X.K W wl)) (hh : PO X hi (twO X.K W wh)) : JE X W (.Subscript a (.Slice lo hi none p2) pos) (wSl wa wl wh) := by
  refine (pe_slice ((sl_list.or sl_tupA).or sl_str) ha hl hh).weak ?_
  rintro sg H Q ⟨ep, st, R, Rx, he, hs, hw, hq, hx⟩
  refine ⟨ep, st, _, Rx, he, hs, hw, fun x H1 d st1 k s r h => ?_, hx⟩
  refine ⟨ep, st1, _, Rx, he.keep k, s, h, fun l H2 st2 k2 s2 h2 => ?_, hx.keep k⟩
  refine ⟨ep, st2, _, Rx, (he.keep k).keep k2, s2, h2, fun u H3 st3 k3 s3 h3 => ?_, (hx.keep k).keep k2⟩
  have r3 := (r.keep k2).keep k3
  have kk := (k.trans k2).trans k3
  cases d with
  | tup ds =>
    obtain ⟨b, vs, rfl, t, q⟩ := Rep_tup.mp r3
    refine .inl (.inr ⟨b, vs, rfl, t, fun hw => ?_, fun _ p hp => ?_⟩)
    · refine hq _ _ _ _ kk s3 (Rep_tup.mpr ⟨b, vs, rfl, t, ?_⟩) h3
      rw [cut_whole (by rw [q.length]; exact hw)]; exact q
    · have k4 : Keep X.K H3 st3 (upd H3 p (.tup (cutV vs l u))) st3 := Keep.untold hp _
      exact hq _ _ _ _ (kk.trans k4) (s3.untold hp _) (Rep_tup.mpr ⟨p, _, rfl, .inl (.inl upd_same), (q.cut l u).keep k4⟩) h3
  | ref b =>
    obtain ⟨ds, e, h4⟩ := getL_inv h3
    obtain ⟨vs, e1, q⟩ := s3 b _ e
    refine .inl (.inl ⟨b, vs, Rep_ref.mp r3, SqL.of e1, fun p hp => ?_⟩)
    have k4 : Keep X.K H3 st3 (upd H3 p (.lst (cutV vs l u))) (put st3 p (.lst (cutD ds l u))) := Keep.told hp _ _
    exact hq _ _ _ _ (kk.trans k4) (s3.told hp ⟨_, upd_same, (q.cut l u).keep k4⟩) (Rep_ref.mpr rfl) (h4 p (s3.free hp))
  | str z => exact .inr ⟨z, Rep_str.mp r3, h3.1, hq _ _ _ _ kk s3 (Rep_str.mpr rfl) h3.2⟩
  | _ => exact h3.elim
end

/-! ### calls of built-in functions -/
abbrev FC := List D → DS → RD → Prop
def wCB (f : FC) (wa : WA) : WE := fun ep st R Rx => wa ep st (fun ds st' => f ds st' R) Rx
def SimC (K : PySem.W.Frag) (r : List V → Hp → VK → Prop) (f : FC) : Prop := ∀ H st vs ds R Q, RepS K H st → Reps K H ds vs → f ds st R → OkQ K H st R Q → r vs H Q
section
variable {X : Cx} {W : WX} {K : PySem.W.Frag} {x : Str} {p pos : Pos} {e : Expr} {es : List Expr} {wa : WA} {n : Nat} {id T : String} {r : List V → Hp → VK → Prop} {f : FC}
theorem tw_cb (hf : SimC K r f) : ∀ sg H Q, twE K W (wCB f wa) sg H Q → tCB r (twA K W n wa) sg H Q := by
  rintro sg H Q ⟨ep, st, R, Rx, he, hs, hw, hq, hx⟩
  exact ⟨ep, st, _, Rx, he, hs, hw, fun vs H1 ds st1 hl k s q h => hf H1 st1 vs ds R Q s q h (hq.keep k), hx⟩
theorem j_callB (hc : CallR X (.builtin id) r) (hf : SimC X.K r f) (hm : X.mg x = none) (hv : bootBuiltins x = some (.builtin id)) (ha : JA X W n (e :: es) wa) (hg : Gl X x := by rfl) (hn : x ≠ "__name__" := by decide) (hdb : (x == ("__debug__" : Str)) = false := by decide)
    (he : starEach (e :: es) X.env = (false, eval e X.env) :: starEach es X.env := by rfl) (hpl : (backTo pos (starEach es X.env)).any (·.1) = false := by rfl) : JE X W (.Call (.Name x p) (e :: es) [] pos) (wCB f wa) :=
  (pe_callB hc hg hm hv ha hn hdb he hpl).weak (tw_cb hf)
theorem j_callTy (hc : CallR X (.type T) r) (hf : SimC X.K r f) (hm : X.mg x = none) (hv : bootBuiltins x = some (.type T)) (ha : JA X W n (e :: es) wa) (hg : Gl X x := by rfl) (hn : x ≠ "__name__" := by decide) (hdb : (x == ("__debug__" : Str)) = false := by decide)
    (he : starEach (e :: es) X.env = (false, eval e X.env) :: starEach es X.env := by rfl) (hpl : (backTo pos (starEach es X.env)).any (·.1) = false := by rfl) : JE X W (.Call (.Name x p) (e :: es) [] pos) (wCB f wa) :=
  (pe_callTy hc hg hm hv ha hn hdb he hpl).weak (tw_cb hf)
theorem j_callF (hc : CallR X (.builtin id) r) (hf : SimC X.K r f) (hm : X.mg x = some (.builtin id)) (ha : JA X W n (e :: es) wa) (hg : Gl X x := by rfl) (hdb : (x == ("__debug__" : Str)) = false := by decide)
    (he : starEach (e :: es) X.env = (false, eval e X.env) :: starEach es X.env := by rfl) (hpl : (backTo pos (starEach es X.env)).any (·.1) = false := by rfl) : JE X W (.Call (.Name x p) (e :: es) [] pos) (wCB f wa) :=
  (pe_callBfun hc hg hm ha hdb he hpl).weak (tw_cb hf)
/-- len -/
def lenD : FC := fun ds st R => match ds with
  | [.str z] => z.length ≤ sizeLine ∧ R (.int z.length) st
  | [.tup es] => R (.int es.length) st
  | [.key es] => R (.int es.length) st
  | [.scr es] => R (.int es.length) st
  | [.ref a] => getL st a fun es => R (.int es.length) st
  | _ => False
theorem sim_len : SimC K (fun xs H Q => ∃ x n, xs = [x] ∧ LenV K x H n ∧ Q (.int n) H) lenD := by
  intro H st vs ds R Q hs rs hf hq
  match ds, hf with
  | [d], hf =>
    obtain ⟨v, t, rfl, r, r2⟩ := Reps_cons.mp rs
    rw [Reps_nil.mp r2]
    cases d with
    | str z => exact ⟨v, z.length, rfl, by rw [Rep_str.mp r]; exact ⟨hf.1, rfl⟩, hq _ _ _ _ .refl hs (Rep_int.mpr rfl) hf.2⟩
    | tup es =>
      obtain ⟨a, us, rfl, t, q⟩ := Rep_tup.mp r
      exact ⟨_, es.length, rfl, .inr ⟨us, t, q.length⟩, hq _ _ _ _ .refl hs (Rep_int.mpr rfl) hf⟩
    | key es =>
      obtain ⟨a, rfl, t⟩ := Rep_key.mp r
      exact ⟨_, es.length, rfl, .inr ⟨_, .inl (.inl t), (List.length_map ..).symm⟩, hq _ _ _ _ .refl hs (Rep_int.mpr rfl) hf⟩
    | scr es =>
      obtain ⟨a, us, rfl, t, q⟩ := Rep_scr.mp r
      exact ⟨_, es.length, rfl, .inl ⟨us, t.sq, q.length⟩, hq _ _ _ _ .refl hs (Rep_int.mpr rfl) hf⟩
    | ref a =>
      obtain ⟨es, e, h⟩ := getL_inv hf
      obtain ⟨us, e1, q⟩ := hs a _ e
      exact ⟨v, es.length, rfl, by rw [Rep_ref.mp r]; exact .inl ⟨us, SqL.of e1, q.length⟩, hq _ _ _ _ .refl hs (Rep_int.mpr rfl) h⟩
    | _ => exact hf.elim
  | a :: b :: c, hf => cases a <;> exact hf.elim
theorem j_len (hm : X.mg "len" = none) {p pos : Pos} {wa : WA} (ha : JA X W n [e] wa) (hg : Gl X "len" := by rfl) (he : starEach [e] X.env = (false, eval e X.env) :: starEach [] X.env := by rfl) : JE X W (.Call (.Name "len" p) [e] [] pos) (wCB lenD wa) :=
  j_callB call_len sim_len hm PySem.boot_len ha hg (by decide) (by decide) he rfl
/-- abs -/
def absD : FC := fun ds st R => match ds with
  | [.int i] => R (.int (if i < 0 then -i else i)) st
  | _ => False
theorem sim_abs : SimC K (fun xs H Q => ∃ i, xs = [.int i] ∧ Q (.int (if i < 0 then -i else i)) H) absD := by
  intro H st vs ds R Q hs rs hf hq
  match ds, hf with
  | [.int i], hf =>
    obtain ⟨v, t, rfl, r, r2⟩ := Reps_cons.mp rs
    rw [Reps_nil.mp r2, Rep_int.mp r]
    exact ⟨i, rfl, hq _ _ _ _ .refl hs (Rep_int.mpr rfl) hf⟩
theorem j_abs (hm : X.mg "abs" = none) {p pos : Pos} {wa : WA} (ha : JA X W n [e] wa) (hg : Gl X "abs" := by rfl) (he : starEach [e] X.env = (false, eval e X.env) :: starEach [] X.env := by rfl) : JE X W (.Call (.Name "abs" p) [e] [] pos) (wCB absD wa) :=
  j_callB call_abs sim_abs hm (by decide +kernel) ha hg (by decide) (by decide) he rfl
/-- int of a number or a truth value -/
def intD : FC := fun ds st R => match ds with
  | [.int i] => R (.int i) st
  | [.bl b] => R (.int (if b = true then 1 else 0)) st
  | _ => False
theorem sim_intc : SimC K (fun xs H Q => (∃ i, xs = [.int i] ∧ Q (.int i) H) ∨ ∃ k, xs = [.bl k] ∧ Q (.int (if k then 1 else 0)) H) intD := by
  intro H st vs ds R Q hs rs hf hq
  match ds, hf with
  | [.int i], hf =>
    obtain ⟨v, t, rfl, r, r2⟩ := Reps_cons.mp rs
    rw [Reps_nil.mp r2, Rep_int.mp r]
    exact .inl ⟨i, rfl, hq _ _ _ _ .refl hs (Rep_int.mpr rfl) hf⟩
  | [.bl b], hf =>
    obtain ⟨v, t, rfl, r, r2⟩ := Reps_cons.mp rs
    rw [Reps_nil.mp r2, Rep_bl.mp r]
    exact .inr ⟨b, rfl, hq _ _ _ _ .refl hs (Rep_int.mpr rfl) hf⟩
theorem j_int (hm : X.mg "int" = none) {p pos : Pos} {wa : WA} (ha : JA X W n [e] wa) (hg : Gl X "int" := by rfl) (he : starEach [e] X.env = (false, eval e X.env) :: starEach [] X.env := by rfl) : JE X W (.Call (.Name "int" p) [e] [] pos) (wCB intD wa) :=
  j_callTy call_int1 sim_intc hm (by decide +kernel) ha hg (by decide) (by decide) he rfl
/-- list(..), tuple(..) of a list or a tuple -/
def listD : FC := fun ds st R => match ds with
  | [.tup es] => ∀ p, st p = none → R (.ref p) (put st p (.lst es))
  | [.scr es] => ∀ p, st p = none → R (.ref p) (put st p (.lst es))
  | [.ref a] => getL st a fun es => ∀ p, st p = none → R (.ref p) (put st p (.lst es))
  | _ => False
theorem sim_list : SimC K (fun xs H Q => ∃ p ys, xs = [.ref p] ∧ (SqL K H p ys ∨ SqT K H p ys) ∧ ∀ l, H l = none → Q (.ref l) (upd H l (.lst ys))) listD := by
  intro H st vs ds R Q hs rs hf hq
  have fin : ∀ {es : List D} {us : List V}, Reps K H es us → (∀ p, st p = none → R (.ref p) (put st p (.lst es))) → ∀ l, H l = none → Q (.ref l) (upd H l (.lst us)) := fun {es us} q h l hl => by
    have k2 : Keep K H st (upd H l (.lst us)) (put st l (.lst es)) := Keep.told hl _ _
    exact hq _ _ _ _ k2 (hs.told hl ⟨us, upd_same, q.keep k2⟩) (Rep_ref.mpr rfl) (h l (hs.free hl))
  match ds, hf with
  | [.tup es], hf =>
    obtain ⟨v, t, rfl, r, r2⟩ := Reps_cons.mp rs
    obtain ⟨a, us, rfl, t, q⟩ := Rep_tup.mp r
    rw [Reps_nil.mp r2]
    exact ⟨a, us, rfl, .inr t, fin q hf⟩
  | [.scr es], hf =>
    obtain ⟨v, t, rfl, r, r2⟩ := Reps_cons.mp rs
    obtain ⟨a, us, rfl, t, q⟩ := Rep_scr.mp r
    rw [Reps_nil.mp r2]
    exact ⟨a, us, rfl, .inl t.sq, fin q hf⟩
  | [.ref a], hf =>
    obtain ⟨v, t, rfl, r, r2⟩ := Reps_cons.mp rs
    obtain ⟨es, e, h⟩ := getL_inv hf
    obtain ⟨us, e1, q⟩ := hs a _ e
    rw [Reps_nil.mp r2, Rep_ref.mp r]
    exact ⟨a, us, rfl, .inl (SqL.of e1), fin q h⟩
theorem j_list (hm : X.mg "list" = none) {p pos : Pos} {wa : WA} (ha : JA X W n [e] wa) (hg : Gl X "list" := by rfl) (he : starEach [e] X.env = (false, eval e X.env) :: starEach [] X.env := by rfl) : JE X W (.Call (.Name "list" p) [e] [] pos) (wCB listD wa) :=
  j_callTy call_list_of sim_list hm (by decide +kernel) ha hg (by decide) (by decide) he rfl
def tupleD : FC := fun ds st R => match ds with
  | [.tup es] => R (.tup es) st
  | [.scr es] => R (.tup es) st
  | [.ref a] => getL st a fun es => R (.tup es) st
  | _ => False
theorem sim_tuple : SimC K (fun xs H Q => ∃ p ys, xs = [.ref p] ∧ ((SqL K H p ys ∧ ∀ l, H l = none → Q (.ref l) (upd H l (.tup ys))) ∨ (SqT K H p ys ∧ Q (.ref p) H))) tupleD := by
  intro H st vs ds R Q hs rs hf hq
  have fin : ∀ {es : List D} {us : List V}, Reps K H es us → R (.tup es) st → ∀ l, H l = none → Q (.ref l) (upd H l (.tup us)) := fun {es us} q h l hl => by
    have k2 : Keep K H st (upd H l (.tup us)) st := Keep.untold hl _
    exact hq _ _ _ _ k2 (hs.untold hl _) (Rep_tup.mpr ⟨l, us, rfl, .inl (.inl upd_same), q.keep k2⟩) h
  match ds, hf with
  | [.tup es], hf =>
    obtain ⟨v, t, rfl, r, r2⟩ := Reps_cons.mp rs
    obtain ⟨a, us, rfl, t, q⟩ := Rep_tup.mp r
    rw [Reps_nil.mp r2]
    exact ⟨a, us, rfl, .inr ⟨t, hq _ _ _ _ .refl hs (Rep_tup.mpr ⟨a, us, rfl, t, q⟩) hf⟩⟩
  | [.scr es], hf =>
    obtain ⟨v, t, rfl, r, r2⟩ := Reps_cons.mp rs
    obtain ⟨a, us, rfl, t, q⟩ := Rep_scr.mp r
    rw [Reps_nil.mp r2]
    exact ⟨a, us, rfl, .inl ⟨t.sq, fin q hf⟩⟩
  | [.ref a], hf =>
    obtain ⟨v, t, rfl, r, r2⟩ := Reps_cons.mp rs
    obtain ⟨es, e, h⟩ := getL_inv hf
    obtain ⟨us, e1, q⟩ := hs a _ e
    rw [Reps_nil.mp r2, Rep_ref.mp r]
    exact ⟨a, us, rfl, .inl ⟨SqL.of e1, fin q h⟩⟩
theorem j_tuple (hm : X.mg "tuple" = none) {p pos : Pos} {wa : WA} (ha : JA X W n [e] wa) (hg : Gl X "tuple" := by rfl) (he : starEach [e] X.env = (false, eval e X.env) :: starEach [] X.env := by rfl) : JE X W (.Call (.Name "tuple" p) [e] [] pos) (wCB tupleD wa) :=
  j_callTy call_tuple_of sim_tuple hm (by decide +kernel) ha hg (by decide) (by decide) he rfl
/-- math.gcd -/
def gcdD : FC := fun ds st R => match ds with
  | [.int a, .int b] => R (.int ((Nat.gcd a.natAbs b.natAbs : Nat) : Int)) st
  | _ => False
theorem sim_gcd : SimC K rGcd gcdD := by
  intro H st vs ds R Q hs rs hf hq
  match ds, hf with
  | [.int i, .int j], hf =>
    obtain ⟨v, t, rfl, r, r2⟩ := Reps_cons.mp rs
    obtain ⟨v2, t2, rfl, r3, r4⟩ := Reps_cons.mp r2
    rw [Reps_nil.mp r4, Rep_int.mp r, Rep_int.mp r3]
    exact ⟨i, j, rfl, hq _ _ _ _ .refl hs (Rep_int.mpr rfl) hf⟩
theorem j_gcd (hm : X.mg "gcd" = some (.builtin "math.gcd")) {p pos : Pos} {e2 : Expr} {wa : WA} (ha : JA X W n [e, e2] wa) (hg : Gl X "gcd" := by rfl) (he : starEach [e, e2] X.env = (false, eval e X.env) :: starEach [e2] X.env := by rfl) (hpl : (backTo pos (starEach [e2] X.env)).any (·.1) = false := by rfl) : JE X W (.Call (.Name "gcd" p) [e, e2] [] pos) (wCB gcdD wa) :=
  j_callF cr_gcd sim_gcd hm ha hg (by decide) he hpl
/-- the bools of a list -/
def boolsOf : List D → Option (List Bool)
  | [] => some []
  | .bl b :: r => (boolsOf r).map (b :: ·)
  | _ :: _ => none
theorem bools_rep {H : Hp} : ∀ {ds : List D} {vs : List V} {bs : List Bool}, boolsOf ds = some bs → Reps K H ds vs → vs = bs.map V.bl
  | [], _, _, e, r => by
    rw [Reps_nil.mp r]
    unfold boolsOf at e; cases e; rfl
  | d :: ds, _, bs, e, r => by
    obtain ⟨v, t, rfl, h1, h2⟩ := Reps_cons.mp r
    cases d with
    | bl b =>
      unfold boolsOf at e
      cases q : boolsOf ds with
      | none => rw [q] at e; cases e
      | some cs =>
        rw [q] at e
        cases e
        rw [Rep_bl.mp h1, bools_rep q h2]; rfl
    | _ => cases e
@[simp] theorem boolsOf_map : ∀ bs : List Bool, boolsOf (bs.map D.bl) = some bs
  | [] => rfl
  | b :: bs => by unfold List.map boolsOf; rw [boolsOf_map bs]; rfl
/-- all, any of a list of truth values -/
def allD : FC := fun ds st R => match ds with
  | [.ref a] => getL st a fun es => optP (boolsOf es) fun bs => R (.bl (bs.all fun b => b)) st
  | _ => False
def anyD : FC := fun ds st R => match ds with
  | [.ref a] => getL st a fun es => optP (boolsOf es) fun bs => R (.bl (bs.any fun b => b)) st
  | _ => False
theorem sim_all : SimC K (rAll K) allD := by
  intro H st vs ds R Q hs rs hf hq
  match ds, hf with
  | [.ref a], hf =>
    obtain ⟨v, t, rfl, r, r2⟩ := Reps_cons.mp rs
    obtain ⟨es, e, hf⟩ := getL_inv hf
    obtain ⟨bs, eb, h⟩ := optP_inv hf
    obtain ⟨us, e1, q⟩ := hs a _ e
    rw [Reps_nil.mp r2, Rep_ref.mp r]
    exact ⟨a, bs, rfl, SqL.of (by rw [← bools_rep eb q]; exact e1), hq _ _ _ _ .refl hs (Rep_bl.mpr rfl) h⟩
theorem sim_any : SimC K (rAny K) anyD := by
  intro H st vs ds R Q hs rs hf hq
  match ds, hf with
  | [.ref a], hf =>
    obtain ⟨v, t, rfl, r, r2⟩ := Reps_cons.mp rs
    obtain ⟨es, e, hf⟩ := getL_inv hf
    obtain ⟨bs, eb, h⟩ := optP_inv hf
    obtain ⟨us, e1, q⟩ := hs a _ e
    rw [Reps_nil.mp r2, Rep_ref.mp r]
    exact ⟨a, bs, rfl, SqL.of (by rw [← bools_rep eb q]; exact e1), hq _ _ _ _ .refl hs (Rep_bl.mpr rfl) h⟩
theorem j_all (hm : X.mg "all" = none) {p pos : Pos} {wa : WA} (ha : JA X W n [e] wa) (hc : X.calm = true := by rfl) (hg : Gl X "all" := by rfl) (he : starEach [e] X.env = (false, eval e X.env) :: starEach [] X.env := by rfl) : JE X W (.Call (.Name "all" p) [e] [] pos) (wCB allD wa) :=
  j_callB (cr_all hc) sim_all hm (by decide +kernel) ha hg (by decide) (by decide) he rfl
theorem j_any (hm : X.mg "any" = none) {p pos : Pos} {wa : WA} (ha : JA X W n [e] wa) (hc : X.calm = true := by rfl) (hg : Gl X "any" := by rfl) (he : starEach [e] X.env = (false, eval e X.env) :: starEach [] X.env := by rfl) : JE X W (.Call (.Name "any" p) [e] [] pos) (wCB anyD wa) :=
  j_callB (cr_any hc) sim_any hm (by decide +kernel) ha hg (by decide) (by decide) he rfl
def intsOf : List D → Option (List Int)
  | [] => some []
  | .int b :: r => (intsOf r).map (b :: ·)
  | _ :: _ => none
@[simp] theorem intsOf_map : ∀ bs : List Int, intsOf (bs.map D.int) = some bs
  | [] => rfl
  | b :: bs => by unfold List.map intsOf; rw [intsOf_map bs]; rfl
theorem intsOf_inv : ∀ {ds : List D} {ns : List Int}, intsOf ds = some ns → ds = ns.map D.int
  | [], _, e => by unfold intsOf at e; cases e; rfl
  | d :: ds, ns, e => by
    cases d with
    | int b =>
      unfold intsOf at e
      cases q : intsOf ds with
      | none => rw [q] at e; cases e
      | some cs =>
        rw [q] at e
        cases e
        rw [intsOf_inv q]; rfl
    | _ => cases e
/-- sum of a list of ints -/
def sumD : FC := fun ds st R => match ds with
  | [.ref a] => getL st a fun es => optP (intsOf es) fun ns => R (.int ns.sum) st
  | _ => False
theorem sim_sum : SimC K (rSum K) sumD := by
  intro H st vs ds R Q hs rs hf hq
  match ds, hf with
  | [.ref a], hf =>
    obtain ⟨v, t, rfl, r, r2⟩ := Reps_cons.mp rs
    obtain ⟨es, e, hf⟩ := getL_inv hf
    obtain ⟨ns, en, h⟩ := optP_inv hf
    rw [intsOf_inv en] at e
    obtain ⟨us, e1, q⟩ := hs a _ e
    rw [Reps_nil.mp r2, Rep_ref.mp r]
    exact ⟨a, ns, rfl, SqL.of (by rw [← Reps.ints.mp q]; exact e1), hq _ _ _ _ .refl hs (Rep_int.mpr rfl) h⟩
theorem j_sum (hm : X.mg "sum" = none) {p pos : Pos} {wa : WA} (ha : JA X W n [e] wa) (hc : X.calm = true := by rfl) (hg : Gl X "sum" := by rfl) (he : starEach [e] X.env = (false, eval e X.env) :: starEach [] X.env := by rfl) : JE X W (.Call (.Name "sum" p) [e] [] pos) (wCB sumD wa) :=
  j_callB (cr_sum hc) sim_sum hm (by decide +kernel) ha hg (by decide) (by decide) he rfl
end
end DL

namespace DL
open PySem PySem.Spec PyProof.Rows L2

/-! ### a def's promise over data -/
abbrev SpD := List D → DS → RD → RX → Prop
def spOf (K : PySem.W.Frag) (S : SpD) : Sp := fun vs H Q E => ∃ ds st R Rx, Reps K H ds vs ∧ RepS K H st ∧ S ds st R Rx ∧ OkQ K H st R Q ∧
  (∀ x cls dd H' st', Keep K H st H' st' → RepS K H' st' → RepX K H' x cls dd → Rx x st' → E cls dd H')
abbrev FnD (P : Program) (w : World) (K : PySem.W.Frag) (mg : Str → Option Value) (base : Heap) (k : Nat) (f : Addr) (fd : FuncData) (ps : List Str) (S : SpD) : Prop := FnOk P w K mg base (L2.CX P w) k f fd ps (spOf K S)
def wCall (S : SpD) (wa : WA) : WE := fun ep st R Rx => wa ep st (fun ds st' => S ds st' R Rx) Rx
section
variable {X : Cx} {W : WX} {S : SpD} {k n : Nat} {f : Addr} {fd : FuncData} {ps : List Str} {x : Str} {p pos : Pos} {e : Expr} {es : List Expr} {wa : WA}
theorem j_call (F : FnD X.prog X.w X.K X.mg X.base k f fd ps S) (hr : Room k X.A) (hm : X.mg x = some (.ref f)) (hk : PySem.W.keepIn X.K (.ref f) = true) (hb : Binds X.K fd ps []) (tk : Takes X W) (ha : JA X W n (e :: es) wa)
    (hg : Gl X x := by rfl) (hdb : (x == ("__debug__" : Str)) = false := by decide) (he : starEach (e :: es) X.env = (false, eval e X.env) :: starEach es X.env := by rfl) (hpl : (backTo pos (starEach es X.env)).any (·.1) = false := by rfl) :
    JE X W (.Call (.Name x p) (e :: es) [] pos) (wCall S wa) := by
  refine (pe_callS F hr hg hm hk hb (fun sg => passAt tk sg) ha hdb he hpl).weak ?_
  rintro sg H Q ⟨ep, st, R, Rx, he, hs, hw, hq, hx⟩
  exact ⟨ep, st, _, Rx, he, hs, hw, fun vs H1 ds st1 hl k s q h => ⟨ds, st1, R, Rx, q, s, h, hq.keep k, hx.keep k⟩, hx⟩
theorem j_call0 (F : FnD X.prog X.w X.K X.mg X.base k f fd ps S) (hr : Room k X.A) (hm : X.mg x = some (.ref f)) (hk : PySem.W.keepIn X.K (.ref f) = true) (hb : Binds X.K fd ps []) (tk : Takes X W)
    (hg : Gl X x := by rfl) (hdb : (x == ("__debug__" : Str)) = false := by decide) : JE X W (.Call (.Name x p) [] [] pos) (wCall S wANil) := by
  refine ⟨fun pins s sg H Q I h => ?_⟩
  obtain ⟨ep, st, R, Rx, he, hs, hw, hq, hx⟩ := h
  refine wpAny_Call_Name_kw (ld_glob I hg hm ?_ hdb)
  exact PySem.W.callWith_K0 I.kIn hk (run_fnS (us := []) (vs := []) (E := L2.WE W) F hr hb (passAt tk sg) I .nil ⟨[], st, R, Rx, Reps.nil, hs, hw, hq, hx⟩)
end
/-- the slots at the entry -/
def startD (n : Nat) (ds : List D) : DE := ds.map some ++ List.replicate (n - ds.length) none
theorem startD_rep {K : PySem.W.Frag} {H : Hp} {N : List Str} {ds : List D} {vs : List V} (r : Reps K H ds vs) : RepE K H (startD N.length ds) (L2.start N vs) := by
  unfold startD L2.start
  refine ⟨by simp only [List.length_append, List.length_map, List.length_replicate, r.length], fun i d h => ?_⟩
  by_cases hi : i < ds.length
  · rw [List.getElem?_append_left (by simpa using hi), List.getElem?_map] at h
    cases e : ds[i]? with
    | none => rw [e] at h; cases h
    | some d' =>
      rw [e] at h
      have : d' = d := by simpa using h
      subst this
      obtain ⟨v, e1, r1⟩ := r.get e
      refine ⟨v, ?_, r1⟩
      rw [List.getElem?_append_left (by rw [List.length_map, ← r.length]; exact hi), List.getElem?_map, e1]; rfl
  · rw [List.getElem?_append_right (by simpa using hi), List.getElem?_replicate] at h
    split at h <;> cases h
/-- what a def's body is to reach -/
def bodyEd (R : RD) (Rx : RX) : Ed := { nx := fun _ st' => ∃ s2, Sub s2 st' ∧ R .non s2, rt := fun d st' => ∃ s2, Sub s2 st' ∧ R d s2, ex := fun x _ st' => ∃ s2, Sub s2 st' ∧ Rx x s2 }
section
variable {P : Program} {w : World} {K : PySem.W.Frag} {mg : Str → Option Value} {base : Heap}
/-- THE RULE for a def -/
theorem fn_D {x qual : Str} {st0 : Stmt} {f : Addr} {fd : FuncData} {N ps : List Str} {k : Nat} {S : SpD} {wb : WS} (F : Fun K x qual st0 f fd) (Sc : FnScope N ps (defScope st0)) (len : ∀ ds st R Rx, S ds st R Rx → ds.length = ps.length)
    (hbody : ∀ (cdv : Value) (A : Around) (outer : List PySem.Env) (s : Shared) (H : Hp) (E : XK), Room k (A.deeper (envOfC qual (defScope st0) s.heap.objs.size f cdv)) →
      Takes (cxOf (L2.CX P w) P w K mg base N qual (defScope st0) f cdv A outer s H E) (fun cls d _ H' => E cls d H') →
      PassesOwn (model P w) (A.deeper (envOfC qual (defScope st0) s.heap.objs.size f cdv)) (envOfC qual (defScope st0) s.heap.objs.size f cdv) (cxOf (L2.CX P w) P w K mg base N qual (defScope st0) f cdv A outer s H E).xe →
      JSs (cxOf (L2.CX P w) P w K mg base N qual (defScope st0) f cdv A outer s H E) (fun cls d _ H' => E cls d H') (defBody st0) wb)
    (read : ∀ ds st R Rx, S ds st R Rx → wb (bodyEd R Rx) (startD N.length ds) st) : FnD P w K mg base (k + 1) f fd ps S := by
  refine F.okX Sc (fun vs H Q E h => ?_) (fun cdv A outer s H vs Q E hr h => ?_)
  · obtain ⟨ds, st, R, Rx, r, _, h, _⟩ := h
    rw [← r.length]; exact len _ _ _ _ h
  · obtain ⟨ds, st, R, Rx, r, hs, h, hq, hx⟩ := h
    refine ⟨_, hbody cdv A outer s H E hr (takes_of rfl rfl rfl rfl) (passes_of (X := cxOf (L2.CX P w) P w K mg base N qual (defScope st0) f cdv A outer s H E) rfl), startD N.length ds, st, bodyEd R Rx, startD_rep r, hs, read ds st R Rx h, ?_⟩
    refine ⟨fun sg' H' ep' st' k s _ h => ?_, fun v H' d st' k s r h => ?_, fun _ _ _ _ _ _ _ h => h.elim, fun _ _ _ _ _ _ _ h => h.elim, fun x cls dd sg' H' ep' st' k s _ rx h => ?_⟩
    · obtain ⟨s2, hsub, h⟩ := h
      exact hq _ H' _ s2 (k.sub hsub) (s.sub hsub) (Rep_non.mpr rfl) h
    · obtain ⟨s2, hsub, h⟩ := h
      exact hq _ H' _ s2 (k.sub hsub) (s.sub hsub) r h
    · obtain ⟨s2, hsub, h⟩ := h
      exact hx x cls dd H' s2 (k.sub hsub) (s.sub hsub) rx h
end

/-! ### statements -/
def wNext : WS := fun E ep st => E.nx ep st
def wSeq (a b : WS) : WS := fun E ep st => a { E with nx := fun ep' st' => b E ep' st' } ep st
def wRet (we : WE) : WS := fun E ep st => we ep st (fun d st' => E.rt d st') (fun x st' => E.ex x ep st')
def wRetN : WS := fun E _ st => E.rt .non st
def wDrop (we : WE) : WS := fun E ep st => we ep st (fun _ st' => E.nx ep st') (fun x st' => E.ex x ep st')
def wSet (i : Nat) (we : WE) : WS := fun E ep st => we ep st (fun d st' => E.nx (ep.set i (some d)) st') (fun x st' => E.ex x ep st')
def wIf (c : WT) (a b : WS) : WS := fun E ep st => c ep st (fun t st' => cnd t (fun _ => a E ep st') (fun _ => b E ep st')) (fun x st' => E.ex x ep st')
def wBrk : WS := fun E ep st => E.bk ep st
def wCnt : WS := fun E ep st => E.ct ep st
def wNever : WS := fun _ _ _ => False
section
variable {X : Cx} {W : WX} {st : Stmt} {sts : List Stmt} {w u : WS} {e : Expr} {we : WE} {pos : Pos}
theorem jss_nil : JSs X W [] wNext := by
  refine pss_nil.weak ?_
  rintro Dn sg H ⟨ep, st, E, he, hs, hw, ok⟩
  exact ok.nx sg H ep st .refl hs he hw
theorem jss_cons (h1 : JS X W st w) (h2 : JSs X W sts u) : JSs X W (st :: sts) (wSeq w u) := by
  refine (pss_cons h1 h2).weak ?_
  rintro Dn sg H ⟨ep, st, E, he, hs, hw, ok⟩
  refine ⟨ep, st, _, he, hs, hw, ⟨fun sg' H' ep' st' k s e h => ?_, ok.rt, ok.bk, ok.ct, ok.ex⟩⟩
  exact ⟨ep', st', E, e, s, h, ok.keep k⟩
theorem jss_one (h : JS X W st w) : JSs X W [st] w := pss_one h
theorem js_pass : JS X W (.Pass pos) wNext := by
  refine ps_pass.weak ?_
  rintro Dn sg H ⟨ep, st, E, he, hs, hw, ok⟩
  exact ok.nx sg H ep st .refl hs he hw
theorem js_break : JS X W (.Break pos) wBrk := by
  refine ps_break.weak ?_
  rintro Dn sg H ⟨ep, st, E, he, hs, hw, ok⟩
  exact ok.bk sg H ep st .refl hs he hw
theorem js_continue : JS X W (.Continue pos) wCnt := by
  refine ps_continue.weak ?_
  rintro Dn sg H ⟨ep, st, E, he, hs, hw, ok⟩
  exact ok.ct sg H ep st .refl hs he hw
theorem js_never : JS X W st wNever := ps_never.weak fun _ _ _ ⟨_, _, _, _, _, h, _⟩ => h.elim
theorem jss_never : JSs X W sts wNever := pss_never.weak fun _ _ _ ⟨_, _, _, _, _, h, _⟩ => h.elim
theorem js_expr (h : JE X W e we) (hs : swapsWith e none pos.line X.env = pure false := by rfl) : JS X W (.Expr e pos) (wDrop we) := by
  refine (ps_expr h hs).weak ?_
  rintro Dn sg H ⟨ep, st, E, he, hs, hw, ok⟩
  exact ⟨ep, st, _, _, he, hs, hw, fun v H' d st' k s r h => ok.nx sg H' ep st' k s (he.keep k) h, ok.okX he⟩
theorem js_ret (h : JE X W e we) : JS X W (.Return (some e) pos) (wRet we) := by
  refine (ps_ret h).weak ?_
  rintro Dn sg H ⟨ep, st, E, he, hs, hw, ok⟩
  exact ⟨ep, st, _, _, he, hs, hw, fun v H' d st' k s r h => ok.rt v H' d st' k s r h, ok.okX he⟩
theorem js_retN : JS X W (.Return none pos) wRetN := by
  refine ps_retN.weak ?_
  rintro Dn sg H ⟨ep, st, E, he, hs, hw, ok⟩
  exact ok.rt _ H _ st .refl hs (Rep_non.mpr rfl) hw
theorem js_set {i : Nat} {x : Str} {pos' : Pos} (hN : X.N.Nodup) (h : JE X W e we) (hi : X.N[i]? = some x := by rfl) (hx : Loc X.env.scope x := by first | exact Or.inl rfl | exact Or.inr rfl) (hs : swapsWith e (some (.Name x pos')) pos.line X.env = pure false := by rfl)
    (hf : X.fn x = true ∨ X.env.scope.names.lookup x = some .local := by first | exact .inl rfl | exact .inr rfl) : JS X W (.Assign [.Name x pos'] e pos) (wSet i we) := by
  refine (ps_set hN hi hx h hs hf).weak ?_
  rintro Dn sg H ⟨ep, st, E, he, hs, hw, ok⟩
  exact ⟨ep, st, _, _, he, hs, hw, fun v H' d st' k s r h => ok.nx _ H' _ st' k s ((he.keep k).set r i) h, ok.okX he⟩
theorem js_if {c : Expr} {a b : List Stmt} {wc : WT} (hc : JT X W c wc) (ha : JSs X W a w) (hb : JSs X W b u) : JS X W (.If c a b pos) (wIf wc w u) := by
  refine (ps_if hc ha hb).weak ?_
  rintro Dn sg H ⟨ep, st, E, he, hs, hw, ok⟩
  refine ⟨ep, st, _, _, he, hs, hw, fun t H' st' k s h => ?_, ok.okX he⟩
  cases t with
  | true => exact ⟨ep, st', E, he.keep k, s, h.1 rfl, ok.keep k⟩
  | false => exact ⟨ep, st', E, he.keep k, s, h.2 rfl, ok.keep k⟩
end

/-! ### targets -/
abbrev DG := D → DE → DS → (DE → DS → Prop) → Prop
def twG (K : PySem.W.Frag) (g : DG) : TG := fun v sg H Q => ∃ d ep st k, Rep K H d v ∧ RepE K H ep sg ∧ RepS K H st ∧ g d ep st k ∧ (∀ sg' H' ep' st', Keep K H st H' st' → RepS K H' st' → RepE K H' ep' sg' → k ep' st' → Q sg' H')
abbrev DGs := List D → DE → DS → (DE → DS → Prop) → Prop
def twGs (K : PySem.W.Frag) (g : DGs) : TGs := fun vs sg H Q => ∃ ds ep st k, Reps K H ds vs ∧ RepE K H ep sg ∧ RepS K H st ∧ g ds ep st k ∧ (∀ sg' H' ep' st', Keep K H st H' st' → RepS K H' st' → RepE K H' ep' sg' → k ep' st' → Q sg' H')
abbrev JG (X : Cx) (e : Expr) (g : DG) : Prop := PG X e (twG X.K g)
abbrev JGs (X : Cx) (e : List Expr) (g : DGs) : Prop := PGs X e (twGs X.K g)
def gN (i : Nat) : DG := fun d ep st k => k (ep.set i (some d)) st
def gsNil : DGs := fun ds ep st k => match ds with
  | [] => k ep st
  | _ :: _ => False
def gsCons (g : DG) (u : DGs) : DGs := fun ds ep st k => match ds with
  | [] => False
  | d :: r => g d ep st (fun ep' st' => u r ep' st' k)
/-- a tuple or a list taken apart -/
def gT (n : Nat) (u : DGs) : DG := fun d ep st k => match d with
  | .tup ds => ds.length = n ∧ u ds ep st k
  | .key ks => ks.length = n ∧ u (ks.map kD) ep st k
  | _ => False
def gIx (f : D → D → D → DS → (DS → Prop) → Prop) (wo wi : WE) : DG := fun d ep st k => wo ep st (fun o st1 => wi ep st1 (fun i st2 => f o i d st2 (fun st3 => k ep st3)) (fun _ _ => False)) (fun _ _ => False)
theorem _root_.L2.PG.weak {X : Cx} {e : Expr} {t t' : TG} (h : PG X e t) (f : ∀ v sg H Q, t' v sg H Q → t v sg H Q) : PG X e t' := ⟨fun pins s sg H v u Q I r hw => h.run pins s sg H v u Q I r (f v sg H Q hw)⟩
theorem _root_.L2.PGs.weak {X : Cx} {e : List Expr} {t t' : TGs} (h : PGs X e t) (f : ∀ v sg H Q, t' v sg H Q → t v sg H Q) : PGs X e t' := ⟨fun pins s sg H v u Q I r hw => h.run pins s sg H v u Q I r (f v sg H Q hw)⟩
section
variable {X : Cx} {W : WX} {e : Expr} {es : List Expr} {g : DG} {u : DGs} {pos : Pos}
theorem jg_name {i : Nat} {x : Str} (hN : X.N.Nodup) (hi : X.N[i]? = some x := by rfl) (hx : Loc X.env.scope x := by first | exact Or.inl rfl | exact Or.inr rfl) (hf : X.fn x = true ∨ X.env.scope.names.lookup x = some .local := by first | exact .inl rfl | exact .inr rfl) : JG X (.Name x pos) (gN i) := by
  refine (pg_name hN hi hx hf).weak ?_
  rintro v sg H Q ⟨d, ep, st, k, r, he, hs, hw, hq⟩
  exact hq _ H _ st .refl hs (he.set r i) hw
theorem jgs_nil : JGs X [] gsNil := by
  refine pgs_nil.weak ?_
  rintro vs sg H Q ⟨ds, ep, st, k, r, he, hs, hw, hq⟩
  cases ds with
  | nil => exact ⟨Reps_nil.mp r, hq _ H _ st .refl hs he hw⟩
  | cons d ds => exact hw.elim
theorem jgs_cons (h1 : JG X e g) (h2 : JGs X es u) (hs : (assignEach (e :: es) X.env).map (·.2) = assign e X.env :: (assignEach es X.env).map (·.2) := by rfl) : JGs X (e :: es) (gsCons g u) := by
  refine (pgs_cons h1 h2 hs).weak ?_
  rintro vs sg H Q ⟨ds, ep, st, k, r, he, hs, hw, hq⟩
  cases ds with
  | nil => exact hw.elim
  | cons d ds =>
    obtain ⟨v, t, rfl, r1, r2⟩ := Reps_cons.mp r
    refine ⟨v, t, rfl, d, ep, st, _, r1, he, hs, hw, fun sg' H' ep' st' k1 s1 e1 h => ?_⟩
    exact ⟨ds, ep', st', k, r2.keep k1, e1, s1, h, fun sg2 H2 ep2 st2 k2 => hq sg2 H2 ep2 st2 (k1.trans k2)⟩
theorem jg_tup {k n : Nat} (h : JGs X es u) (hc : X.calm = true := by rfl) (hn : (assignEach es X.env).length = n := by rfl) (hst : (assignEach es X.env).findIdx? (·.1) = none := by rfl) : JG X (.Tuple es k pos) (gT n u) := by
  refine (pg_tup hc h hn hst).weak ?_
  rintro v sg H Q ⟨d, ep, st, k, r, he, hs, hw, hq⟩
  cases d with
  | tup ds =>
    obtain ⟨a, vs, rfl, t, q⟩ := Rep_tup.mp r
    exact ⟨a, vs, rfl, t, by rw [← q.length]; exact hw.1, ds, ep, st, k, q, he, hs, hw.2, hq⟩
  | key ks =>
    obtain ⟨a, rfl, t⟩ := Rep_key.mp r
    exact ⟨a, _, rfl, .inl (.inl t), by rw [List.length_map]; exact hw.1, ks.map kD, ep, st, k, reps_kD.mpr rfl, he, hs, hw.2, hq⟩
  | _ => exact hw.elim
/-- o[i] = .. of a list -/
def setD (o i d : D) (st : DS) (k : DS → Prop) : Prop := match o, i with
  | .ref a, .int z => getL st a fun ds => optP (ixN ds.length z) fun j => k (put st a (.lst (ds.set j d)))
  | _, _ => False
theorem takes_no {X : Cx} : Takes X (fun _ _ _ _ => False) := takes_none5
theorem setD_ok {K : PySem.W.Frag} {H : Hp} {st : DS} {o i v : V} {dO dI d : D} {k : DS → Prop} {Q : Hp → Prop} (hs : RepS K H st) (ro : Rep K H dO o) (ri : Rep K H dI i) (r : Rep K H d v) (h : setD dO dI d st k)
    (hq : ∀ H' st', Keep K H st H' st' → RepS K H' st' → k st' → Q H') : rSetL o i v H Q := by
  cases dO with
  | ref a =>
    cases dI with
    | int z =>
      obtain ⟨ds, e, h⟩ := getL_inv h
      obtain ⟨j, hj, hk⟩ := optP_inv h
      obtain ⟨vs, e1, q⟩ := hs a _ e
      refine ⟨a, vs, z, j, Rep_ref.mp ro, Rep_int.mp ri, e1, by rw [← q.length]; exact hj, ?_⟩
      have k2 := hs.keepW e (HO.lst (vs.set j v)) (OB.lst (ds.set j d))
      exact hq _ _ k2 (hs.write e ⟨_, upd_same, (q.keep k2).set (r.keep k2) j⟩) hk
    | _ => exact h.elim
  | _ => exact h.elim
theorem jg_ix {o i : Expr} {wo wi : WE} (ho : JE X (fun _ _ _ _ => False) o wo) (hi : JE X (fun _ _ _ _ => False) i wi)
    (ha : ∀ v, assign (.Subscript o i pos) X.env v = (do
      let ov ← holding [v] (eval o X.env)
      let iv ← holding [v, ov] (eval i X.env)
      standAt pos
      holding [v, ov, iv] (setItem ov iv v)
      release [v, ov, iv] []) := by intro _; rfl) : JG X (.Subscript o i pos) (gIx setD wo wi) := by
  refine (pg_sub ho hi set_list ha).weak ?_
  rintro v sg H Q ⟨d, ep, st, k, r, he, hs, hw, hq⟩
  refine ⟨ep, st, _, _, he, hs, hw, fun x H1 d1 st1 k1 s1 r1 h1 => ?_, fun _ _ _ _ _ _ _ _ z => z.elim⟩
  refine ⟨ep, st1, _, _, he.keep k1, s1, h1, fun y H2 d2 st2 k2 s2 r2 h2 => ?_, fun _ _ _ _ _ _ _ _ z => z.elim⟩
  exact setD_ok s2 (r1.keep k2) r2 ((r.keep k1).keep k2) h2 fun H3 st3 k3 s3 h3 => hq sg H3 ep st3 ((k1.trans k2).trans k3) s3 (((he.keep k1).keep k2).keep k3) h3
/-- target = value -/
def wAsg (we : WE) (g : DG) : WS := fun E ep st => we ep st (fun d st' => g d ep st' E.nx) (fun x st' => E.ex x ep st')
theorem js_asg {tg : Expr} {we : WE} (h : JE X W e we) (hg : JG X tg g) (hs : swapsWithSole [tg] e pos.line X.env = pure false := by rfl) (hw : swappedStores [tg] e X.env = pure none := by rfl)
    (h1 : (assignEach [tg] X.env).map (·.2) = [assign tg X.env] := by rfl) : JS X W (.Assign [tg] e pos) (wAsg we g) := by
  refine (ps_asg h hg hs hw h1).weak ?_
  rintro Dn sg H ⟨ep, st, E, he, hs, hw, ok⟩
  refine ⟨ep, st, _, _, he, hs, hw, fun v H' d st' k s r h => ?_, ok.okX he⟩
  exact ⟨d, ep, st', E.nx, r, he.keep k, s, h, fun sg2 H2 ep2 st2 k2 s2 e2 h2 => ok.nx sg2 H2 ep2 st2 (k.trans k2) s2 e2 h2⟩
/-- a, b = x, y of plain local names -/
def wPar (i j : Nat) (wa wb : WE) : WS := fun E ep st => wa ep st (fun x st1 => wb ep st1 (fun y st2 => E.nx ((ep.set i (some x)).set j (some y)) st2) (fun x st' => E.ex x ep st')) (fun x st' => E.ex x ep st')
theorem js_par {i j : Nat} {x y : Str} {a b : Expr} {wa wb : WE} {px py pt : Pos} {kt k2 pt2} (hN : X.N.Nodup) (ha : JE X W a wa) (hb : JE X W b wb) (hc : X.calm = true := by rfl) (hi : X.N[i]? = some x := by rfl) (hj : X.N[j]? = some y := by rfl) (hij : i ≠ j := by decide)
    (hx : X.env.scope.names.lookup x = some .local := by rfl) (hy : X.env.scope.names.lookup y = some .local := by rfl) (hs1 : starEach [a, b] X.env = (false, eval a X.env) :: starEach [b] X.env := by rfl) (hs2 : starEach [b] X.env = (false, eval b X.env) :: starEach [] X.env := by rfl)
    (hw : swappedStores [.Tuple [.Name x px, .Name y py] kt pt] (.Tuple [a, b] k2 pt2) X.env = pure (some [x, y]) := by rfl)
    (hs : swapsWithSole [.Tuple [.Name x px, .Name y py] kt pt] (.Tuple [a, b] k2 pt2) pos.line X.env = pure false := by rfl) :
    JS X W (.Assign [.Tuple [.Name x px, .Name y py] kt pt] (.Tuple [a, b] k2 pt2) pos) (wPar i j wa wb) := by
  refine (ps_par hc hN hi hj hij hx hy (pa_cons ha (pa_cons hb pa_nil hs2) hs1) hw hs).weak ?_
  rintro Dn sg H ⟨ep, st, E, he, hs, hw, ok⟩
  refine ⟨ep, st, _, _, he, hs, hw, fun v H1 d st1 k s r h => ?_, ok.okX he⟩
  refine ⟨ep, st1, _, _, he.keep k, s, h, fun v2 H2 d2 st2 k2 s2 r2 h2 => ?_, (ok.okX he).keep k⟩
  exact ⟨v, v2, rfl, ok.nx _ H2 _ st2 (k.trans k2) s2 ((((he.keep k).keep k2).set (r.keep k2) i).set r2 j) h2⟩
end

/-! ### in-place -/
def wAug (i : Nat) (f : F2) (we : WE) : WS := fun E ep st => match lk ep i with
  | some x => we ep st (fun y st1 => f x y st1 (fun z st2 => E.nx (ep.set i (some z)) st2)) (fun x st' => E.ex x ep st')
  | none => False
theorem js_aug {X : Cx} {W : WX} {i : Nat} {x : Str} {e : Expr} {we : WE} {op : Operator} {r : R2} {f : F2} {pos pos' : Pos} (hN : X.N.Nodup) (ho : OpR X (inplaceOp op) r) (hf : Sim2 X.K r f) (h : JE X W e we) (hi : X.N[i]? = some x := by rfl) (hx : Loc X.env.scope x := by first | exact Or.inl rfl | exact Or.inr rfl)
    (hfn : X.fn x = true ∨ X.env.scope.names.lookup x = some .local := by first | exact .inl rfl | exact .inr rfl) : JS X W (.AugAssign (.Name x pos') op e pos) (wAug i f we) := by
  refine (ps_aug hN hi hx h ho hfn).weak ?_
  rintro Dn sg H ⟨ep, st, E, he, hs, hw, ok⟩
  unfold wAug at hw
  cases q : lk ep i with
  | none => rw [q] at hw; exact hw.elim
  | some d =>
    rw [q] at hw
    obtain ⟨v, e1, r1⟩ := he.2 i d (lk_some q)
    refine ⟨v, e1, ep, st, _, _, he, hs, hw, fun y H1 dy st1 k1 s1 r2 h1 => ?_, ok.okX he⟩
    exact hf H1 st1 v y d dy _ _ s1 (r1.keep k1) r2 h1 fun z H2 dz st2 k2 s2 r3 h2 => ok.nx _ H2 _ st2 (k1.trans k2) s2 (((he.keep k1).keep k2).set r3 i) h2
theorem get_list {X : Cx} : PGet X (fun x y H Q => ∃ p xs i v, x = .ref p ∧ y = .int i ∧ SqL X.K H p xs ∧ 0 ≤ i ∧ atI xs i = some v ∧ Q v H) := by
  intro pins s sg H x y v u Q I rx ry h
  obtain ⟨p, xs, i, z, rfl, rfl, hq, h0, he, q⟩ := h
  cases rx
  obtain ⟨t, rfl⟩ := ry
  obtain ⟨its, r, pl, hz⟩ := I.list hq
  obtain ⟨j, h1, h2, h3, h4, h5⟩ := atI_get he
  obtain ⟨w, ew, rw'⟩ := r.get h2
  have hl := r.length
  have hn := line63
  have hj : i.toNat = j := by
    rw [seqIndex_of h0 h5] at h1
    exact Option.some.inj h1
  exact wpAny_getItem_list pl.isList h0 (by omega) (by rw [hj]; simpa using ew) ⟨z, H, I, rw', q⟩
/-- o[i] op= e of a list -/
def asRI (o i : D) (k : Addr → Int → Prop) : Prop := match o, i with
  | .ref a, .int z => k a z
  | _, _ => False
def wAugIx (f : F2) (wo wi we : WE) : WS := fun E ep st => wo ep st (fun o st1 => wi ep st1 (fun i st2 => asRI o i fun a z => 0 ≤ z ∧ getL st2 a fun ds => optP (atI ds z) fun x => we ep st2 (fun y st3 => f x y st3 (fun v st4 => setD (.ref a) (.int z) v st4 (fun st5 => E.nx ep st5))) (fun x st' => E.ex x ep st')) (fun x st' => E.ex x ep st')) (fun x st' => E.ex x ep st')
theorem js_augix {X : Cx} {W : WX} {o i e : Expr} {wo wi we : WE} {op : Operator} {r : R2} {f : F2} {pos tpos : Pos} (ho : JE X W o wo) (hi : JE X W i wi) (hop : OpR X (inplaceOp op) r) (hf : Sim2 X.K r f) (h : JE X W e we)
    (ha : ∀ ov iv new, augStore i ov iv new = (do holding [new, ov, iv] (setItem ov iv new); release [new, ov, iv] []; pure .next) := by intros; rfl) : JS X W (.AugAssign (.Subscript o i tpos) op e pos) (wAugIx f wo wi we) := by
  refine (ps_augS ho hi get_list h hop set_list ha).weak ?_
  rintro Dn sg H ⟨ep, st, E, he, hs, hw, ok⟩
  refine ⟨ep, st, _, _, he, hs, hw, fun x H1 d1 st1 k1 s1 r1 h1 => ?_, ok.okX he⟩
  refine ⟨ep, st1, _, _, he.keep k1, s1, h1, fun y H2 d2 st2 k2 s2 r2 h2 => ?_, (ok.okX he).keep k1⟩
  cases d1 with
  | ref a =>
    cases d2 with
    | int z =>
      obtain ⟨h0, h2⟩ := h2
      obtain ⟨ds, e1, h2⟩ := getL_inv h2
      obtain ⟨dx, hz, h3⟩ := optP_inv h2
      obtain ⟨vs, ev, q⟩ := s2 a _ e1
      obtain ⟨vx, hvx, rx⟩ := atI_rep q hz
      refine ⟨a, vs, z, vx, Rep_ref.mp (r1.keep k2), Rep_int.mp r2, SqL.of ev, h0, hvx, ?_⟩
      have k12 := k1.trans k2
      refine ⟨ep, st2, _, _, he.keep k12, s2, h3, fun vy H3 dy st3 k3 s3 r3 h4 => ?_, (ok.okX he).keep k12⟩
      refine hf H3 st3 vx vy dx dy _ _ s3 (rx.keep k3) r3 h4 fun vz H4 dz st4 k4 s4 r4 h5 => ?_
      refine setD_ok s4 ((r1.keep k2).keep (k3.trans k4)) (r2.keep (k3.trans k4)) r4 h5 fun H5 st5 k5 s5 h6 => ?_
      have kk := ((k12.trans k3).trans k4).trans k5
      exact ok.nx sg H5 ep st5 kk s5 (he.keep kk) h6
    | _ => exact h2.elim
  | _ => exact h2.elim
def iaddD : F2 := fun x y st R => match x, y with
  | .int i, .int j => R (.int (i + j)) st
  | .str a, .str b => a.length + b.length ≤ sizeLine ∧ R (.str (a ++ b)) st
  | _, _ => False
theorem iop_addA {X : Cx} : OpR X (inplaceOp .Add) (fun x y H Q => rI0 (fun i j => .int (i + j)) x y H Q ∨ rStrAdd x y H Q) := OpR_or iop_add iop_add_str
theorem sim_iadd {K : PySem.W.Frag} : Sim2 K (fun x y H Q => rI0 (fun i j => .int (i + j)) x y H Q ∨ rStrAdd x y H Q) iaddD := by
  intro H st x y dx dy R Q hs rx ry hf hq
  cases dx with
  | int i =>
    cases dy with
    | int j => exact .inl ⟨i, j, Rep_int.mp rx, Rep_int.mp ry, hq _ _ _ _ .refl hs (Rep_int.mpr rfl) hf⟩
    | _ => exact hf.elim
  | str i =>
    cases dy with
    | str j => exact .inr ⟨i, j, Rep_str.mp rx, Rep_str.mp ry, hf.1, hq _ _ _ _ .refl hs (Rep_str.mpr rfl) hf.2⟩
    | _ => exact hf.elim
  | _ => exact hf.elim
theorem sim_isub {K : PySem.W.Frag} : Sim2 K (rI0 fun i j => .int (i - j)) subD := sim_sub

/-! ### while -/
def wWhile (c : WT) (b : WS) : WS := fun E ep st => ∃ I : Nat → DE → DS → Prop, (∃ m, I m ep st) ∧ ∀ m ep st, I m ep st →
  c ep st (fun t st' => cnd t (fun _ => b { E with nx := fun ep' st'' => ∃ m', m' < m ∧ I m' ep' st'', ct := fun ep' st'' => ∃ m', m' < m ∧ I m' ep' st'', bk := E.nx } ep st') (fun _ => E.nx ep st')) (fun x st' => E.ex x ep st')
theorem js_while {X : Cx} {W : WX} {c : Expr} {body : List Stmt} {wc : WT} {wb : WS} {pos : Pos} (hp : PassesOwn (model X.prog X.w) X.A X.env X.xe) (hc : JT X W c wc) (hb : JSs X W body wb) : JS X W (.While c body [] pos) (wWhile wc wb) := by
  refine (ps_while hp hc hb).weak ?_
  rintro Dn sg H ⟨ep, st, E, he, hs, ⟨I, ⟨m0, i0⟩, turn⟩, ok⟩
  refine ⟨fun m sg' H' => ∃ ep' st', RepE X.K H' ep' sg' ∧ RepS X.K H' st' ∧ I m ep' st' ∧ OkS X.K W H' st' E Dn, ⟨m0, ep, st, he, hs, i0, ok⟩, ?_⟩
  rintro m sg1 H1 ⟨ep1, st1, e1, s1, i1, ok1⟩
  refine ⟨ep1, st1, _, _, e1, s1, turn m ep1 st1 i1, fun t H2 st2 k2 s2 h2 => ?_, ok1.okX e1⟩
  cases t with
  | true =>
    refine ⟨fun sg' H' => ∃ m', m' < m ∧ ∃ ep' st', RepE X.K H' ep' sg' ∧ RepS X.K H' st' ∧ I m' ep' st' ∧ OkS X.K W H' st' E Dn, fun sg' H' ⟨m', hm, z⟩ => ⟨m', hm, z⟩, ?_⟩
    refine ⟨ep1, st2, _, e1.keep k2, s2, h2.1 rfl, ?_⟩
    have ok2 := ok1.keep k2
    refine ⟨fun sg' H' ep' st' k s e h => ?_, ok2.rt, ok2.nx, fun sg' H' ep' st' k s e h => ?_, ok2.ex⟩
    · obtain ⟨m', hm, i'⟩ := h
      exact ⟨m', hm, ep', st', e, s, i', ok2.keep k⟩
    · obtain ⟨m', hm, i'⟩ := h
      exact ⟨m', hm, ep', st', e, s, i', ok2.keep k⟩
  | false => exact ok1.nx sg1 H2 ep1 st2 k2 s2 (e1.keep k2) (h2.2 rfl)

/-! ### for -/
/-- what a walk gives: items, while the guard stands -/
structure ItD (K : PySem.W.Frag) (H0 : Hp) (st0 : DS) (J : It) (items : List D) (G : DS → Prop) : Prop where
  goes : ∀ i H st, i < items.length → Keep K H0 st0 H st → RepS K H st → G st → J.go i H
  stops : ∀ H st, Keep K H0 st0 H st → RepS K H st → G st → J.stop items.length H
  yields : ∀ i H st x H' d, items[i]? = some d → Keep K H0 st0 H st → RepS K H st → G st → J.yld i H x H' → Keep K H st H' st ∧ RepS K H' st ∧ Rep K H' d x
abbrev WI := DE → DS → (List D → (DS → Prop) → DS → Prop) → RX → Prop
def twI (K : PySem.W.Frag) (W : WX) (w : WI) : TI := fun sg H R => ∃ ep st RR Rx, RepE K H ep sg ∧ RepS K H st ∧ w ep st RR Rx ∧ (∀ H' st' items G J, Keep K H st H' st' → RepS K H' st' → ItD K H' st' J items G → RR items G st' → R J H') ∧ OkX K W sg H st Rx
abbrev JI (X : Cx) (W : WX) (tg e : Expr) (w : WI) : Prop := PI X tg e (twI X.K W w)
theorem _root_.L2.PI.weak {X : Cx} {tg e : Expr} {t t' : TI} (h : PI X tg e t) (f : ∀ sg H R, t' sg H R → t sg H R) : PI X tg e t' := ⟨fun pins s sg H R I hw => h.run pins s sg H R I (f sg H R hw)⟩
def forL (g : DG) (b : WS) (G : DS → Prop) (E : Ed) : List D → DE → DS → Prop
  | [], ep, st => G st ∧ E.nx ep st
  | d :: r, ep, st => G st ∧ g d ep st (fun ep' st' => b { E with nx := forL g b G E r, ct := forL g b G E r, bk := E.nx } ep' st')
def wFor (wi : WI) (g : DG) (b : WS) : WS := fun E ep st => wi ep st (fun items G st' => forL g b G E items ep st') (fun x st' => E.ex x ep st')
theorem js_for {X : Cx} {W : WX} {tg iter : Expr} {body : List Stmt} {wi : WI} {g : DG} {wb : WS} {pos : Pos} (hp : PassesOwn (model X.prog X.w) X.A X.env X.xe) (hi : JI X W tg iter wi) (hg : JG X tg g) (hb : JSs X W body wb) (hc : X.calm = true := by rfl)
    (hs : ∀ x, foldedSetIterable iter X.env x = pure x := by intro _; rfl) : JS X W (.For tg iter body [] pos) (wFor wi g wb) := by
  refine (ps_for hp hc hi hg hb hs).weak ?_
  rintro Dn sg H ⟨ep, st, E, he, hs, hw, ok⟩
  refine ⟨ep, st, _, _, he, hs, hw, fun H1 st1 items G J k1 s1 it hf => ?_, ok.okX he⟩
  refine ⟨fun i m sg' H' => m = items.length - i ∧ i ≤ items.length ∧ ∃ ep' st', RepE X.K H' ep' sg' ∧ RepS X.K H' st' ∧ Keep X.K H1 st1 H' st' ∧ OkS X.K W H' st' E Dn ∧ forL g wb G E (items.drop i) ep' st', ?_, ?_⟩
  · exact ⟨items.length, by simp, Nat.zero_le _, ep, st1, he.keep k1, s1, .refl, ok.keep k1, by rw [List.drop_zero]; exact hf⟩
  · rintro i m sg2 H2 ⟨rfl, hi, ep2, st2, e2, s2, k2, ok2, hf2⟩
    by_cases hlt : i < items.length
    · rw [List.drop_eq_getElem_cons hlt] at hf2
      obtain ⟨gg, hf3⟩ := hf2
      refine .inr ⟨it.goes i H2 st2 hlt k2 s2 gg, fun sg' H' => (i + 1 ≤ items.length) ∧ ∃ ep' st', RepE X.K H' ep' sg' ∧ RepS X.K H' st' ∧ Keep X.K H1 st1 H' st' ∧ OkS X.K W H' st' E Dn ∧ forL g wb G E (items.drop (i + 1)) ep' st', fun sg' H' ⟨hl, z⟩ => ⟨items.length - (i + 1), by omega, rfl, hl, z⟩, fun x H' y => ?_⟩
      obtain ⟨k3, s3, r3⟩ := it.yields i H2 st2 x H' items[i] (List.getElem?_eq_getElem hlt) k2 s2 gg y
      have ok3 := ok2.keep k3
      refine ⟨items[i], ep2, st2, _, r3, e2.keep k3, s3, hf3, fun sg4 H4 ep4 st4 k4 s4 e4 h4 => ?_⟩
      have ok4 := ok3.keep k4
      refine ⟨ep4, st4, _, e4, s4, h4, ⟨fun sg' H' ep' st' k s e h => ⟨hlt, ep', st', e, s, ((k2.trans k3).trans k4).trans k, ok4.keep k, h⟩, ok4.rt, ok4.nx, fun sg' H' ep' st' k s e h => ⟨hlt, ep', st', e, s, ((k2.trans k3).trans k4).trans k, ok4.keep k, h⟩, ok4.ex⟩⟩
    · have e : i = items.length := by omega
      subst e
      rw [List.drop_length] at hf2
      exact .inl ⟨it.stops H2 st2 k2 s2 hf2.1, ok2.nx sg2 H2 ep2 st2 .refl s2 e2 hf2.2⟩
/-- over a list, a tuple, the script -/
def itemsD (d : D) (st : DS) (RR : List D → (DS → Prop) → DS → Prop) : Prop := match d with
  | .ref a => getL st a fun ds => RR ds (fun s => s a = some (.lst ds)) st
  | .tup ds => RR ds (fun _ => True) st
  | .scr ds => RR ds (fun _ => True) st
  | _ => False
def wIt (we : WE) : WI := fun ep st RR Rx => we ep st (fun d st' => itemsD d st' RR) Rx
theorem PI_seq {X : Cx} {tg l : Expr} {tl : TE} (hl : PE X l tl) : PI X tg l (fun sg H R => tl sg H fun x H1 => ∃ a, x = .ref a ∧ (((∃ xs, SqL X.K H1 a xs) ∧ R (Itl X.K a) H1) ∨ ((∃ xs, SqT X.K H1 a xs) ∧ R (Itt X.K a) H1))) := by
  refine ⟨fun pins s sg H R I h => ?_⟩
  refine thn (hl.run pins s sg H _ I h) fun v s1 ⟨x, H1, I1, r1, q1⟩ => ?_
  obtain ⟨a, e, q⟩ := q1
  subst e
  cases r1
  rcases q with ⟨⟨xs, hq⟩, q⟩ | ⟨⟨xs, hq⟩, q⟩
  · obtain ⟨its, rv, p, hz⟩ := I1.list hq
    refine wpAny_pyIter_list p.isList ?_
    refine ⟨s1.heap.objs.size, [s1.heap.objs.size], _, _, H1, rfl, I1.kept (t' := s1.toks) fun b o e => Heap.get?_push_of_some _ e, turn_list a _, ⟨_, Heap.get?_push_size _ rfl, rfl, rfl⟩, fun b hb => ?_, q⟩
    have e : b = s1.heap.objs.size := by simpa using hb
    subst e
    exact I1.fpOk (Nat.le_refl _) (I1.hok.fresh (Nat.le_refl _))
  · obtain ⟨its, rv, p, hz⟩ := I1.tuple hq
    refine wpAny_pyIter_tuple (show s1.heap.IsTuple a its.toArray from p) ?_
    refine ⟨s1.heap.objs.size, [s1.heap.objs.size], _, _, H1, rfl, I1.kept (t' := s1.toks) fun b o e => Heap.get?_push_of_some _ e, turn_tuple a _, ⟨_, Heap.get?_push_size _ rfl, rfl, rfl⟩, fun b hb => ?_, q⟩
    have e : b = s1.heap.objs.size := by simpa using hb
    subst e
    exact I1.fpOk (Nat.le_refl _) (I1.hok.fresh (Nat.le_refl _))
theorem itd_list {K : PySem.W.Frag} {H0 : Hp} {st0 : DS} {a : Addr} {ds : List D} : ItD K H0 st0 (Itl K a) ds (fun s => s a = some (.lst ds)) where
  goes := fun i H st hi k s g => by
    obtain ⟨vs, e, q⟩ := s a _ g
    exact ⟨vs, vs[i]'(by rw [← q.length]; exact hi), SqL.of e, List.getElem?_eq_getElem _⟩
  stops := fun H st k s g => by
    obtain ⟨vs, e, q⟩ := s a _ g
    exact ⟨vs, SqL.of e, by rw [q.length]; exact Nat.le_refl _⟩
  yields := fun i H st x H' d hd k s g y => by
    obtain ⟨rfl, y⟩ := y
    obtain ⟨vs, e, q⟩ := s a _ g
    obtain ⟨v, ev, r⟩ := q.get hd
    have := y vs (SqL.of e)
    rw [ev] at this; cases this
    exact ⟨.refl, s, r⟩
theorem itd_tup {K : PySem.W.Frag} {H0 : Hp} {st0 : DS} {a : Addr} {vs : List V} {ds : List D} (t : SqT K H0 a vs) (q : Reps K H0 ds vs) : ItD K H0 st0 (Itt K a) ds (fun _ => True) where
  goes := fun i H st hi k s g => ⟨vs, vs[i]'(by rw [← q.length]; exact hi), k.tup _ _ t, List.getElem?_eq_getElem _⟩
  stops := fun H st k s g => ⟨vs, k.tup _ _ t, by rw [q.length]; exact Nat.le_refl _⟩
  yields := fun i H st x H' d hd k s g y => by
    obtain ⟨rfl, y⟩ := y
    obtain ⟨v, ev, r⟩ := q.get hd
    have := y vs (k.tup _ _ t)
    rw [ev] at this; cases this
    exact ⟨.refl, s, r.keep k⟩
theorem itd_scr {K : PySem.W.Frag} {H0 : Hp} {st0 : DS} {a : Addr} {vs : List V} {ds : List D} (t : SqF K H0 a vs) (q : Reps K H0 ds vs) : ItD K H0 st0 (Itl K a) ds (fun _ => True) where
  goes := fun i H st hi k s g => ⟨vs, vs[i]'(by rw [← q.length]; exact hi), (k.scr _ _ t).sq, List.getElem?_eq_getElem _⟩
  stops := fun H st k s g => ⟨vs, (k.scr _ _ t).sq, by rw [q.length]; exact Nat.le_refl _⟩
  yields := fun i H st x H' d hd k s g y => by
    obtain ⟨rfl, y⟩ := y
    obtain ⟨v, ev, r⟩ := q.get hd
    have := y vs (k.scr _ _ t).sq
    rw [ev] at this; cases this
    exact ⟨.refl, s, r.keep k⟩
theorem itd_range {K : PySem.W.Frag} {H0 : Hp} {st0 : DS} {lo : Int} {n : Nat} : ItD K H0 st0 (Itr lo n) ((List.range n).map fun i : Nat => D.int (lo + i)) (fun _ => True) where
  goes := fun i H st hi k s g => by simpa [Itr] using hi
  stops := fun H st k s g => by simp [Itr]
  yields := fun i H st x H' d hd k s g y => by
    obtain ⟨rfl, rfl⟩ := y
    rw [List.getElem?_map] at hd
    have hi : i < n := by
      by_cases h : i < n
      · exact h
      · rw [List.getElem?_eq_none (by simpa using h)] at hd; cases hd
    rw [List.getElem?_range hi] at hd
    have : D.int (lo + i) = d := by simpa using hd
    subst this
    exact ⟨.refl, s, Rep_int.mpr rfl⟩
theorem itd_rangeC {K : PySem.W.Frag} {H0 : Hp} {st0 : DS} {lo c : Int} {n : Nat} : ItD K H0 st0 (Itc lo c n) ((List.range n).map fun i : Nat => D.int (lo + i * c)) (fun _ => True) where
  goes := fun i H st hi k s g => by simpa [Itc] using hi
  stops := fun H st k s g => by simp [Itc]
  yields := fun i H st x H' d hd k s g y => by
    obtain ⟨rfl, rfl⟩ := y
    rw [List.getElem?_map] at hd
    have hi : i < n := by
      by_cases h : i < n
      · exact h
      · rw [List.getElem?_eq_none (by simpa using h)] at hd; cases hd
    rw [List.getElem?_range hi] at hd
    have : D.int (lo + i * c) = d := by simpa using hd
    subst this
    exact ⟨.refl, s, Rep_int.mpr rfl⟩
section
variable {X : Cx} {W : WX} {tg e : Expr} {we : WE}
theorem jit (h : JE X W e we) : JI X W tg e (wIt we) := by
  refine (PI_seq h).weak ?_
  rintro sg H R ⟨ep, st, RR, Rx, he, hs, hw, hq, hx⟩
  refine ⟨ep, st, _, _, he, hs, hw, fun v H' d st' k s r h => ?_, hx⟩
  cases d with
  | ref a =>
    obtain ⟨ds, e, h⟩ := getL_inv h
    obtain ⟨vs, ev, q⟩ := s a _ e
    exact ⟨a, Rep_ref.mp r, .inl ⟨⟨vs, SqL.of ev⟩, hq H' st' ds _ _ k s itd_list h⟩⟩
  | tup ds =>
    obtain ⟨a, vs, rfl, t, q⟩ := Rep_tup.mp r
    exact ⟨a, rfl, .inr ⟨⟨vs, t⟩, hq H' st' ds _ _ k s (itd_tup t q) h⟩⟩
  | scr ds =>
    obtain ⟨a, vs, rfl, t, q⟩ := Rep_scr.mp r
    exact ⟨a, rfl, .inl ⟨⟨vs, t.sq⟩, hq H' st' ds _ _ k s (itd_scr t q) h⟩⟩
  | _ => exact h.elim
/-- range(n), range(a, b), range(a, b, -1) -/
def rngD (ds : List D) (st : DS) (RR : List D → (DS → Prop) → DS → Prop) : Prop := match ds with
  | [.int j] => (-(2 ^ 62) ≤ j ∧ j < 2 ^ 62) ∧ RR ((List.range j.toNat).map fun i : Nat => D.int (0 + i)) (fun _ => True) st
  | [.int i, .int j] => (-(2 ^ 62) ≤ i ∧ i < 2 ^ 62 ∧ -(2 ^ 62) ≤ j ∧ j < 2 ^ 62) ∧ RR ((List.range (j - i).toNat).map fun k : Nat => D.int (i + k)) (fun _ => True) st
  | [.int i, .int j, .int c] => ∃ n, RgC i j c n ∧ RR ((List.range n).map fun k : Nat => D.int (i + k * c)) (fun _ => True) st
  | _ => False
def wRng (wa : WA) : WI := fun ep st RR Rx => wa ep st (fun ds st' => rngD ds st' RR) Rx
theorem jir1 {p pos : Pos} {wa : WA} (hm : X.mg "range" = none) (h : JA X W 1 [e] wa) (hg : Gl X "range" := by rfl) (hs : starEach [e] X.env = [(false, eval e X.env)] := by rfl) : JI X W tg (.Call (.Name "range" p) [e] [] pos) (wRng wa) := by
  refine (pi_range1 hg hm h hs).weak ?_
  rintro sg H R ⟨ep, st, RR, Rx, he, hs, hw, hq, hx⟩
  refine ⟨ep, st, _, _, he, hs, hw, fun vs H' ds st' hl k s r h => ?_, hx⟩
  match ds, h, hl with
  | [.int j], h, _ =>
    obtain ⟨v, t, rfl, r1, r2⟩ := Reps_cons.mp r
    rw [Reps_nil.mp r2, Rep_int.mp r1]
    exact ⟨j, rfl, h.1.1, h.1.2, hq H' st' _ _ _ k s itd_range h.2⟩
theorem jir2 {p pos : Pos} {e2 : Expr} {wa : WA} (hm : X.mg "range" = none) (h : JA X W 2 [e, e2] wa) (hg : Gl X "range" := by rfl) (hs : starEach [e, e2] X.env = [(false, eval e X.env), (false, eval e2 X.env)] := by rfl) (hs2 : starEach [e2] X.env = [(false, eval e2 X.env)] := by rfl) :
    JI X W tg (.Call (.Name "range" p) [e, e2] [] pos) (wRng wa) := by
  refine (pi_range2 hg hm h hs hs2).weak ?_
  rintro sg H R ⟨ep, st, RR, Rx, he, hs, hw, hq, hx⟩
  refine ⟨ep, st, _, _, he, hs, hw, fun vs H' ds st' hl k s r h => ?_, hx⟩
  match ds, h, hl with
  | [.int i, .int j], h, _ =>
    obtain ⟨v, t, rfl, r1, r2⟩ := Reps_cons.mp r
    obtain ⟨v', t', rfl, r3, r4⟩ := Reps_cons.mp r2
    rw [Reps_nil.mp r4, Rep_int.mp r1, Rep_int.mp r3]
    exact ⟨i, j, rfl, h.1, hq H' st' _ _ _ k s itd_range h.2⟩
end
end DL

namespace DL
open PySem PySem.Spec PyProof.Rows L2
section
variable {X : Cx} {W : WX} {tg e : Expr} {we : WE}
theorem jir3 {p pos : Pos} {e2 e3 : Expr} {wa : WA} (hm : X.mg "range" = none) (h : JA X W 3 [e, e2, e3] wa) (hg : Gl X "range" := by rfl) (hs : starEach [e, e2, e3] X.env = (false, eval e X.env) :: starEach [e2, e3] X.env := by rfl) (hpl : (backTo pos (starEach [e2, e3] X.env)).any (·.1) = false := by rfl) :
    JI X W tg (.Call (.Name "range" p) [e, e2, e3] [] pos) (wRng wa) := by
  refine (pi_range3 hg hm h hs hpl).weak ?_
  rintro sg H R ⟨ep, st, RR, Rx, he, hs, hw, hq, hx⟩
  refine ⟨ep, st, _, _, he, hs, hw, fun vs H' ds st' hl k s r h => ?_, hx⟩
  match ds, h, hl with
  | [.int i, .int j, .int c], h, _ =>
    obtain ⟨v, t, rfl, r1, r2⟩ := Reps_cons.mp r
    obtain ⟨v', t', rfl, r3, r4⟩ := Reps_cons.mp r2
    obtain ⟨v2, t2, rfl, r5, r6⟩ := Reps_cons.mp r4
    rw [Reps_nil.mp r6, Rep_int.mp r1, Rep_int.mp r3, Rep_int.mp r5]
    obtain ⟨n, hn, h⟩ := h
    exact ⟨i, j, c, n, rfl, hn, hq H' st' _ _ _ k s itd_rangeC h⟩
end

/-! ### comprehensions -/
def wipeD (ep : DE) : List Nat → DE
  | [] => ep
  | v :: vs => (wipeD ep vs).set v none
theorem wipe_rep {K : PySem.W.Frag} {H : Hp} {ep : DE} {sg : L2.St} (h : RepE K H ep sg) : ∀ vs : List Nat, RepE K H (wipeD ep vs) (L2.wipe sg vs)
  | [] => h
  | v :: vs => by
    obtain ⟨h1, h2⟩ := wipe_rep h vs
    unfold wipeD L2.wipe
    refine ⟨by rw [List.length_set, List.length_set, h1], fun i d e => ?_⟩
    by_cases hi : v = i
    · subst hi
      have hl : v < (wipeD ep vs).length := by
        have := (List.getElem?_eq_some_iff.mp e).1
        rw [List.length_set] at this; exact this
      rw [List.getElem?_set_self hl] at e; cases e
    · rw [List.getElem?_set_ne hi] at e ⊢
      exact h2 i d e
/-- names that a target sets, by slots -/
inductive TgI : DG → List Nat → Prop where
  | name (i : Nat) : TgI (gN i) [i]
theorem set_wipe (sg : L2.St) (i : Nat) (x : Option V) : ∀ vs : List Nat, i ∈ vs → L2.wipe (sg.set i x) vs = L2.wipe sg vs
  | [], h => by cases h
  | v :: vs, h => by
    unfold L2.wipe
    by_cases hv : i ∈ vs
    · rw [set_wipe sg i x vs hv]
    · have e : i = v := by
        rcases List.mem_cons.mp h with h | h
        · exact h
        · exact absurd h hv
      subst e
      have key : ∀ us : List Nat, i ∉ us → L2.wipe (sg.set i x) us = (L2.wipe sg us).set i x := by
        intro us
        induction us with
        | nil => intro _; rfl
        | cons u us ih =>
          intro hu
          unfold L2.wipe
          rw [ih (fun z => hu (List.mem_cons_of_mem _ z)), List.set_comm _ _ (fun z => hu (by rw [z]; exact List.mem_cons_self))]
      rw [key vs hv, List.set_set]
theorem wipe_wipe (sg : L2.St) : ∀ vs : List Nat, L2.wipe (L2.wipe sg vs) vs = L2.wipe sg vs := by
  intro vs
  have key : ∀ us : List Nat, (∀ i ∈ us, i ∈ vs) → L2.wipe (L2.wipe sg us) vs = L2.wipe sg vs := by
    intro us
    induction us with
    | nil => intro _; rfl
    | cons u us ih =>
      intro hu
      show L2.wipe ((L2.wipe sg us).set u none) vs = _
      rw [set_wipe _ u none vs (hu u List.mem_cons_self), ih fun i hi => hu i (List.mem_cons_of_mem _ hi)]
  exact key vs fun i h => h
/-- one turn after the other: b the target's binding -/
def lcL (bind : D → DE → (DE → Prop) → Prop) (ep0 : DE) (wt : WT) (we : WE) (G : DS → Prop) (k : List D → DS → Prop) : List D → List D → DS → Prop
  | [], acc, st => G st ∧ k acc st
  | d :: r, acc, st => G st ∧ bind d ep0 fun ep => wt ep st (fun b st2 => cnd b (fun _ => we ep st2 (fun y st3 => acc.length < sizeLine ∧ lcL bind ep0 wt we G k r (acc ++ [y]) st3) (fun _ _ => False)) (fun _ => lcL bind ep0 wt we G k r acc st2)) (fun _ _ => False)
def wLc (wi : WI) (bind : D → DE → (DE → Prop) → Prop) (vs : List Nat) (wt : WT) (we : WE) : WE := fun ep st R Rx =>
  wi ep st (fun items G st' => lcL bind (wipeD ep vs) wt we G (fun acc st2 => ∀ p, st2 p = none → R (.ref p) (put st2 p (.lst acc))) items [] st') Rx
def bN (i : Nat) : D → DE → (DE → Prop) → Prop := fun d ep k => k (ep.set i (some d))
def bTn : List Nat → List D → DE → (DE → Prop) → Prop
  | [], [], ep, k => k ep
  | i :: is, d :: ds, ep, k => bTn is ds (ep.set i (some d)) k
  | _, _, _, _ => False
def bT (is : List Nat) : D → DE → (DE → Prop) → Prop := fun d ep k => match d with
  | .tup ds => bTn is ds ep k
  | .key ks => bTn is (ks.map kD) ep k
  | _ => False
/-- a target's binding agrees with the hand layer's -/
structure BindOk (K : PySem.W.Frag) (g : TG) (bind : D → DE → (DE → Prop) → Prop) (vs : List Nat) : Prop where
  run : ∀ {H : Hp} {d : D} {v : V} {ep : DE} {sg : L2.St} {k : DE → Prop} {Q : L2.St → Hp → Prop}, Rep K H d v → RepE K H ep sg → bind d ep k → (∀ ep' sg', RepE K H ep' sg' → L2.wipe sg' vs = L2.wipe sg vs → k ep' → Q sg' H) → g v sg H Q
theorem bind_name {K : PySem.W.Frag} {i : Nat} {vs : List Nat} (h : i ∈ vs) : BindOk K (gName i) (bN i) vs := ⟨fun r he hb hq => hq _ _ (he.set r i) (set_wipe _ i _ vs h) hb⟩
def gNames : List Nat → TGs
  | [] => gNil
  | i :: is => gCons (gName i) (gNames is)
theorem bind_names {K : PySem.W.Frag} {vs : List Nat} {H : Hp} {Q : L2.St → Hp → Prop} {k : DE → Prop} : ∀ {is : List Nat} {ds : List D} {us : List V} {ep : DE} {sg : L2.St}, (∀ i ∈ is, i ∈ vs) → Reps K H ds us → RepE K H ep sg → bTn is ds ep k → (∀ ep' sg', RepE K H ep' sg' → L2.wipe sg' vs = L2.wipe sg vs → k ep' → Q sg' H) → gNames is us sg H Q
  | [], [], us, ep, sg, _, r, he, hb, hq => ⟨Reps_nil.mp r, hq _ _ he rfl hb⟩
  | [], _ :: _, _, _, _, _, _, _, hb, _ => hb.elim
  | _ :: _, [], _, _, _, _, _, _, hb, _ => hb.elim
  | i :: is, d :: ds, us, ep, sg, hv, r, he, hb, hq => by
    obtain ⟨v, t, rfl, r1, r2⟩ := Reps_cons.mp r
    refine ⟨v, t, rfl, ?_⟩
    refine bind_names (fun j hj => hv j (List.mem_cons_of_mem _ hj)) r2 (he.set r1 i) hb fun ep' sg' e w h => hq ep' sg' e ?_ h
    rw [w, set_wipe _ i _ vs (hv i List.mem_cons_self)]
theorem bTn_len {k : DE → Prop} : ∀ {is : List Nat} {ds : List D} {ep : DE}, bTn is ds ep k → ds.length = is.length
  | [], [], _, _ => rfl
  | [], _ :: _, _, h => h.elim
  | _ :: _, [], _, h => h.elim
  | i :: is, d :: ds, ep, h => by rw [List.length_cons, List.length_cons, bTn_len (is := is) (ds := ds) h]
theorem bind_tup {K : PySem.W.Frag} {is vs : List Nat} (h : ∀ i ∈ is, i ∈ vs) : BindOk K (gTup K is.length (gNames is)) (bT is) vs := ⟨fun {H d v ep sg k Q} r he hb hq => by
  cases d with
  | tup ds =>
    obtain ⟨a, us, rfl, t, q⟩ := Rep_tup.mp r
    exact ⟨a, us, rfl, t, by rw [← q.length]; exact bTn_len hb, bind_names h q he hb hq⟩
  | key ks =>
    obtain ⟨a, rfl, t⟩ := Rep_key.mp r
    exact ⟨a, _, rfl, .inl (.inl t), by have := bTn_len hb; rw [List.length_map] at this; rw [List.length_map]; exact this, bind_names h (reps_kD.mpr rfl) he hb hq⟩
  | _ => exact hb.elim⟩
abbrev JTs (X : Cx) (W : WX) (ifs : List Expr) (w : WT) : Prop := PTs X ifs (twT X.K W w)
def wYes : WT := fun _ st R _ => R true st
theorem jts_nil {X : Cx} {W : WX} : JTs X W [] wYes := ⟨fun pins s sg H Q I h => pts_nil.run pins s sg H Q I (by
  obtain ⟨ep, st, R, Rx, he, hs, hw, hq, hx⟩ := h
  exact hq true H st .refl hs hw)⟩
theorem jts_one {X : Cx} {W : WX} {c : Expr} {w : WT} (h : JT X W c w) : JTs X W [c] w := pts_one h
/-- the reading of a comprehension -/
theorem lc_ok {K : PySem.W.Frag} {W : WX} {g : TG} {bind : D → DE → (DE → Prop) → Prop} {vs : List Nat} {wi : WI} {wt : WT} {we : WE} (bo : BindOk K g bind vs) : ∀ sg H Q, twE K W (wLc wi bind vs wt we) sg H Q →
    tLc (twI K W wi) g (twT K (fun _ _ _ _ => False) wt) (twE K (fun _ _ _ _ => False) we) vs sg H Q := by
  rintro sg H Q ⟨ep, st, R, Rx, he, hs, hw, hq, hx⟩
  refine ⟨ep, st, _, _, he, hs, hw, fun H1 st1 items G J k1 s1 it hf Dl hD => ?_, hx⟩
  -- the list at Dl is the comprehension's own
  refine ⟨fun i m H' => m = items.length - i ∧ i ≤ items.length ∧ ∃ acc accV st', Reps K H' acc accV ∧ H' Dl = some (.lst accV) ∧ st' Dl = none ∧ RepS K H' st' ∧ Keep K H1 st1 H' st' ∧
    lcL bind (wipeD ep vs) wt we G (fun acc st2 => ∀ p, st2 p = none → R (.ref p) (put st2 p (.lst acc))) (items.drop i) acc st', ?_, ?_⟩
  · exact ⟨items.length, by simp, Nat.zero_le _, [], [], st1, Reps.nil, upd_same, s1.free hD, s1.untold hD _, Keep.untold hD _, by rw [List.drop_zero]; exact hf⟩
  · rintro i m H2 ⟨rfl, hi, acc, accV, st2, ra, eD, nD, s2, k2, hf2⟩
    by_cases hlt : i < items.length
    · rw [List.drop_eq_getElem_cons hlt] at hf2
      obtain ⟨gg, hf3⟩ := hf2
      refine .inr ⟨it.goes i H2 st2 hlt k2 s2 gg, fun H' => (i + 1 ≤ items.length) ∧ ∃ acc accV st', Reps K H' acc accV ∧ H' Dl = some (.lst accV) ∧ st' Dl = none ∧ RepS K H' st' ∧ Keep K H1 st1 H' st' ∧
        lcL bind (wipeD ep vs) wt we G (fun acc st2 => ∀ p, st2 p = none → R (.ref p) (put st2 p (.lst acc))) (items.drop (i + 1)) acc st', fun H' ⟨hl, z⟩ => ⟨items.length - (i + 1), by omega, rfl, hl, z⟩, fun x H' y => ?_⟩
      obtain ⟨k3, s3, r3⟩ := it.yields i H2 st2 x H' items[i] (List.getElem?_eq_getElem hlt) k2 s2 gg y
      have he3 : RepE K H' (wipeD ep vs) (L2.wipe sg vs) := wipe_rep (((he.keep k1).keep k2).keep k3) vs
      refine bo.run r3 he3 hf3 fun ep4 sg4 e4 w4 h4 => ⟨by rw [w4, wipe_wipe], ?_⟩
      have d3 := k3.oth Dl _ eD (fun _ z => by cases z) nD
      refine ⟨ep4, st2, _, _, e4, s3, h4, fun b H5 st5 k5 s5 h5 => ?_, fun _ _ _ _ _ _ _ _ z => z.elim⟩
      have d5 := k5.oth Dl _ d3.1 (fun _ z => by cases z) d3.2
      cases b with
      | true =>
        replace h5 := h5.1 rfl
        dsimp only
        rw [if_pos rfl]
        refine ⟨ep4, st5, _, _, e4.keep k5, s5, h5, fun v H6 d st6 k6 s6 r6 h6 => ?_, fun _ _ _ _ _ _ _ _ z => z.elim⟩
        have d6 := k6.oth Dl _ d5.1 (fun _ z => by cases z) d5.2
        have ra6 := ((ra.keep k3).keep k5).keep k6
        refine ⟨accV, d6.1, by rw [← ra6.length]; exact h6.1, hlt, acc ++ [d], accV ++ [v], st6, ?_, upd_same, d6.2, ?_, ?_, h6.2⟩
        · have kk : ∀ a vs, SqT K H6 a vs → SqT K (upd H6 Dl (.lst (accV ++ [v]))) a vs := fun a vs => sqT_upd (by rw [d6.1]; trivial)
          have jj : ∀ a vs, SqF K H6 a vs → SqF K (upd H6 Dl (.lst (accV ++ [v]))) a vs := fun a vs => sqF_upd (by rw [d6.1]; trivial)
          have mm : ∀ a vs, H6 a = some (.tup vs) → upd H6 Dl (.lst (accV ++ [v])) a = some (.tup vs) := fun a vs => tps_upd (by rw [d6.1]; trivial)
          exact (Reps.mono kk jj mm _ _ ra6).append (.cons (Rep.mono kk jj mm _ _ r6) Reps.nil)
        · intro a o ea
          exact (s6 a o ea).upd (by rw [d6.1]; trivial) (fun z => by rw [z, d6.2] at ea; cases ea)
        · have kk : Keep K H1 st1 H6 st6 := ((k2.trans k3).trans k5).trans k6
          refine ⟨fun a vs h => sqT_upd (by rw [d6.1]; trivial) (kk.tup a vs h), fun a vs h => sqF_upd (by rw [d6.1]; trivial) (kk.scr a vs h), fun a vs h => tps_upd (by rw [d6.1]; trivial) (kk.tps a vs h), fun a o h nx n => ?_, fun a fv h => by rw [upd_ne (fun z => by rw [z, hD] at h; cases h)]; exact kk.xds a fv h, fun a o' u h => by rw [upd_ne (fun z => by rw [z, hD] at h; cases h)]; exact kk.fzs a o' u h⟩
          have ne : a ≠ Dl := fun z => by rw [z, hD] at h; cases h
          rw [upd_ne ne]
          exact kk.oth a o h nx n
      | false =>
        replace h5 := h5.2 rfl
        dsimp only
        rw [if_neg Bool.false_ne_true]
        exact ⟨hlt, acc, accV, st5, (ra.keep k3).keep k5, d5.1, d5.2, s5, (k2.trans k3).trans k5, h5⟩
    · have e : i = items.length := by omega
      subst e
      rw [List.drop_length] at hf2
      refine .inl ⟨it.stops H2 st2 k2 s2 hf2.1, ?_⟩
      have kk := k1.trans k2
      refine hq _ H2 _ (put st2 Dl (.lst acc)) ⟨kk.tup, kk.scr, kk.tps, fun a o h nx n => ⟨(kk.oth a o h nx n).1, ?_⟩, kk.xds, kk.fzs⟩ (fun a o h => ?_) (Rep_ref.mpr rfl) (hf2.2 Dl nD)
      · have h1 := (k1.oth a o h nx n).1
        have ne : a ≠ Dl := fun z => by rw [z, hD] at h1; cases h1
        rw [put_ne ne]; exact (kk.oth a o h nx n).2
      · by_cases ne : a = Dl
        · subst ne
          rw [put_same] at h; cases h
          exact ⟨accV, eD, ra⟩
        · rw [put_ne ne] at h
          exact s2 a o h
end DL

namespace DL
open PySem PySem.Spec PyProof.Rows L2
abbrev noW : WX := fun _ _ _ _ => False
section
variable {X : Cx} {W : WX} {elt tg iter : Expr} {ifs : List Expr} {scope : Scope} {own : List (Str × Nat)} {pos : Pos} {wi : WI} {g : TG} {bind : D → DE → (DE → Prop) → Prop} {wt : WT} {we : WE}
/-- [elt for target in iter if ..] -/
theorem je_lc (hN : X.N.Nodup) (hi : JI X W tg iter wi) (ok : blkC X.N X.env.scope scope own = true) (bo : BindOk X.K g bind (own.map (·.2)))
    (hg : ∀ (s : Shared) (H : Hp) (C : Addr) (cl : List (Str × Addr)) (fp : List Addr), PG (X.blk s H scope (compEnvC scope cl C X.env) fp) tg g) (ht : ∀ (s : Shared) (H : Hp) (C : Addr) (cl : List (Str × Addr)) (fp : List Addr), JTs (X.blk s H scope (compEnvC scope cl C X.env) fp) noW ifs wt)
    (he : ∀ (s : Shared) (H : Hp) (C : Addr) (cl : List (Str × Addr)) (fp : List Addr), JE (X.blk s H scope (compEnvC scope cl C X.env) fp) noW elt we) (hc : X.calm = true := by rfl) (hs : ∀ x, foldedSetIterable iter X.env x = pure x := by intro _; rfl) :
    JE X W (.ListComp elt [⟨tg, iter, ifs, 0⟩] scope pos) (wLc wi bind (own.map (·.2)) wt we) :=
  (pe_lc hc hN hi (blkOk_by ok) hg ht he hs).weak (lc_ok bo)
/-- name = [..] -/
theorem js_setlc {i : Nat} {y : Str} {py spos : Pos} (hN : X.N.Nodup) (hi : JI X W tg iter wi) (ok : blkC X.N X.env.scope scope own = true) (bo : BindOk X.K g bind (own.map (·.2)))
    (hg : ∀ (s : Shared) (H : Hp) (C : Addr) (cl : List (Str × Addr)) (fp : List Addr), PG (X.blk s H scope (compEnvC scope cl C X.env) fp) tg g) (ht : ∀ (s : Shared) (H : Hp) (C : Addr) (cl : List (Str × Addr)) (fp : List Addr), JTs (X.blk s H scope (compEnvC scope cl C X.env) fp) noW ifs wt)
    (he : ∀ (s : Shared) (H : Hp) (C : Addr) (cl : List (Str × Addr)) (fp : List Addr), JE (X.blk s H scope (compEnvC scope cl C X.env) fp) noW elt we)
    (hsw : swapsWith (.ListComp elt [⟨tg, iter, ifs, 0⟩] scope pos) (some (.Name y py)) spos.line X.env = pure true) (hc : X.calm = true := by rfl) (hy : X.N[i]? = some y := by rfl) (hyl : X.env.scope.names.lookup y = some .local := by rfl) (hs : ∀ x, foldedSetIterable iter X.env x = pure x := by intro _; rfl) :
    JS X W (.Assign [.Name y py] (.ListComp elt [⟨tg, iter, ifs, 0⟩] scope pos) spos) (wSet i (wLc wi bind (own.map (·.2)) wt we)) := by
  refine (ps_setLc (te := twE X.K noW we) (tt := twT X.K noW wt) hc hN hy hyl hsw hi (blkOk_by ok) hg ht he hs).weak ?_
  rintro Dn sg H ⟨ep, st, E, he, hs, hw, ok⟩
  refine lc_ok bo sg H _ ⟨ep, st, _, _, he, hs, hw, fun v H' d st' k s r h => ?_, ok.okX he⟩
  exact ok.nx _ H' _ st' k s ((he.keep k).set r i) h
end

/-! ### isinstance against built-in types -/
inductive Ty5 where
  | int | bool | str | tup | lst
def Ty5.nm : Ty5 → String
  | .int => "int" | .bool => "bool" | .str => "str" | .tup => "tuple" | .lst => "list"
/-- is it one; of a list or an instance ask the store -/
def isTy : Ty5 → D → Bool
  | .int, .int _ => true
  | .int, .bl _ => true
  | .bool, .bl _ => true
  | .str, .str _ => true
  | .tup, .tup _ => true
  | .lst, .ref _ => true
  | .lst, .scr _ => true
  | _, _ => false
def lstOk (d : D) (st : DS) : Prop := match d with
  | .ref a => getL st a fun _ => True
  | .key _ => False
  | _ => True
def wIsi (T : Ty5) (we : WE) : WE := fun ep st R Rx => we ep st (fun d st' => lstOk d st' ∧ R (.bl (isTy T d)) st') Rx
theorem tyx_of {K : PySem.W.Frag} {H : Hp} {st : DS} {d : D} {v : V} (hs : RepS K H st) (r : Rep K H d v) (h : lstOk d st) :
    ∃ n : String, TyX K H v (.type n) ∧ ∀ T : Ty5, kitB n T.nm = some (isTy T d) := by
  cases d with
  | non => rw [Rep_non.mp r]; exact ⟨_, .base .non, fun T => by cases T <;> decide +kernel⟩
  | bl b => rw [Rep_bl.mp r]; exact ⟨_, .base (.bl b), fun T => by cases T <;> (show kitB _ _ = some _; simp only [isTy, Ty5.nm]; decide +kernel)⟩
  | int b => rw [Rep_int.mp r]; exact ⟨_, .base (.int b), fun T => by cases T <;> (show kitB _ _ = some _; simp only [isTy, Ty5.nm]; decide +kernel)⟩
  | str b => rw [Rep_str.mp r]; exact ⟨_, .base (.str b), fun T => by cases T <;> (show kitB _ _ = some _; simp only [isTy, Ty5.nm]; decide +kernel)⟩
  | tup ds =>
    obtain ⟨a, vs, rfl, t, q⟩ := Rep_tup.mp r
    have fin : ∀ T : Ty5, kitB "tuple" T.nm = some (isTy T (.tup ds)) := fun T => by cases T <;> (simp only [isTy, Ty5.nm]; decide +kernel)
    rcases t with (h | ⟨o, h⟩) | ⟨o, its, n, hk, hc, _⟩
    · exact ⟨"tuple", .base (.tup h), fin⟩
    · exact ⟨"tuple", .fTuple h, fin⟩
    · exact ⟨"tuple", .kTuple hk hc, fin⟩
  | ref a =>
    obtain ⟨ds, e, _⟩ := getL_inv h
    obtain ⟨vs, e1, _⟩ := hs a _ e
    rw [Rep_ref.mp r]
    exact ⟨"list", .base (.lst e1), fun T => by cases T <;> (simp only [isTy, Ty5.nm]; decide +kernel)⟩
  | key ds => exact h.elim
  | scr ds =>
    obtain ⟨a, vs, rfl, t, q⟩ := Rep_scr.mp r
    have fin : ∀ T : Ty5, kitB "list" T.nm = some (isTy T (.scr ds)) := fun T => by cases T <;> (simp only [isTy, Ty5.nm]; decide +kernel)
    rcases t with ⟨o, h⟩ | ⟨o, its, n, hk, hc, _⟩
    · exact ⟨"list", .base (.frz h), fin⟩
    · exact ⟨"list", .kList hk hc, fin⟩
section
variable {X : Cx} {W : WX} {e : Expr} {we : WE} {p p2 pos : Pos}
theorem j_isi (T : Ty5) {x : Str} (hm : X.mg "isinstance" = none) (hmT : X.mg x = none) (hv : bootBuiltins x = some (.type T.nm)) (h : JE X W e we) (hg : Gl X "isinstance" := by rfl) (hgT : Gl X x := by rfl) (hn : x ≠ "__name__" := by decide) (hdb : (x == ("__debug__" : Str)) = false := by decide)
    (hs : starEach [e, .Name x p2] X.env = (false, eval e X.env) :: starEach [.Name x p2] X.env := by rfl) (hs2 : starEach [.Name x p2] X.env = (false, eval (.Name x p2) X.env) :: starEach [] X.env := by rfl) (hpl : (backTo pos (starEach [.Name x p2] X.env)).any (·.1) = false := by rfl) :
    JE X W (.Call (.Name "isinstance" p) [e, .Name x p2] [] pos) (wIsi T we) := by
  refine (pe_callB call_isi hg hm (by decide +kernel) (pa_cons h (pa_cons (pe_bltn (v := .ty T.nm) hgT hmT hv rfl hn hdb) pa_nil hs2) hs) (by decide) (by decide) hs hpl).weak ?_
  rintro sg H Q ⟨ep, st, R, Rx, he, hs, hw, hq, hx⟩
  refine ⟨ep, st, _, _, he, hs, hw, fun v H' d st' k s r h => ?_, hx⟩
  obtain ⟨h1, h2⟩ := h
  obtain ⟨n, ty, kit⟩ := tyx_of s r h1
  exact ⟨v, .ty T.nm, .type n, .type T.nm, isTy T d, rfl, .ty _, ty, kit_ty (kit T), hq _ H' _ st' k s (Rep_bl.mpr rfl) h2⟩
end

/-! ### methods of lists -/
def isLst (d : D) (st : DS) : Prop := match d with
  | .ref a => getL st a fun _ => True
  | _ => False
abbrev FM := D → List D → DS → RD → Prop
def wM (f : FM) (wo : WE) (wa : WA) : WE := fun ep st R Rx => wo ep st (fun o st1 => isLst o st1 ∧ wa ep st1 (fun ds st2 => f o ds st2 R) Rx) Rx
def SimM (K : PySem.W.Frag) (r : V → List V → Hp → VK → Prop) (f : FM) : Prop := ∀ H st o v vs ds R Q, RepS K H st → Rep K H o v → Reps K H ds vs → f o ds st R → OkQ K H st R Q → r v vs H Q
theorem lst_tyV {K : PySem.W.Frag} {H : Hp} {st : DS} {d : D} {v : V} (hs : RepS K H st) (r : Rep K H d v) (h : isLst d st) : tyV K "list" v H := by
  cases d with
  | ref a =>
    obtain ⟨ds, e, _⟩ := getL_inv h
    obtain ⟨vs, e1, _⟩ := hs a _ e
    rw [Rep_ref.mp r]
    exact .inl ⟨rfl, vs, SqL.of e1⟩
  | _ => exact h.elim
section
variable {X : Cx} {W : WX} {o e : Expr} {es : List Expr} {wo : WE} {wa : WA} {n : Nat} {name : Str} {apos cpos : Pos} {id : String} {r : V → List V → Hp → VK → Prop} {f : FM}
theorem j_meth (slot : Slot "list" name id) (hty : typeOf (.builtin id) = pure (.type "method_descriptor")) (hm : MtR X id r) (hf : SimM X.K r f) (ho : JE X W o wo) (ha : JA X W n (e :: es) wa)
    (hbase : attributeBase o name X.env (eval o X.env) = eval o X.env := by rfl)
    (hfew : ((backTo cpos (starEach (e :: es) X.env)).all (fun x => !x.1) && (backToKw cpos (keywordEach [] X.env)).all (fun x => x.1.isSome)
      && decide ((e :: es).length + ([] : List Keyword).length + (if ([] : List Keyword).isEmpty then 0 else 1) < 30)) = true := by rfl)
    (hline : (apos.endLine == cpos.line) = true := by rfl) (hs : starEach (e :: es) X.env = (false, eval e X.env) :: starEach es X.env := by rfl) (hplain : (backTo cpos (starEach es X.env)).any (·.1) = false := by rfl) :
    JE X W (.Call (.Attribute o name apos) (e :: es) [] cpos) (wM f wo wa) := by
  refine (pe_bm PySem.F.plainAttrs_list slot hty hm ho ha hbase hfew hline hs hplain).weak ?_
  rintro sg H Q ⟨ep, st, R, Rx, he, hs, hw, hq, hx⟩
  refine ⟨ep, st, _, _, he, hs, hw, fun v H1 d st1 k s r1 h => ⟨lst_tyV s r1 h.1, ?_⟩, hx⟩
  exact ⟨ep, st1, _, _, he.keep k, s, h.2, fun vs H2 ds st2 hl k2 s2 r2 h2 => hf H2 st2 d v vs ds R Q s2 (r1.keep k2) r2 h2 (hq.keep (k.trans k2)), hx.keep k⟩
theorem j_meth0 (slot : Slot "list" name id) (hty : typeOf (.builtin id) = pure (.type "method_descriptor")) (hm : MtR X id r) (hf : SimM X.K r f) (ho : JE X W o wo)
    (hbase : attributeBase o name X.env (eval o X.env) = eval o X.env := by rfl) (hline : (apos.endLine == cpos.line) = true := by rfl) : JE X W (.Call (.Attribute o name apos) [] [] cpos) (wM f wo wANil) := by
  refine (pe_bm0 PySem.F.plainAttrs_list slot hty hm ho hbase hline).weak ?_
  rintro sg H Q ⟨ep, st, R, Rx, he, hs, hw, hq, hx⟩
  refine ⟨ep, st, _, _, he, hs, hw, fun v H1 d st1 k s r1 h => ⟨lst_tyV s r1 h.1, ?_⟩, hx⟩
  exact hf H1 st1 d v [] [] R Q s r1 Reps.nil h.2 (hq.keep k)
end
def appendD : FM := fun o ds st R => match o, ds with
  | .ref a, [d] => getL st a fun es => es.length < sizeLine ∧ R .non (put st a (.lst (es ++ [d])))
  | _, _ => False
def extendD : FM := fun o ds st R => match o, ds with
  | .ref a, [.ref b] => getL st a fun es => getL st b fun fs => es.length + fs.length ≤ sizeLine ∧ R .non (put st a (.lst (es ++ fs)))
  | _, _ => False
def popD : FM := fun o ds st R => match o, ds with
  | .ref a, [] => getL st a fun es => optP es[es.length - 1]? fun d => R d (put st a (.lst es.dropLast))
  | .ref a, [.int i] => getL st a fun es => (-(2 ^ 63) ≤ i ∧ i < 2 ^ 63) ∧ optP (ixN es.length i) fun k => optP es[k]? fun d => R d (put st a (.lst (es.eraseIdx k)))
  | _, _ => False
def reverseD : FM := fun o ds st R => match o, ds with
  | .ref a, [] => getL st a fun es => R .non (put st a (.lst es.reverse))
  | _, _ => False
section
variable {K : PySem.W.Frag}
theorem sim_append : SimM K rAppend appendD := by
  intro H st o v vs ds R Q hs ro rs hf hq
  match o, ds, hf with
  | .ref a, [d], hf =>
    obtain ⟨es, e, hl, h⟩ := getL_inv hf
    obtain ⟨us, e1, q⟩ := hs a _ e
    obtain ⟨x, t, rfl, r1, r2⟩ := Reps_cons.mp rs
    rw [Reps_nil.mp r2]
    refine ⟨a, us, x, Rep_ref.mp ro, rfl, e1, by rw [← q.length]; exact hl, ?_⟩
    have k := hs.keepW e (HO.lst (us ++ [x])) (OB.lst (es ++ [d]))
    exact hq _ _ _ _ k (hs.write e ⟨_, upd_same, (q.keep k).append (.cons (r1.keep k) Reps.nil)⟩) (Rep_non.mpr rfl) h
theorem sim_extend : SimM K rExtend extendD := by
  intro H st o v vs ds R Q hs ro rs hf hq
  match o, ds, hf with
  | .ref a, [.ref b], hf =>
    obtain ⟨es, e, hf⟩ := getL_inv hf
    obtain ⟨fs, f, hl, h⟩ := getL_inv hf
    obtain ⟨us, e1, q⟩ := hs a _ e
    obtain ⟨ws, f1, q2⟩ := hs b _ f
    obtain ⟨x, t, rfl, r1, r2⟩ := Reps_cons.mp rs
    rw [Reps_nil.mp r2, Rep_ref.mp r1]
    refine ⟨a, b, us, ws, Rep_ref.mp ro, rfl, e1, f1, by rw [← q.length, ← q2.length]; exact hl, ?_⟩
    have k := hs.keepW e (HO.lst (us ++ ws)) (OB.lst (es ++ fs))
    exact hq _ _ _ _ k (hs.write e ⟨_, upd_same, (q.keep k).append (q2.keep k)⟩) (Rep_non.mpr rfl) h
theorem Reps.dropLast {H : Hp} : ∀ {ds : List D} {vs : List V}, Reps K H ds vs → Reps K H ds.dropLast vs.dropLast
  | [], _, h => by rw [Reps_nil.mp h]; exact Reps.nil
  | [d], _, h => by
    obtain ⟨x, t, rfl, r1, r2⟩ := Reps_cons.mp h
    rw [Reps_nil.mp r2]; exact Reps.nil
  | d :: e :: ds, _, h => by
    obtain ⟨x, t, rfl, r1, r2⟩ := Reps_cons.mp h
    obtain ⟨y, t2, rfl, r3, r4⟩ := Reps_cons.mp r2
    exact .cons r1 (Reps.dropLast r2)
theorem sim_pop : SimM K (fun x xs H Q => rPop x xs H Q ∨ rPopAt x xs H Q) popD := by
  intro H st o v vs ds R Q hs ro rs hf hq
  match o, ds, hf with
  | .ref a, [], hf =>
    obtain ⟨es, e, hf⟩ := getL_inv hf
    obtain ⟨d, hd, h⟩ := optP_inv hf
    obtain ⟨us, e1, q⟩ := hs a _ e
    rw [Reps_nil.mp rs]
    obtain ⟨y, hy, ry⟩ := q.get hd
    refine .inl ⟨a, us, y, Rep_ref.mp ro, rfl, e1, by rw [← q.length]; exact hy, ?_⟩
    have k := hs.keepW e (HO.lst us.dropLast) (OB.lst es.dropLast)
    exact hq _ _ _ _ k (hs.write e ⟨_, upd_same, (q.keep k).dropLast⟩) (ry.keep k) h
  | .ref a, [.int i], hf =>
    obtain ⟨es, e, hi, hf⟩ := getL_inv hf
    obtain ⟨j, hj, hf⟩ := optP_inv hf
    obtain ⟨d, hd, h⟩ := optP_inv hf
    obtain ⟨us, e1, q⟩ := hs a _ e
    obtain ⟨x, t, rfl, r1, r2⟩ := Reps_cons.mp rs
    rw [Reps_nil.mp r2, Rep_int.mp r1]
    obtain ⟨y, hy, ry⟩ := q.get hd
    refine .inr ⟨a, us, i, j, y, Rep_ref.mp ro, rfl, e1, hi.1, hi.2, by rw [← q.length]; exact (ixN_seq hj).1, hy, ?_⟩
    have k := hs.keepW e (HO.lst (us.eraseIdx j)) (OB.lst (es.eraseIdx j))
    exact hq _ _ _ _ k (hs.write e ⟨_, upd_same, (q.keep k).eraseIdx j⟩) (ry.keep k) h
theorem sim_reverse : SimM K rReverse reverseD := by
  intro H st o v vs ds R Q hs ro rs hf hq
  match o, ds, hf with
  | .ref a, [], hf =>
    obtain ⟨es, e, h⟩ := getL_inv hf
    obtain ⟨us, e1, q⟩ := hs a _ e
    rw [Reps_nil.mp rs]
    refine ⟨a, us, Rep_ref.mp ro, rfl, e1, ?_⟩
    have k := hs.keepW e (HO.lst us.reverse) (OB.lst es.reverse)
    exact hq _ _ _ _ k (hs.write e ⟨_, upd_same, (q.keep k).reverse⟩) (Rep_non.mpr rfl) h
end
section
variable {X : Cx} {W : WX} {o e : Expr} {wo : WE} {wa : WA} {n : Nat} {apos cpos : Pos}
theorem j_append (ho : JE X W o wo) (ha : JA X W n [e] wa) (hbase : attributeBase o "append" X.env (eval o X.env) = eval o X.env := by rfl)
    (hfew : ((backTo cpos (starEach [e] X.env)).all (fun x => !x.1) && (backToKw cpos (keywordEach [] X.env)).all (fun x => x.1.isSome)
      && decide ([e].length + ([] : List Keyword).length + (if ([] : List Keyword).isEmpty then 0 else 1) < 30)) = true := by rfl) (hline : (apos.endLine == cpos.line) = true := by rfl) (hs : starEach [e] X.env = (false, eval e X.env) :: starEach [] X.env := by rfl) :
    JE X W (.Call (.Attribute o "append" apos) [e] [] cpos) (wM appendD wo wa) := j_meth PySem.F.slot_list_append PySem.F.type_list_append mt_append sim_append ho ha hbase hfew hline hs
theorem j_extend (ho : JE X W o wo) (ha : JA X W n [e] wa) (hbase : attributeBase o "extend" X.env (eval o X.env) = eval o X.env := by rfl)
    (hfew : ((backTo cpos (starEach [e] X.env)).all (fun x => !x.1) && (backToKw cpos (keywordEach [] X.env)).all (fun x => x.1.isSome)
      && decide ([e].length + ([] : List Keyword).length + (if ([] : List Keyword).isEmpty then 0 else 1) < 30)) = true := by rfl) (hline : (apos.endLine == cpos.line) = true := by rfl) (hs : starEach [e] X.env = (false, eval e X.env) :: starEach [] X.env := by rfl) :
    JE X W (.Call (.Attribute o "extend" apos) [e] [] cpos) (wM extendD wo wa) := j_meth PySem.F.slot_list_extend PySem.F.type_list_extend mt_extend sim_extend ho ha hbase hfew hline hs
theorem j_popAt (ho : JE X W o wo) (ha : JA X W n [e] wa) (hbase : attributeBase o "pop" X.env (eval o X.env) = eval o X.env := by rfl)
    (hfew : ((backTo cpos (starEach [e] X.env)).all (fun x => !x.1) && (backToKw cpos (keywordEach [] X.env)).all (fun x => x.1.isSome)
      && decide ([e].length + ([] : List Keyword).length + (if ([] : List Keyword).isEmpty then 0 else 1) < 30)) = true := by rfl) (hline : (apos.endLine == cpos.line) = true := by rfl) (hs : starEach [e] X.env = (false, eval e X.env) :: starEach [] X.env := by rfl) :
    JE X W (.Call (.Attribute o "pop" apos) [e] [] cpos) (wM popD wo wa) := j_meth PySem.F.slot_list_pop PySem.F.type_list_pop (MtR.or mt_pop mt_popAt) sim_pop ho ha hbase hfew hline hs
theorem j_pop (ho : JE X W o wo) (hbase : attributeBase o "pop" X.env (eval o X.env) = eval o X.env := by rfl) (hline : (apos.endLine == cpos.line) = true := by rfl) :
    JE X W (.Call (.Attribute o "pop" apos) [] [] cpos) (wM popD wo wANil) := j_meth0 PySem.F.slot_list_pop PySem.F.type_list_pop (MtR.or mt_pop mt_popAt) sim_pop ho hbase hline
end
end DL

namespace DL
open PySem PySem.Spec PyProof.Rows L2
def wNeg (wa : WE) : WE := fun ep st R Rx => wa ep st (fun d st' => asI d fun i => R (.int (-i)) st') Rx
def wNotV (wa : WE) : WE := fun ep st R Rx => wB wa ep st (fun c st' => R (.bl (!c)) st') Rx
def wAndV (wa wb : WE) : WE := fun ep st R Rx => wB wa ep st (fun c st' => cnd c (fun _ => wb ep st' R Rx) (fun _ => R (.bl false) st')) Rx
def wOrV (wa wb : WE) : WE := fun ep st R Rx => wB wa ep st (fun c st' => cnd c (fun _ => R (.bl true) st') (fun _ => wb ep st' R Rx)) Rx
def wNoneT (neg : Bool) (wa : WE) : WT := fun ep st R Rx => wa ep st (fun d st' => R (if neg = true then !d.isNon else d.isNon) st') Rx
section
variable {X : Cx} {W : WX} {a b : Expr} {wa wb : WE} {k : Nat} {pos : Pos}
theorem jc_lt (ha : JE X W a wa) (hb : JE X W b wb) : JE X W (.Compare a [.Lt] [b] pos) (wBin ltD wa wb) := j_cmp op_lt sim_cmp ha hb
theorem jc_le (ha : JE X W a wa) (hb : JE X W b wb) : JE X W (.Compare a [.LtE] [b] pos) (wBin leD wa wb) := j_cmp op_le sim_cmp ha hb
theorem jc_gt (ha : JE X W a wa) (hb : JE X W b wb) : JE X W (.Compare a [.Gt] [b] pos) (wBin gtD wa wb) := j_cmp op_gt sim_cmp ha hb
theorem jc_ge (ha : JE X W a wa) (hb : JE X W b wb) : JE X W (.Compare a [.GtE] [b] pos) (wBin geD wa wb) := j_cmp op_ge sim_cmp ha hb
theorem jc_eq (hr : Room k X.A) (ha : JE X W a wa) (hb : JE X W b wb) : JE X W (.Compare a [.Eq] [b] pos) (wBin eqD wa wb) := j_cmp (OpR_or op_eq (op_eqD hr.units)) sim_eq ha hb
theorem jc_ne (hr : Room k X.A) (ha : JE X W a wa) (hb : JE X W b wb) : JE X W (.Compare a [.NotEq] [b] pos) (wBin neD wa wb) := j_cmp (OpR_or op_ne (op_neD hr.units)) sim_ne ha hb
theorem jc_in (ha : JE X W a wa) (hb : JE X W b wb) (hm : behindInMarks .In b = false := by rfl) : JE X W (.Compare a [.In] [b] pos) (wBin (inD false) wa wb) := j_cmp op_inA sim_in ha hb hm
theorem jc_nin (ha : JE X W a wa) (hb : JE X W b wb) (hm : behindInMarks .NotIn b = false := by rfl) : JE X W (.Compare a [.NotIn] [b] pos) (wBin (inD true) wa wb) := j_cmp op_notInA sim_in ha hb hm
theorem jt_lt (ha : JE X W a wa) (hb : JE X W b wb) : JT X W (.Compare a [.Lt] [b] pos) (wBinT ltD wa wb) := j_cmpT op_lt sim_cmp ha hb
theorem jt_le (ha : JE X W a wa) (hb : JE X W b wb) : JT X W (.Compare a [.LtE] [b] pos) (wBinT leD wa wb) := j_cmpT op_le sim_cmp ha hb
theorem jt_gt (ha : JE X W a wa) (hb : JE X W b wb) : JT X W (.Compare a [.Gt] [b] pos) (wBinT gtD wa wb) := j_cmpT op_gt sim_cmp ha hb
theorem jt_ge (ha : JE X W a wa) (hb : JE X W b wb) : JT X W (.Compare a [.GtE] [b] pos) (wBinT geD wa wb) := j_cmpT op_ge sim_cmp ha hb
theorem jt_eq (hr : Room k X.A) (ha : JE X W a wa) (hb : JE X W b wb) : JT X W (.Compare a [.Eq] [b] pos) (wBinT eqD wa wb) := j_cmpT (OpR_or op_eq (op_eqD hr.units)) sim_eq ha hb
theorem jt_ne (hr : Room k X.A) (ha : JE X W a wa) (hb : JE X W b wb) : JT X W (.Compare a [.NotEq] [b] pos) (wBinT neD wa wb) := j_cmpT (OpR_or op_ne (op_neD hr.units)) sim_ne ha hb
theorem jt_in (ha : JE X W a wa) (hb : JE X W b wb) (hm : behindInMarks .In b = false := by rfl) : JT X W (.Compare a [.In] [b] pos) (wBinT (inD false) wa wb) := j_cmpT op_inA sim_in ha hb hm
theorem jt_nin (ha : JE X W a wa) (hb : JE X W b wb) (hm : behindInMarks .NotIn b = false := by rfl) : JT X W (.Compare a [.NotIn] [b] pos) (wBinT (inD true) wa wb) := j_cmpT op_notInA sim_in ha hb hm
theorem jt_isN {j p2} (ha : JE X W a wa) : JT X W (.Compare a [.Is] [.Constant .none j p2] pos) (wNoneT false wa) := by
  refine (pt_cmp (pc_isN ha)).weak ?_
  rintro sg H Q ⟨ep, st, R, Rx, he, hs, hw, hq, hx⟩
  refine ⟨ep, st, _, Rx, he, hs, hw, fun v H' d st' k s r h => ?_, hx⟩
  refine ⟨_, rfl, ?_⟩
  rw [non_dec r]
  exact hq _ _ _ k s h
theorem jt_notN {j p2} (ha : JE X W a wa) : JT X W (.Compare a [.IsNot] [.Constant .none j p2] pos) (wNoneT true wa) := by
  refine (pt_cmp (pc_notN ha)).weak ?_
  rintro sg H Q ⟨ep, st, R, Rx, he, hs, hw, hq, hx⟩
  refine ⟨ep, st, _, Rx, he, hs, hw, fun v H' d st' k s r h => ?_, hx⟩
  refine ⟨_, rfl, ?_⟩
  rw [non_dec r]
  exact hq _ _ _ k s h
end
end DL

/-! Steps of a reading, from the left. -/
namespace DL
open PySem PySem.Spec PyProof.Rows L2
section
variable {E : Ed} {ep : DE} {st : DS} {R : RD} {Rx : RX} {i j k : Nat} {a b c : WS} {wa wb wc : WE} {ta tb : WT} {as : WA} {A B : Unit → Prop} {f : F2} {d x y : D} {RA : List D → DS → Prop} {RT : Bool → DS → Prop}
theorem s_seq (h : a { nx := fun ep' st' => b E ep' st', rt := E.rt, bk := E.bk, ct := E.ct, ex := E.ex } ep st) : wSeq a b E ep st := h
theorem s_seqM {nx rt bk ct ex} (h : a { nx := fun ep' st' => b { nx := nx, rt := rt, bk := bk, ct := ct, ex := ex } ep' st', rt := rt, bk := bk, ct := ct, ex := ex } ep st) : wSeq a b { nx := nx, rt := rt, bk := bk, ct := ct, ex := ex } ep st := h
theorem s_asB {b : Bool} {q : Bool → Prop} (h : q b) : asB (.bl b) q := h
theorem s_asI {b : Int} {q : Int → Prop} (h : q b) : asI (.int b) q := h
theorem s_asRI {p : Addr} {z : Int} {q : Addr → Int → Prop} (h : q p z) : asRI (.ref p) (.int z) q := h
theorem s_next (h : E.nx ep st) : wNext E ep st := h
theorem s_nextM {nx rt bk ct ex} (h : nx ep st) : wNext { nx := nx, rt := rt, bk := bk, ct := ct, ex := ex } ep st := h
theorem s_set {nx rt bk ct ex} (h : wa ep st (fun d st' => nx (ep.set i (some d)) st') (fun x st' => ex x ep st')) : wSet i wa { nx := nx, rt := rt, bk := bk, ct := ct, ex := ex } ep st := h
theorem s_drop {nx rt bk ct ex} (h : wa ep st (fun _ st' => nx ep st') (fun x st' => ex x ep st')) : wDrop wa { nx := nx, rt := rt, bk := bk, ct := ct, ex := ex } ep st := h
theorem s_ret {nx rt bk ct ex} (h : wa ep st (fun d st' => rt d st') (fun x st' => ex x ep st')) : wRet wa { nx := nx, rt := rt, bk := bk, ct := ct, ex := ex } ep st := h
theorem s_retN {nx rt bk ct ex} (h : rt .non st) : wRetN { nx := nx, rt := rt, bk := bk, ct := ct, ex := ex } ep st := h
theorem s_brk {nx rt bk ct ex} (h : bk ep st) : wBrk { nx := nx, rt := rt, bk := bk, ct := ct, ex := ex } ep st := h
theorem s_cnt {nx rt bk ct ex} (h : ct ep st) : wCnt { nx := nx, rt := rt, bk := bk, ct := ct, ex := ex } ep st := h
theorem s_if {nx rt bk ct ex} (h : ta ep st (fun t st' => cnd t (fun _ => a { nx := nx, rt := rt, bk := bk, ct := ct, ex := ex } ep st') (fun _ => b { nx := nx, rt := rt, bk := bk, ct := ct, ex := ex } ep st')) (fun x st' => ex x ep st')) : wIf ta a b { nx := nx, rt := rt, bk := bk, ct := ct, ex := ex } ep st := h
theorem s_par {nx rt bk ct ex} (h : wa ep st (fun x st1 => wb ep st1 (fun y st2 => nx ((ep.set i (some x)).set j (some y)) st2) (fun x st' => ex x ep st')) (fun x st' => ex x ep st')) : wPar i j wa wb { nx := nx, rt := rt, bk := bk, ct := ct, ex := ex } ep st := h
theorem s_asg {g : DG} {nx rt bk ct ex} (h : wa ep st (fun d st' => g d ep st' nx) (fun x st' => ex x ep st')) : wAsg wa g { nx := nx, rt := rt, bk := bk, ct := ct, ex := ex } ep st := h
theorem s_for {wi : WI} {g : DG} {nx rt bk ct ex} (h : wi ep st (fun items G st' => forL g b G { nx := nx, rt := rt, bk := bk, ct := ct, ex := ex } items ep st') (fun x st' => ex x ep st')) : wFor wi g b { nx := nx, rt := rt, bk := bk, ct := ct, ex := ex } ep st := h
theorem s_aug {v : D} {nx rt bk ct ex} (e : lk ep i = some v) (h : wa ep st (fun y st1 => f v y st1 (fun z st2 => nx (ep.set i (some z)) st2)) (fun x st' => ex x ep st')) : wAug i f wa { nx := nx, rt := rt, bk := bk, ct := ct, ex := ex } ep st := by
  unfold wAug; rw [e]; exact h
theorem s_augix {nx rt bk ct ex} (h : wa ep st (fun o st1 => wb ep st1 (fun i st2 => asRI o i fun a z => 0 ≤ z ∧ getL st2 a fun ds => optP (atI ds z) fun x => wc ep st2 (fun y st3 => f x y st3 (fun v st4 => setD (.ref a) (.int z) v st4 (fun st5 => nx ep st5))) (fun x st' => ex x ep st')) (fun x st' => ex x ep st')) (fun x st' => ex x ep st')) : wAugIx f wa wb wc { nx := nx, rt := rt, bk := bk, ct := ct, ex := ex } ep st := h
theorem s_gN {kk : DE → DS → Prop} (h : kk (ep.set i (some d)) st) : gN i d ep st kk := h
theorem s_gT {n : Nat} {u : DGs} {ds : List D} {kk : DE → DS → Prop} (e : ds.length = n) (h : u ds ep st kk) : gT n u (.tup ds) ep st kk := ⟨e, h⟩
theorem s_gsC {g : DG} {u : DGs} {ds : List D} {kk : DE → DS → Prop} (h : g d ep st (fun ep' st' => u ds ep' st' kk)) : gsCons g u (d :: ds) ep st kk := h
theorem s_gsN {kk : DE → DS → Prop} (h : kk ep st) : gsNil [] ep st kk := h
theorem s_gIx {ff : D → D → D → DS → (DS → Prop) → Prop} {kk : DE → DS → Prop} (h : wa ep st (fun o st1 => wb ep st1 (fun i st2 => ff o i d st2 (fun st3 => kk ep st3)) (fun _ _ => False)) (fun _ _ => False)) : gIx ff wa wb d ep st kk := h
theorem s_setD {z : Int} {p : Addr} {q : DS → Prop} (h : getL st p fun ds => optP (ixN ds.length z) fun j => q (put st p (.lst (ds.set j d)))) : setD (.ref p) (.int z) d st q := h
-- expressions
theorem s_var (e : lk ep i = some d) (h : R d st) : wVar i ep st R Rx := by unfold wVar; rw [e]; exact h
theorem s_c (h : R d st) : wC d ep st R Rx := h
theorem s_bin (h : wa ep st (fun x st1 => wb ep st1 (fun y st2 => f x y st2 R) Rx) Rx) : wBin f wa wb ep st R Rx := h
theorem s_binT (h : wa ep st (fun x st1 => wb ep st1 (fun y st2 => f x y st2 (fun d st' => asB d fun b => RT b st')) Rx) Rx) : wBinT f wa wb ep st RT Rx := h
theorem s_cb {ff : FC} (h : as ep st (fun ds st' => ff ds st' R) Rx) : wCB ff as ep st R Rx := h
theorem s_call {S : SpD} (h : as ep st (fun ds st' => S ds st' R Rx) Rx) : wCall S as ep st R Rx := h
theorem s_acons (h : wa ep st (fun d st1 => as ep st1 (fun ds st2 => RA (d :: ds) st2) Rx) Rx) : wACons wa as ep st RA Rx := h
theorem s_anil (h : RA [] st) : wANil ep st RA Rx := h
def tupK (R : RD) : List D → DS → Prop := fun ds st' => R (.tup ds) st' ∨ ∃ ks : List L2.Key, ds = ks.map kD ∧ R (.key ks) st'
theorem s_tup (h : as ep st (tupK R) Rx) : wTup as ep st R Rx := h
theorem s_tpT {R : RD} {ds : List D} (h : R (.tup ds) st) : tupK R ds st := .inl h
theorem s_tpII {R : RD} {i j : Int} (h : R (.key [.inl i, .inl j]) st) : tupK R [.int i, .int j] st := .inr ⟨[.inl i, .inl j], rfl, h⟩
theorem s_tpIII {R : RD} {i j k : Int} (h : R (.key [.inl i, .inl j, .inl k]) st) : tupK R [.int i, .int j, .int k] st := .inr ⟨[.inl i, .inl j, .inl k], rfl, h⟩
theorem s_tpKey {R : RD} {ks : List L2.Key} {ds : List D} (e : ds = ks.map kD) (h : R (.key ks) st) : tupK R ds st := .inr ⟨ks, e, h⟩
theorem s_lst (h : as ep st (fun ds st' => ∀ p, st' p = none → R (.ref p) (put st' p (.lst ds))) Rx) : wLst as ep st R Rx := h
theorem s_b (h : wa ep st (fun d st' => asB d fun b => RT b st') Rx) : wB wa ep st RT Rx := h
theorem s_and (h : ta ep st (fun c st' => cnd c (fun _ => tb ep st' RT Rx) (fun _ => RT false st')) Rx) : wAnd ta tb ep st RT Rx := h
theorem s_or (h : ta ep st (fun c st' => cnd c (fun _ => RT true st') (fun _ => tb ep st' RT Rx)) Rx) : wOr ta tb ep st RT Rx := h
theorem s_not (h : ta ep st (fun c st' => RT (!c) st') Rx) : wNot ta ep st RT Rx := h
theorem s_ife (h : ta ep st (fun t st' => cnd t (fun _ => wa ep st' R Rx) (fun _ => wb ep st' R Rx)) Rx) : wIfE ta wa wb ep st R Rx := h
theorem s_neg (h : wa ep st (fun d st' => asI d fun i => R (.int (-i)) st') Rx) : wNeg wa ep st R Rx := h
theorem s_notV (h : wa ep st (fun d st' => asB d fun c => R (.bl (!c)) st') Rx) : wNotV wa ep st R Rx := h
theorem s_andV (h : wB wa ep st (fun c st' => cnd c (fun _ => wb ep st' R Rx) (fun _ => R (.bl false) st')) Rx) : wAndV wa wb ep st R Rx := h
theorem s_orV (h : wB wa ep st (fun c st' => cnd c (fun _ => R (.bl true) st') (fun _ => wb ep st' R Rx)) Rx) : wOrV wa wb ep st R Rx := h
theorem s_none {neg : Bool} (h : wa ep st (fun d st' => R (.bl (if neg = true then !d.isNon else d.isNon)) st') Rx) : wNone neg wa ep st R Rx := h
theorem s_noneT {neg : Bool} (h : wa ep st (fun d st' => RT (if neg = true then !d.isNon else d.isNon) st') Rx) : wNoneT neg wa ep st RT Rx := h
theorem s_isi {T : Ty5} (h : wa ep st (fun d st' => lstOk d st' ∧ R (.bl (isTy T d)) st') Rx) : wIsi T wa ep st R Rx := h
theorem s_m {ff : FM} (h : wa ep st (fun o st1 => isLst o st1 ∧ as ep st1 (fun ds st2 => ff o ds st2 R) Rx) Rx) : wM ff wa as ep st R Rx := h
theorem s_sl {wl wh : WO} (h : wa ep st (fun x st1 => wl ep st1 (fun lo st2 => wh ep st2 (fun hi st3 => slD x lo hi st3 R) Rx) Rx) Rx) : wSl wa wl wh ep st R Rx := h
theorem s_oN {RO : Option Int → DS → Prop} (h : RO none st) : wONone ep st RO Rx := h
theorem s_oS {RO : Option Int → DS → Prop} (h : wa ep st (fun d st' => asI d fun i => RO (some i) st') Rx) : wOSome wa ep st RO Rx := h
theorem s_lc {wi : WI} {bind : D → DE → (DE → Prop) → Prop} {vs : List Nat} (h : wi ep st (fun items G st' => lcL bind (wipeD ep vs) ta wa G (fun acc st2 => ∀ p, st2 p = none → R (.ref p) (put st2 p (.lst acc))) items [] st') Rx) : wLc wi bind vs ta wa ep st R Rx := h
theorem s_it {RR : List D → (DS → Prop) → DS → Prop} (h : wa ep st (fun d st' => itemsD d st' RR) Rx) : wIt wa ep st RR Rx := h
theorem s_rng {RR : List D → (DS → Prop) → DS → Prop} (h : as ep st (fun ds st' => rngD ds st' RR) Rx) : wRng as ep st RR Rx := h
theorem s_yes (h : RT true st) : wYes ep st RT Rx := h
-- decisions
theorem s_cT (h : A ()) : cnd true A B := by rw [cnd_true]; exact h
theorem s_cF (h : B ()) : cnd false A B := by rw [cnd_false]; exact h
theorem s_dec {p : Prop} [Decidable p] (h1 : p → A ()) (h2 : ¬ p → B ()) : cnd (decide p) A B := ⟨fun e => h1 (of_decide_eq_true e), fun e => h2 (of_decide_eq_false e)⟩
theorem s_ndec {p : Prop} [Decidable p] (h1 : ¬ p → A ()) (h2 : p → B ()) : cnd (!decide p) A B := by
  rw [cnd_not]; exact s_dec h2 h1
theorem s_yesP {p : Prop} [Decidable p] (e : p) (h : A ()) : cnd (decide p) A B := by rw [decide_eq_true e]; exact s_cT h
theorem s_noP {p : Prop} [Decidable p] (e : ¬ p) (h : B ()) : cnd (decide p) A B := by rw [decide_eq_false e]; exact s_cF h
theorem s_nyesP {p : Prop} [Decidable p] (e : ¬ p) (h : A ()) : cnd (!decide p) A B := by rw [decide_eq_false e]; exact s_cT h
theorem s_nnoP {p : Prop} [Decidable p] (e : p) (h : B ()) : cnd (!decide p) A B := by rw [decide_eq_true e]; exact s_cF h
theorem s_b2 {t : Bool} (h1 : t = true → A ()) (h2 : t = false → B ()) : cnd t A B := ⟨h1, h2⟩
-- look-ups
theorem s_getL {p : Addr} {q : List D → Prop} {ds : List D} (e : st p = some (.lst ds)) (h : q ds) : getL st p q := by rw [getL_eq e]; exact h
theorem s_opt {α : Type} {o : Option α} {z : α} {q : α → Prop} (e : o = some z) (h : q z) : optP o q := by rw [e]; exact h
theorem look_ne {p q : Addr} {o : OB} {z : Option OB} (n : q ≠ p) (e : st q = z) : put st p o q = z := by rw [put_ne n]; exact e
theorem look_new {p q : Addr} {o u : OB} (n : st p = none) (e : st q = some u) : put st p o q = some u := by
  rw [put_ne (fun z => by rw [z, n] at e; cases e)]; exact e
theorem ne_new {p q : Addr} {u : OB} (n : st p = none) (e : st q = some u) : q ≠ p := fun z => by rw [z, n] at e; cases e
-- operations
theorem s_addI {m n : Int} (h : R (.int (m + n)) st) : addD (.int m) (.int n) st R := h
theorem s_addT {m n : List D} (e : m.length + n.length ≤ sizeLine) (h : R (.tup (m ++ n)) st) : addD (.tup m) (.tup n) st R := ⟨e, h⟩
theorem s_addS {m n : Str} (e : m.length + n.length ≤ sizeLine) (h : R (.str (m ++ n)) st) : addD (.str m) (.str n) st R := ⟨e, h⟩
theorem s_subI {m n : Int} (h : R (.int (m - n)) st) : subD (.int m) (.int n) st R := h
theorem s_mulI {m n : Int} (e : MulOk m n) (h : R (.int (m * n)) st) : mulD (.int m) (.int n) st R := ⟨e, h⟩
theorem s_divI {m n : Int} (e : 0 < n ∧ n.natAbs.log2 < 9000) (h : R (.int (m / n)) st) : divD (.int m) (.int n) st R := ⟨e, h⟩
theorem s_modI {m n : Int} (e : 0 < n) (h : R (.int (m % n)) st) : modD (.int m) (.int n) st R := ⟨e, h⟩
theorem s_powI {m n : Int} (e : CPow m n) (h : R (.int (m ^ n.toNat)) st) : powD (.int m) (.int n) st R := ⟨e, h⟩
theorem s_shlI {m n : Int} (e : CPow m n) (h : R (.int (m * 2 ^ n.toNat)) st) : shlD (.int m) (.int n) st R := ⟨e, h⟩
theorem s_iaddI {m n : Int} (h : R (.int (m + n)) st) : iaddD (.int m) (.int n) st R := h
theorem s_iaddS {m n : Str} (e : m.length + n.length ≤ sizeLine) (h : R (.str (m ++ n)) st) : iaddD (.str m) (.str n) st R := ⟨e, h⟩
theorem s_eqI {m n : Int} (h : R (.bl (decide (m = n))) st) : eqD (.int m) (.int n) st R := h
theorem s_neI {m n : Int} (h : R (.bl (!decide (m = n))) st) : neD (.int m) (.int n) st R := h
theorem s_eqS {m n : Str} (h : R (.bl (decide (m = n))) st) : eqD (.str m) (.str n) st R := h
theorem s_neS {m n : Str} (h : R (.bl (!decide (m = n))) st) : neD (.str m) (.str n) st R := h
theorem s_eqB {m n : Bool} (h : R (.bl (decide (m = n))) st) : eqD (.bl m) (.bl n) st R := h
theorem s_neB {m n : Bool} (h : R (.bl (!decide (m = n))) st) : neD (.bl m) (.bl n) st R := h
theorem s_cmp {p : Int → Int → Bool} {m n : Int} (h : R (.bl (p m n)) st) : cmpD p (.int m) (.int n) st R := h
theorem s_ixT {ds : List D} {z : Int} (h : optP (atI ds z) fun d => R d st) : ixD (.tup ds) (.int z) st R := h
theorem s_ixS {ds : List D} {z : Int} (h : optP (atI ds z) fun d => R d st) : ixD (.scr ds) (.int z) st R := h
theorem s_ixL {p : Addr} {z : Int} (h : getL st p fun ds => optP (atI ds z) fun d => R d st) : ixD (.ref p) (.int z) st R := h
theorem s_ixX {s : Str} {z : Int} (e : s.length ≤ sizeLine) (h : optP (atI s.cps.toList z) fun c => R (.str ⟨#[c]⟩) st) : ixD (.str s) (.int z) st R := ⟨e, h⟩
theorem s_lenT {ds : List D} (h : R (.int ds.length) st) : lenD [.tup ds] st R := h
theorem s_lenC {ds : List D} (h : R (.int ds.length) st) : lenD [.scr ds] st R := h
theorem s_lenL {p : Addr} (h : getL st p fun es => R (.int es.length) st) : lenD [.ref p] st R := h
theorem s_lenS {s : Str} (e : s.length ≤ sizeLine) (h : R (.int s.length) st) : lenD [.str s] st R := ⟨e, h⟩
theorem s_abs {m : Int} (h : R (.int (if m < 0 then -m else m)) st) : absD [.int m] st R := h
theorem s_intI {m : Int} (h : R (.int m) st) : intD [.int m] st R := h
theorem s_intB {m : Bool} (h : R (.int (if m = true then 1 else 0)) st) : intD [.bl m] st R := h
theorem s_gcd {m n : Int} (h : R (.int ((Nat.gcd m.natAbs n.natAbs : Nat) : Int)) st) : gcdD [.int m, .int n] st R := h
theorem s_listT {ds : List D} (h : ∀ p, st p = none → R (.ref p) (put st p (.lst ds))) : listD [.tup ds] st R := h
theorem s_listL {p : Addr} (h : getL st p fun es => ∀ p, st p = none → R (.ref p) (put st p (.lst es))) : listD [.ref p] st R := h
theorem s_tupT {ds : List D} (h : R (.tup ds) st) : tupleD [.tup ds] st R := h
theorem s_tupL {p : Addr} (h : getL st p fun es => R (.tup es) st) : tupleD [.ref p] st R := h
theorem s_all {p : Addr} (h : getL st p fun es => optP (boolsOf es) fun bs => R (.bl (bs.all fun b => b)) st) : allD [.ref p] st R := h
theorem s_any {p : Addr} (h : getL st p fun es => optP (boolsOf es) fun bs => R (.bl (bs.any fun b => b)) st) : anyD [.ref p] st R := h
theorem s_sum {p : Addr} (h : getL st p fun es => optP (intsOf es) fun ns => R (.int ns.sum) st) : sumD [.ref p] st R := h
theorem s_inL {neg : Bool} {v : D} {p : Addr} (h : getL st p fun ds => v.flat = true ∧ ds.all D.flat = true ∧ R (.bl (if neg = true then !(ds.any fun d => D.feq d v) else ds.any fun d => D.feq d v)) st) : inD neg v (.ref p) st R := h
theorem s_inT {neg : Bool} {v : D} {ds : List D} (h : v.flat = true ∧ ds.all D.flat = true ∧ R (.bl (if neg = true then !(ds.any fun d => D.feq d v) else ds.any fun d => D.feq d v)) st) : inD neg v (.tup ds) st R := h
theorem s_append {p : Addr} (h : getL st p fun es => es.length < sizeLine ∧ R .non (put st p (.lst (es ++ [d])))) : appendD (.ref p) [d] st R := h
theorem s_extend {p q : Addr} (h : getL st p fun es => getL st q fun fs => es.length + fs.length ≤ sizeLine ∧ R .non (put st p (.lst (es ++ fs)))) : extendD (.ref p) [.ref q] st R := h
theorem s_popAt {p : Addr} {z : Int} (h : getL st p fun es => (-(2 ^ 63) ≤ z ∧ z < 2 ^ 63) ∧ optP (ixN es.length z) fun k => optP es[k]? fun d => R d (put st p (.lst (es.eraseIdx k)))) : popD (.ref p) [.int z] st R := h
theorem s_pop {p : Addr} (h : getL st p fun es => optP es[es.length - 1]? fun d => R d (put st p (.lst es.dropLast))) : popD (.ref p) [] st R := h
theorem s_slT {ds : List D} {lo hi : Option Int} (h : R (.tup (cutD ds lo hi)) st) : slD (.tup ds) lo hi st R := h
theorem s_slL {p : Addr} {lo hi : Option Int} (h : getL st p fun ds => ∀ p, st p = none → R (.ref p) (put st p (.lst (cutD ds lo hi)))) : slD (.ref p) lo hi st R := h
theorem s_itT {ds : List D} {RR : List D → (DS → Prop) → DS → Prop} (h : RR ds (fun _ => True) st) : itemsD (.tup ds) st RR := h
theorem s_itC {ds : List D} {RR : List D → (DS → Prop) → DS → Prop} (h : RR ds (fun _ => True) st) : itemsD (.scr ds) st RR := h
theorem s_itL {p : Addr} {RR : List D → (DS → Prop) → DS → Prop} (h : getL st p fun ds => RR ds (fun s => s p = some (.lst ds)) st) : itemsD (.ref p) st RR := h
theorem s_rng1 {z : Int} {RR : List D → (DS → Prop) → DS → Prop} (e : -(2 ^ 62) ≤ z ∧ z < 2 ^ 62) (h : RR ((List.range z.toNat).map fun i : Nat => D.int (0 + i)) (fun _ => True) st) : rngD [.int z] st RR := ⟨e, h⟩
theorem s_rng2 {y z : Int} {RR : List D → (DS → Prop) → DS → Prop} (e : -(2 ^ 62) ≤ y ∧ y < 2 ^ 62 ∧ -(2 ^ 62) ≤ z ∧ z < 2 ^ 62) (h : RR ((List.range (z - y).toNat).map fun i : Nat => D.int (y + i)) (fun _ => True) st) : rngD [.int y, .int z] st RR := ⟨e, h⟩
theorem s_rngD {y z : Int} {RR : List D → (DS → Prop) → DS → Prop} (e : -(2 ^ 62) ≤ y ∧ y < 2 ^ 62 ∧ -(2 ^ 62) ≤ z ∧ z < 2 ^ 62) (h : RR ((List.range (y - z).toNat).map fun i : Nat => D.int (y + i * (-1))) (fun _ => True) st) : rngD [.int y, .int z, .int (-1)] st RR :=
  ⟨_, RgC.neg e.1 e.2.1 e.2.2.1 e.2.2.2, h⟩
/-- the end of a def's body -/
theorem s_end {R : RD} (h : R d st) : ∃ s2, Sub s2 st ∧ R d s2 := ⟨st, .refl _, h⟩
theorem s_endS {R : RD} {s2 : DS} (e : Sub s2 st) (h : R d s2) : ∃ s2, Sub s2 st ∧ R d s2 := ⟨s2, e, h⟩
end
end DL

/-! Loops and comprehensions, by induction. -/
namespace DL
open PySem L2
section
variable {g : DG} {b : WS} {G : DS → Prop} {E : Ed} {ep : DE} {st : DS} {d : D} {r items : List D}
theorem for_nil (hG : G st) (h : E.nx ep st) : forL g b G E [] ep st := ⟨hG, h⟩
theorem for_cons {nx rt bk ct ex} (hG : G st) (h : g d ep st (fun ep' st' => b { nx := forL g b G { nx := nx, rt := rt, bk := bk, ct := ct, ex := ex } r, rt := rt, bk := nx, ct := forL g b G { nx := nx, rt := rt, bk := bk, ct := ct, ex := ex } r, ex := ex } ep' st')) : forL g b G { nx := nx, rt := rt, bk := bk, ct := ct, ex := ex } (d :: r) ep st := ⟨hG, h⟩
/-- a loop by an invariant over what is left -/
theorem for_ind {nx rt bk ct ex} (I : List D → DE → DS → Prop) (h0 : ∀ ep st, I [] ep st → G st ∧ nx ep st)
    (hs : ∀ d r ep st, I (d :: r) ep st → (∀ ep' st', I r ep' st' → forL g b G { nx := nx, rt := rt, bk := bk, ct := ct, ex := ex } r ep' st') → G st ∧ g d ep st (fun ep' st' => b { nx := forL g b G { nx := nx, rt := rt, bk := bk, ct := ct, ex := ex } r, rt := rt, bk := nx, ct := forL g b G { nx := nx, rt := rt, bk := bk, ct := ct, ex := ex } r, ex := ex } ep' st')) :
    ∀ items ep st, I items ep st → forL g b G { nx := nx, rt := rt, bk := bk, ct := ct, ex := ex } items ep st := by
  intro items
  induction items with
  | nil => exact fun ep st i => h0 ep st i
  | cons d r ih => exact fun ep st i => hs d r ep st i ih
end
section
variable {bind : D → DE → (DE → Prop) → Prop} {ep0 ep : DE} {wt : WT} {we : WE} {G : DS → Prop} {k : List D → DS → Prop} {d : D} {r acc items : List D} {st : DS} {q : DE → Prop} {i : Nat}
theorem lc_nil (hG : G st) (h : k acc st) : lcL bind ep0 wt we G k [] acc st := ⟨hG, h⟩
theorem lc_cons (hG : G st) (h : bind d ep0 fun ep => wt ep st (fun b st2 => cnd b (fun _ => we ep st2 (fun y st3 => acc.length < sizeLine ∧ lcL bind ep0 wt we G k r (acc ++ [y]) st3) (fun _ _ => False)) (fun _ => lcL bind ep0 wt we G k r acc st2)) (fun _ _ => False)) :
    lcL bind ep0 wt we G k (d :: r) acc st := ⟨hG, h⟩
theorem s_bN (h : q (ep.set i (some d))) : bN i d ep q := h
theorem s_bT {is : List Nat} {ds : List D} (h : bTn is ds ep q) : bT is (.tup ds) ep q := h
theorem s_bTC {is : List Nat} {ds : List D} (h : bTn is ds (ep.set i (some d)) q) : bTn (i :: is) (d :: ds) ep q := h
theorem s_bTN (h : q ep) : bTn [] [] ep q := h
/-- a comprehension whose turns leave the store as it is -/
theorem lc_calm (f : D → D) (p : D → Bool) (hG : G st) (hl : acc.length + items.length ≤ sizeLine)
    (hs : ∀ d ∈ items, ∀ (kk : D → DS → Prop) (kn : DS → Prop), (p d = true → kk (f d) st) → (p d = false → kn st) → bind d ep0 fun ep => wt ep st (fun b st2 => cnd b (fun _ => we ep st2 kk (fun _ _ => False)) (fun _ => kn st2)) (fun _ _ => False))
    (h : k (acc ++ (items.filter p).map f) st) : lcL bind ep0 wt we G k items acc st := by
  induction items generalizing acc with
  | nil => exact ⟨hG, by simpa using h⟩
  | cons d r ih =>
    refine ⟨hG, hs d List.mem_cons_self _ _ (fun e => ?_) (fun e => ?_)⟩
    · refine ⟨by simp only [List.length_cons] at hl; omega, ih (by simp only [List.length_cons, List.length_append, List.length_nil] at hl ⊢; omega) (fun d hd => hs d (List.mem_cons_of_mem _ hd)) ?_⟩
      rw [List.filter_cons_of_pos e] at h
      simpa using h
    · refine ih (by simp only [List.length_cons] at hl; omega) (fun d hd => hs d (List.mem_cons_of_mem _ hd)) ?_
      rw [List.filter_cons_of_neg (by rw [e]; decide)] at h
      exact h
/-- a comprehension by an invariant -/
theorem lc_ind (I : List D → List D → DS → Prop) (h0 : ∀ acc st, I [] acc st → G st ∧ k acc st)
    (hs : ∀ d r acc st, I (d :: r) acc st → (∀ acc' st', I r acc' st' → lcL bind ep0 wt we G k r acc' st') → G st ∧ bind d ep0 fun ep => wt ep st (fun b st2 => cnd b (fun _ => we ep st2 (fun y st3 => acc.length < sizeLine ∧ lcL bind ep0 wt we G k r (acc ++ [y]) st3) (fun _ _ => False)) (fun _ => lcL bind ep0 wt we G k r acc st2)) (fun _ _ => False)) :
    ∀ items acc st, I items acc st → lcL bind ep0 wt we G k items acc st := by
  intro items
  induction items with
  | nil => exact fun acc st i => h0 acc st i
  | cons d r ih => exact fun acc st i => hs d r acc st i ih
end
theorem s_isLst {p : Addr} {st : DS} {Q : Prop} {ds : List D} (e : st p = some (.lst ds)) (h : Q) : isLst (.ref p) st ∧ Q := ⟨by unfold isLst; exact s_getL e trivial, h⟩
theorem s_lstOkL {p : Addr} {st : DS} {Q : Prop} {ds : List D} (e : st p = some (.lst ds)) (h : Q) : lstOk (.ref p) st ∧ Q := ⟨by unfold lstOk; exact s_getL e trivial, h⟩
end DL

/-! enumerate and zip over lists and tuples, mixed. -/
namespace DL
open PySem PySem.Spec PyProof.Rows L2
/-- t: a tuple; otherwise a list -/
def IterAt (t : Bool) (h : Heap) (it a : Addr) (i : Nat) : Prop := if t = true then h.IsTupleIter it a i else h.IsListIter it a i
def SeqAt (t : Bool) (h : Heap) (a : Addr) (its : Array Value) : Prop := if t = true then h.IsTuple a its else h.IsList a its
def SqB (t : Bool) (K : PySem.W.Frag) (H : Hp) (a : Addr) (xs : List V) : Prop := if t = true then SqT K H a xs else SqL K H a xs
def iterObj (t : Bool) (a : Addr) : Obj := { cls := .type (if t = true then "tuple_iterator" else "list_iterator"), data := .fields #[.ref a, .int 0 0] }
theorem drawsB {prog : Program} {w : World} {A : Around} (t : Bool) (hh : A.handled = none) {it a : Addr} (hne : a ≠ it) (its : Array Value) :
    Draws prog w A it [it, a] its.size (fun i v => its[i]? = some v) (fun i h => IterAt t h it a i ∧ SeqAt t h a its) := by
  cases t
  · exact Draws.list hh it a hne its
  · exact Draws.tuple hh it a hne its
theorem beginsB (t : Bool) (a : Addr) (its : Array Value) : Begins (.ref a) (iterObj t a) fun h => SeqAt t h a its := by
  cases t
  · exact begins_list a its
  · exact begins_tuple a its
theorem IterAt.new {t : Bool} {h : Heap} {it a : Addr} (e : h.get? it = some (iterObj t a)) : IterAt t h it a 0 := by
  cases t
  · exact ⟨_, e, rfl, rfl⟩
  · exact ⟨_, e, rfl, rfl⟩
theorem IterAt.obj {t : Bool} {h : Heap} {it a : Addr} {i : Nat} (st : IterAt t h it a i) : ∃ o, h.get? it = some o ∧ ∀ v, o.data ≠ .cell v := by
  cases t
  · obtain ⟨o, e, -, d⟩ := st
    exact ⟨o, e, fun v z => by rw [d] at z; cases z⟩
  · obtain ⟨o, e, -, d⟩ := st
    exact ⟨o, e, fun v z => by rw [d] at z; cases z⟩
theorem IterAt.keeps {t : Bool} {h h' : Heap} {it a : Addr} {i : Nat} (st : IterAt t h it a i) (k : ∀ o, h.get? it = some o → h'.get? it = some o) : IterAt t h' it a i := by
  cases t
  · obtain ⟨o, e, r⟩ := st
    exact ⟨o, k o e, r⟩
  · obtain ⟨o, e, r⟩ := st
    exact ⟨o, k o e, r⟩
theorem sqB_items {X : Cx} {pins : List (Addr × Obj)} {sg : L2.St} {H : Hp} {s : Shared} {t : Bool} {a : Addr} {xs : List V} (I : Inv X pins sg H s) (h : SqB t X.K H a xs) : ∃ its : List Value, Vals xs its ∧ SeqAt t s.heap a its.toArray ∧ a < s.heap.objs.size := by
  cases t
  · obtain ⟨its, rv, p, _⟩ := I.list h
    exact ⟨its, rv, p.isList, p.lt⟩
  · obtain ⟨its, rv, p, _⟩ := I.tuple h
    have p' : s.heap.IsTuple a its.toArray := p
    obtain ⟨o, e, _⟩ := id p'
    exact ⟨its, rv, p', Heap.lt_size e⟩
theorem sqB_inj {X : Cx} {pins : List (Addr × Obj)} {sg : L2.St} {H : Hp} {s : Shared} {t : Bool} {a : Addr} {xs ys : List V} (I : Inv X pins sg H s) (h : SqB t X.K H a xs) (k : SqB t X.K H a ys) : xs = ys := by
  cases t
  · exact I.list_inj h k
  · exact I.tuple_inj h k
theorem IterAt.ne {t : Bool} {h : Heap} {it a : Addr} {i : Nat} {its : Array Value} (st : IterAt t h it a i) (sa : SeqAt t h a its) : a ≠ it := fun e => by
  subst e
  cases t
  · obtain ⟨o1, h1, c1, -⟩ := st
    obtain ⟨o2, h2, c2, -⟩ := sa
    rw [h1] at h2
    cases h2
    rw [c1] at c2
    exact absurd c2 (by decide)
  · obtain ⟨o1, h1, c1, -⟩ := st
    obtain ⟨o2, h2, c2, -⟩ := sa
    rw [h1] at h2
    cases h2
    rw [c1] at c2
    exact absurd c2 (by decide)
theorem two_out {c x y : Nat} (h1 : c ≠ x) (h2 : c ≠ y) : (c : Addr) ∉ [(x : Addr), y] := fun h => by
  rcases List.mem_cons.mp h with e | e
  · exact h1 e
  · exact h2 (List.mem_singleton.mp e)
theorem zip_sep {n a b : Nat} (la : a < n) (lb : b < n) : ZipSep2 (n + 4) (n + 2) (n + 3) n (n + 1) [n, a] [n + 1, b] where
  TIz := by show (n + 2 : Nat) ≠ n + 4; omega
  TOz := by show (n + 3 : Nat) ≠ n + 4; omega
  TITO := by show (n + 2 : Nat) ≠ n + 3; omega
  TIi1 := by show (n + 2 : Nat) ≠ n; omega
  mem1 := List.mem_cons_self
  zf1 := two_out (by omega) (by omega)
  Tf1 := two_out (by omega) (by omega)
  TIi2 := by show (n + 2 : Nat) ≠ n + 1; omega
  mem2 := List.mem_cons_self
  zf2 := two_out (by omega) (by omega)
  Tf2 := two_out (by omega) (by omega)
  sep1_2 := two_out (by omega) (by omega)
  sep2_1 := two_out (by omega) (by omega)
theorem five_le {n c : Nat} (h : (c : Addr) = n + 4 ∨ (c : Addr) = n + 2 ∨ (c : Addr) = n + 3 ∨ (c : Addr) = n ∨ (c : Addr) = n + 1) : n ≤ c := by
  have h' : c = n + 4 ∨ c = n + 2 ∨ c = n + 3 ∨ c = n ∨ c = n + 1 := h
  omega
def EnI (t : Bool) (K : PySem.W.Frag) (a : Addr) : It :=
  ⟨fun i H => ∃ xs x, SqB t K H a xs ∧ xs[i]? = some x, fun i H v H' => ∃ T x, v = .ref T ∧ H T = none ∧ H' = upd H T (.tup [.int (i : Nat), x]) ∧ ∀ xs, SqB t K H a xs → xs[i]? = some x, fun i H => ∃ xs, SqB t K H a xs ∧ xs.length = i⟩
theorem turn_en {P : Program} {w : World} {K : PySem.W.Frag} {elts : List Expr} {kk : Nat} {tpos : Pos} (t : Bool) (a e it : Addr) (n1 : e ≠ it) (n2 : a ≠ it) (n3 : e ≠ a) :
    Turn P w K (.Tuple elts kk tpos) (EnI t K a) [e, it] e (fun i h => (∃ old, IsEnum h e it ((i : Nat) : Int) old) ∧ IterAt t h it a i) where
  mem := List.mem_cons_self
  obj := fun i h st c hc => by
    obtain ⟨⟨old, he⟩, hi⟩ := st
    rcases List.mem_cons.mp hc with q | q
    · rw [q]; exact ⟨_, he, fun v z => by cases z⟩
    · rw [List.mem_singleton.mp q]; exact hi.obj
  keep := fun i h h' st k => ⟨st.1.imp fun _ he => k e List.mem_cons_self _ he, st.2.keeps fun o q => k it (List.mem_cons_of_mem _ List.mem_cons_self) o q⟩
  item := by
    intro X hP hw hK hc i pins s sg H E I fr st go
    subst hP hw hK
    obtain ⟨⟨old, he⟩, hi⟩ := st
    obtain ⟨xs, x, sq, hx⟩ := go
    obtain ⟨its, rv, sa, la⟩ := sqB_items I sq
    obtain ⟨u, hu, ru⟩ := rv.get hx
    have lt_e : e < s.heap.objs.size := Heap.lt_size he
    have lt_i : it < s.heap.objs.size := by obtain ⟨_, q, _⟩ := hi.obj; exact Heap.lt_size q
    have hui : its.toArray[i]? = some u := by simpa using hu
    have hlt : i < its.toArray.size := (Array.getElem?_eq_some_iff.mp hui).1
    refine wpAny_pyNext_enum_itemD (drawsB t (A := X.A.in1) (show X.A.in1.handled = none from I.ok.hd hc) n2 its.toArray) he ⟨hi, sa⟩ hlt n1 (by simp [n1, n3]) fun y h' tk hy ho st' hT hsz keep => ?_
    have ey : y = u := Option.some.inj (hy.symm.trans hui)
    subst ey
    refine ⟨_, rfl, wpAny_letOwnedTupleGo_enum (s := { s with heap := h', toks := tk + 1 }) ho fun h2 he2 sb => ?_⟩
    have hT' : h2.get? s.heap.objs.size = some { cls := .type "tuple", data := .seq #[.int i tk, y] } := (sb.2 _ (Nat.ne_of_gt lt_e)).trans hT
    have born : ObjOk X.prog X.w (upd H s.heap.objs.size (.tup [.int (i : Nat), x])) h2 s.heap.objs.size (.tup [.int (i : Nat), x]) := ⟨(by decide : 2 ≤ sizeLine), [.int i tk, y], .cons ⟨_, rfl⟩ (.cons ru .nil), ⟨_, hT', rfl, _, rfl⟩⟩
    have J : Inv X pins sg (upd H s.heap.objs.size (.tup [.int (i : Nat), x])) { s with heap := h2, toks := tk + 1 } :=
      Inv.turnedNew (ch := [e, it]) I (fun c o nc q => (sb.2 c (fun z => nc (z ▸ List.mem_cons_self))).trans (keep c o (fun z => nc (z ▸ List.mem_cons_self)) (fun z => nc (z ▸ List.mem_cons_of_mem _ List.mem_cons_self)) q)) fr (Nat.le_refl _) born
    refine ⟨.ref s.heap.objs.size, _, J, rfl, ⟨_, x, rfl, I.hok.fresh (Nat.le_refl _), rfl, fun ys sy => sqB_inj I sq sy ▸ hx⟩, ⟨⟨y, ?_⟩, st'.1.keeps fun o q => (sb.2 it n1.symm).trans q⟩, fun c hc => ?_⟩
    · have z : ((i + 1 : Nat) : Int) = (i : Int) + 1 := by omega
      rw [z]; exact he2
    · have hl : c < s.heap.objs.size := by
        rcases List.mem_cons.mp hc with q | q
        · exact q ▸ lt_e
        · rw [List.mem_singleton.mp q]; exact lt_i
      rw [upd_ne (Nat.ne_of_lt hl)]
      exact (fr c hc).1
  done := by
    intro X hP hw hK hc i pins s sg H E I fr st go
    subst hP hw hK
    obtain ⟨⟨old, he⟩, hi⟩ := st
    obtain ⟨xs, sq, rfl⟩ := go
    obtain ⟨its, rv, sa, la⟩ := sqB_items I sq
    have hl : xs.length = its.toArray.size := by rw [List.size_toArray]; exact rv.length
    refine wpAny_pyNext_enum_endD (drawsB t (A := X.A.in1) (show X.A.in1.handled = none from I.ok.hd hc) n2 its.toArray) he ⟨hl ▸ hi, sa⟩ fun h' eb => ⟨rfl, ?_⟩
    exact Inv.turnedL (t' := s.toks) (ch := [e, it]) I (fun c o nc q => eb c o (fun z => nc (z ▸ List.mem_cons_of_mem _ List.mem_cons_self)) q) fr
  self := fun A i s Q E st h => by
    obtain ⟨⟨_, he⟩, _⟩ := st
    exact wpAny_pyIter_enum he h
theorem meets_en1 {v : Value} {o : Obj} {H : Heap → Prop} (B : Begins v o H) :
    Meets (Builtin.«enumerate.__new__» ⟨[.type "enumerate", v], []⟩) (fun _ R s => H s.heap ∧
      R (.ok (.ret (.ref (s.heap.push o).objs.size))) { s with heap := (s.heap.push o).push { cls := .type "enumerate", data := .fields #[.none, .bool false, .ref s.heap.objs.size, rawInt 0, .none, .none] } }) :=
  .of_wp fun prog w A R s h => by
    obtain ⟨hp, g, d, tk, os⟩ := s
    obtain ⟨h1, h⟩ := h
    have hsub := sub_enumerate
    have it : ∀ {A' : Around} {E Q : Value → Shared → Prop}, Q (.ref hp.objs.size) ⟨hp.push o, g, d, tk, os⟩ → wpAny (model prog w) A' (pyIter v) Q E ⟨hp, g, d, tk, os⟩ := fun q => B.iter prog w _ _ ⟨hp, g, d, tk, os⟩ _ h1 q
    wp_walk using it
    refine wpAny_stack_any fun st => wpAny_pure ?_
    split
    · rename_i c _ _ _ _ _
      cases (c == Value.type "enumerate")
      all_goals
        wp_walk using it
        exact ⟨_, rfl, h⟩
    · wp_walk using it
      exact ⟨_, rfl, h⟩
theorem call_en1 {prog : Program} {w : World} {A : Around} {E : Value → Shared → Prop} {s : Shared} {v : Value} {o : Obj} {H : Heap → Prop} {Q : Value → Shared → Prop} (B : Begins v o H) (h1 : H s.heap)
    (h : ∀ h', IsEnum h' (s.heap.objs.size + 1) s.heap.objs.size 0 .none → h'.get? s.heap.objs.size = some o → (∀ b o, s.heap.get? b = some o → h'.get? b = some o) → Q (.ref (s.heap.objs.size + 1)) { s with heap := h' }) :
    wpAny (model prog w) A (call (.type "enumerate") [v]) Q E s := by
  refine callType_new F.called_enumerate (by decide) (F.typeCall_enumerate_1 _) (F.newCall_enumerate_1 _) (fun obj => F.args_object_init_2 obj _) F.entry_enumerate_new (meets_en1 B) ⟨h1, ?_⟩
  have sz : (s.heap.push o).objs.size = s.heap.objs.size + 1 := Heap.size_push ..
  show _ ∧ _
  rw [sz]
  have he : IsEnum ((s.heap.push o).push { cls := .type "enumerate", data := .fields #[.none, .bool false, .ref s.heap.objs.size, rawInt 0, .none, .none] }) (s.heap.objs.size + 1) s.heap.objs.size 0 .none := by
    have z := Heap.get?_push_size (s.heap.push o) (o := { cls := .type "enumerate", data := .fields #[.none, .bool false, .ref s.heap.objs.size, rawInt 0, .none, .none] }) rfl
    rwa [sz] at z
  exact ⟨⟨_, he, rfl⟩, h _ he (Heap.get?_push_of_some _ (Heap.get?_push_size _ B.free)) fun c o x => Heap.get?_push_of_some _ (Heap.get?_push_of_some _ x)⟩
def iEn (K : PySem.W.Frag) (ta : TA) : TI := fun sg H R => ta sg H fun vs H1 => ∃ t a xs, vs = [.ref a] ∧ SqB t K H1 a xs ∧ R (EnI t K a) H1
theorem pi_en {X : Cx} {e : Expr} {ta : TA} {p pos tpos : Pos} {elts : List Expr} {kk : Nat} (hg : Gl X "enumerate") (hm : X.mg "enumerate" = none) (ha : PA X [e] ta) (hs : starEach [e] X.env = [(false, eval e X.env)] := by rfl) :
    PI X (.Tuple elts kk tpos) (.Call (.Name "enumerate" p) [e] [] pos) (iEn X.K ta) := by
  refine ⟨fun pins s sg H R I h => Call_ (ld_blt I hg hm boot_enumerate (PyProof.Rows.callWith_type1 (thn (ha.run pos pins s sg H _ I h) fun us s1 ⟨vs, H1, I1, r1, q1⟩ => ?_) hs rfl))⟩
  obtain ⟨t, a, xs, rfl, sq, q⟩ := q1
  cases r1 with
  | cons r rr =>
    cases rr
    cases r
    obtain ⟨its, rv, sa, la⟩ := sqB_items I1 sq
    refine call_en1 (beginsB t a its.toArray) sa fun h' he hi keep => wpAny_pyIter_enum he ?_
    have J : Inv X pins sg H1 { s1 with heap := h' } := I1.kept (t' := s1.toks) keep
    refine ⟨s1.heap.objs.size + 1, [s1.heap.objs.size + 1, s1.heap.objs.size], _, _, H1, rfl, J, turn_en t a _ _ (Nat.succ_ne_self _) (Nat.ne_of_lt la) (Nat.ne_of_gt (Nat.lt_succ_of_lt la)), ⟨⟨.none, he⟩, .new hi⟩, fun c hc => ?_, q⟩
    have hle : s1.heap.objs.size ≤ c := by
      rcases List.mem_cons.mp hc with z | z
      · rw [z]; exact Nat.le_succ _
      · rw [List.mem_singleton.mp z]; exact Nat.le_refl _
    exact I1.fpOk hle (I1.hok.fresh hle)
/-! zip -/
def ZpI (t u : Bool) (K : PySem.W.Frag) (a b : Addr) : It :=
  ⟨fun i H => ∃ xs ys x y, SqB t K H a xs ∧ SqB u K H b ys ∧ xs[i]? = some x ∧ ys[i]? = some y,
    fun i H v H' => ∃ T x y, v = .ref T ∧ H T = none ∧ H' = upd H T (.tup [x, y]) ∧ (∀ xs, SqB t K H a xs → xs[i]? = some x) ∧ ∀ ys, SqB u K H b ys → ys[i]? = some y,
    fun i H => ∃ xs ys, SqB t K H a xs ∧ SqB u K H b ys ∧ i ≤ xs.length ∧ i ≤ ys.length ∧ (i = xs.length ∨ i = ys.length)⟩
theorem turn_zp {P : Program} {w : World} {K : PySem.W.Frag} {elts : List Expr} {kk : Nat} {tpos : Pos} (t u : Bool) {a b z TI TO i1 i2 : Addr} (S : ZipSep2 z TI TO i1 i2 [i1, a] [i2, b]) :
    Turn P w K (.Tuple elts kk tpos) (ZpI t u K a b) [z, TI, TO, i1, i2] z (fun i h => IsZip h z TI TO .none ∧ IsTupOf2 h TI (.ref i1) (.ref i2) ∧ (∃ x y, IsTupOf2 h TO x y) ∧ IterAt t h i1 a i ∧ IterAt u h i2 b i) where
  mem := List.mem_cons_self
  obj := fun i h st c hc => by
    obtain ⟨hz, hI, ⟨x, y, hO⟩, s1, s2⟩ := st
    have e' : c = z ∨ c = TI ∨ c = TO ∨ c = i1 ∨ c = i2 := by simpa using hc
    rcases e' with rfl | rfl | rfl | rfl | rfl
    · exact ⟨_, hz, fun v q => by cases q⟩
    · exact ⟨_, hI, fun v q => by cases q⟩
    · exact ⟨_, hO, fun v q => by cases q⟩
    · exact s1.obj
    · exact s2.obj
  keep := fun i h h' st k => by
    obtain ⟨hz, hI, ⟨x, y, hO⟩, s1, s2⟩ := st
    exact ⟨k z (by simp) _ hz, k TI (by simp) _ hI, ⟨x, y, k TO (by simp) _ hO⟩, s1.keeps fun o q => k i1 (by simp) o q, s2.keeps fun o q => k i2 (by simp) o q⟩
  item := by
    intro X hP hw hK hc i pins s sg H E I fr st go
    subst hP hw hK
    obtain ⟨hz, hI, ⟨x0, y0, hO⟩, s1, s2⟩ := st
    obtain ⟨xs, ys, x, y, sq1, sq2, hx, hy⟩ := go
    obtain ⟨it1, rv1, sa1, la1⟩ := sqB_items I sq1
    obtain ⟨it2, rv2, sa2, la2⟩ := sqB_items I sq2
    obtain ⟨u1, hu1, ru1⟩ := rv1.get hx
    obtain ⟨u2, hu2, ru2⟩ := rv2.get hy
    have g1 : it1.toArray[i]? = some u1 := by simpa using hu1
    have g2 : it2.toArray[i]? = some u2 := by simpa using hu2
    have lz : z < s.heap.objs.size := Heap.lt_size hz
    have ai : a ≠ i1 := s1.ne sa1
    have bi : b ≠ i2 := s2.ne sa2
    refine wpAny_pyNext_zipD2_item S (drawsB t (A := X.A.in1) (show X.A.in1.handled = none from I.ok.hd hc) ai it1.toArray) (drawsB u (A := X.A.in1) (show X.A.in1.handled = none from I.ok.hd hc) bi it2.toArray) hz hI hO ⟨s1, sa1⟩ ⟨s2, sa2⟩
      (Array.getElem?_eq_some_iff.mp g1).1 (Array.getElem?_eq_some_iff.mp g2).1 fun x1 x2 h' tk e1 e2 hz' hO' st1 st2 hT hsz keep => ?_
    have q1 : x1 = u1 := Option.some.inj (e1.symm.trans g1)
    have q2 : x2 = u2 := Option.some.inj (e2.symm.trans g2)
    subst q1 q2
    refine ⟨_, rfl, wpAny_letOwnedTupleGo_zip (s := { s with heap := h', toks := tk }) hz' fun h2 hz2 sb => ?_⟩
    have hT' : h2.get? s.heap.objs.size = some { cls := .type "tuple", data := .seq #[x1, x2] } := (sb.2 _ (Nat.ne_of_gt lz)).trans hT
    have born : ObjOk X.prog X.w (upd H s.heap.objs.size (.tup [x, y])) h2 s.heap.objs.size (.tup [x, y]) := ⟨(by decide : 2 ≤ sizeLine), [x1, x2], .cons ru1 (.cons ru2 .nil), ⟨_, hT', rfl, _, rfl⟩⟩
    have J : Inv X pins sg (upd H s.heap.objs.size (.tup [x, y])) { s with heap := h2, toks := tk } :=
      Inv.turnedNew (ch := [z, TI, TO, i1, i2]) I (fun c o nc q => (sb.2 c (fun e => nc (by simp [e]))).trans (keep c o (fun e => nc (by simp [e])) (fun e => nc (by simp [e])) (fun e => nc (by simp [e])) (fun e => nc (by simp [e])) q)) fr (Nat.le_refl _) born
    refine ⟨.ref s.heap.objs.size, _, J, rfl, ⟨_, x, y, rfl, I.hok.fresh (Nat.le_refl _), rfl, fun l sl => sqB_inj I sq1 sl ▸ hx, fun l sl => sqB_inj I sq2 sl ▸ hy⟩, ⟨hz2, ?_, ⟨x1, x2, ?_⟩, st1.1.keeps fun o q => (sb.2 _ S.zi1.symm).trans q, st2.1.keeps fun o q => (sb.2 _ S.zi2.symm).trans q⟩, fun c hcm => ?_⟩
    · exact (sb.2 _ S.TIz).trans (keep _ _ S.TIz S.TITO S.TIi1 S.TIi2 hI)
    · exact (sb.2 _ S.TOz).trans hO'
    · have hl : c < s.heap.objs.size := by
        have e' : c = z ∨ c = TI ∨ c = TO ∨ c = i1 ∨ c = i2 := by simpa using hcm
        rcases e' with q | q | q | q | q
        · rw [q]; exact lz
        · rw [q]; exact Heap.lt_size hI
        · rw [q]; exact Heap.lt_size hO
        · rw [q]; obtain ⟨_, k, _⟩ := s1.obj; exact Heap.lt_size k
        · rw [q]; obtain ⟨_, k, _⟩ := s2.obj; exact Heap.lt_size k
      rw [upd_ne (Nat.ne_of_lt hl)]
      exact (fr c hcm).1
  done := by
    intro X hP hw hK hc i pins s sg H E I fr st go
    subst hP hw hK
    obtain ⟨hz, hI, ⟨x0, y0, hO⟩, s1, s2⟩ := st
    obtain ⟨xs, ys, sq1, sq2, k1, k2, k3⟩ := go
    obtain ⟨it1, rv1, sa1, la1⟩ := sqB_items I sq1
    obtain ⟨it2, rv2, sa2, la2⟩ := sqB_items I sq2
    have z1 : xs.length = it1.toArray.size := by rw [List.size_toArray]; exact rv1.length
    have z2 : ys.length = it2.toArray.size := by rw [List.size_toArray]; exact rv2.length
    have ai : a ≠ i1 := s1.ne sa1
    have bi : b ≠ i2 := s2.ne sa2
    refine wpAny_pyNext_zipD2_end S (drawsB t (A := X.A.in1) (show X.A.in1.handled = none from I.ok.hd hc) ai it1.toArray) (drawsB u (A := X.A.in1) (show X.A.in1.handled = none from I.ok.hd hc) bi it2.toArray) hz hI hO ⟨s1, sa1⟩ ⟨s2, sa2⟩ (z1 ▸ k1) (z2 ▸ k2) (by rw [← z1, ← z2]; exact k3) fun h' tk keep => ⟨rfl, ?_⟩
    exact Inv.turnedL (ch := [z, TI, TO, i1, i2]) I (fun c o nc q => keep c o (fun e => nc (by simp [e])) (fun e => nc (by simp [e])) (fun e => nc (by simp [e])) (fun e => nc (by simp [e])) q) fr
  self := fun A i s Q E st h => wpAny_pyIter_zip st.1 h
def iZp (K : PySem.W.Frag) (ta : TA) : TI := fun sg H R => ta sg H fun vs H1 => ∃ t u a b xs ys, vs = [.ref a, .ref b] ∧ SqB t K H1 a xs ∧ SqB u K H1 b ys ∧ R (ZpI t u K a b) H1
theorem pi_zp {X : Cx} {e e2 : Expr} {ta : TA} {p pos tpos : Pos} {elts : List Expr} {kk : Nat} (hg : Gl X "zip") (hm : X.mg "zip" = none) (ha : PA X [e, e2] ta)
    (hs : starEach [e, e2] X.env = (false, eval e X.env) :: starEach [e2] X.env := by rfl) (hpl : (backTo pos (starEach [e2] X.env)).any (·.1) = false := by rfl) :
    PI X (.Tuple elts kk tpos) (.Call (.Name "zip" p) [e, e2] [] pos) (iZp X.K ta) := by
  refine ⟨fun pins s sg H R I h => Call_ (ld_blt I hg hm PyProof.Rows.boot_zip (PyProof.Rows.callWith_type1 (thn (ha.run pos pins s sg H _ I h) fun us s1 ⟨vs, H1, I1, r1, q1⟩ => ?_) hs hpl))⟩
  obtain ⟨t, u, a, b, xs, ys, rfl, sq1, sq2, q⟩ := q1
  cases r1 with
  | cons r rr =>
    cases rr with
    | cons r' rr =>
      cases rr
      cases r
      cases r'
      obtain ⟨it1, rv1, sa1, la1⟩ := sqB_items I1 sq1
      obtain ⟨it2, rv2, sa2, la2⟩ := sqB_items I1 sq2
      refine zip_begins2 (beginsB t a it1.toArray) (beginsB u b it2.toArray) sa1 sa2 fun h' hz hI hO h1 h2 hsz keep => wpAny_pyIter_zip hz ?_
      have J : Inv X pins sg H1 { s1 with heap := h' } := I1.kept (t' := s1.toks) keep
      have S : ZipSep2 (s1.heap.objs.size + 4) (s1.heap.objs.size + 2) (s1.heap.objs.size + 3) s1.heap.objs.size (s1.heap.objs.size + 1) [s1.heap.objs.size, a] [s1.heap.objs.size + 1, b] :=
        zip_sep la1 la2
      refine ⟨s1.heap.objs.size + 4, [s1.heap.objs.size + 4, s1.heap.objs.size + 2, s1.heap.objs.size + 3, s1.heap.objs.size, s1.heap.objs.size + 1], _, _, H1, rfl, J, turn_zp t u S, ⟨hz, hI, ⟨_, _, hO⟩, .new h1, .new h2⟩, fun c hcm => ?_, q⟩
      have hle : s1.heap.objs.size ≤ c := by
        have e' : c = s1.heap.objs.size + 4 ∨ c = s1.heap.objs.size + 2 ∨ c = s1.heap.objs.size + 3 ∨ c = s1.heap.objs.size ∨ c = s1.heap.objs.size + 1 := by simpa using hcm
        exact five_le e'
      exact I1.fpOk hle (I1.hok.fresh hle)
/-! over data -/
section
variable {K : PySem.W.Frag} {H : Hp} {st : DS}
theorem new_tup {p : Addr} {vs : List V} {ds : List D} (hs : RepS K H st) (hp : H p = none) (q : Reps K H ds vs) : Keep K H st (upd H p (.tup vs)) st ∧ RepS K (upd H p (.tup vs)) st ∧ Rep K (upd H p (.tup vs)) (.tup ds) (.ref p) :=
  ⟨Keep.untold hp _, hs.untold hp _, Rep_tup.mpr ⟨p, vs, rfl, .inl (.inl upd_same), q.keep (Keep.untold (st := st) hp _)⟩⟩
end
/-- what is walked: a list, a tuple, the script; the list by its place -/
inductive Src (K : PySem.W.Frag) (H : Hp) (st : DS) : Bool → Addr → List D → (DS → Prop) → Prop where
  | lst {a : Addr} {ds : List D} (e : st a = some (.lst ds)) : Src K H st false a ds (fun s => s a = some (.lst ds))
  | tup {a : Addr} {ds : List D} {vs : List V} (t : SqT K H a vs) (q : Reps K H ds vs) : Src K H st true a ds (fun _ => True)
  | scr {a : Addr} {ds : List D} {vs : List V} (t : SqF K H a vs) (q : Reps K H ds vs) : Src K H st false a ds (fun _ => True)
theorem Src.seq {K : PySem.W.Frag} {H H' : Hp} {st st' : DS} {t : Bool} {a : Addr} {ds : List D} {G : DS → Prop} (h : Src K H st t a ds G) (k : Keep K H st H' st') (s : RepS K H' st') (g : G st') : ∃ vs, SqB t K H' a vs ∧ Reps K H' ds vs := by
  cases h with
  | lst e =>
    obtain ⟨vs, e1, q⟩ := s a _ g
    exact ⟨vs, SqL.of e1, q⟩
  | tup t q => exact ⟨_, k.tup _ _ t, q.keep k⟩
  | scr t q => exact ⟨_, (k.scr _ _ t).sq, q.keep k⟩
theorem src_of {K : PySem.W.Frag} {H : Hp} {st : DS} {d : D} {v : V} {RR : List D → (DS → Prop) → DS → Prop} (hs : RepS K H st) (r : Rep K H d v) (h : itemsD d st RR) : ∃ t a ds G, v = .ref a ∧ Src K H st t a ds G ∧ (∃ vs, SqB t K H a vs) ∧ RR ds G st := by
  cases d with
  | ref a =>
    obtain ⟨ds, e, h⟩ := getL_inv h
    obtain ⟨vs, ev, -⟩ := hs a _ e
    exact ⟨false, a, ds, _, Rep_ref.mp r, .lst e, ⟨vs, SqL.of ev⟩, h⟩
  | tup ds =>
    obtain ⟨a, vs, rfl, t, q⟩ := Rep_tup.mp r
    exact ⟨true, a, ds, _, rfl, .tup t q, ⟨vs, t⟩, h⟩
  | scr ds =>
    obtain ⟨a, vs, rfl, t, q⟩ := Rep_scr.mp r
    exact ⟨false, a, ds, _, rfl, .scr t q, ⟨vs, t.sq⟩, h⟩
  | _ => exact h.elim
theorem Src.keep {K : PySem.W.Frag} {H H' : Hp} {st st' : DS} {t : Bool} {a : Addr} {ds : List D} {G : DS → Prop} (h : Src K H st t a ds G) (k : Keep K H st H' st') (g : G st') : Src K H' st' t a ds G := by
  cases h with
  | lst e => exact .lst g
  | tup t q => exact .tup (k.tup _ _ t) (q.keep k)
  | scr t q => exact .scr (k.scr _ _ t) (q.keep k)
def enumD (ds : List D) : List D := ds.zipIdx.map fun p => D.tup [.int (p.2 : Int), p.1]
theorem enumD_get {ds : List D} {i : Nat} : (enumD ds)[i]? = (ds[i]?).map fun d => D.tup [.int (i : Int), d] := by
  rw [enumD, List.getElem?_map, List.getElem?_zipIdx]
  cases ds[i]? with
  | none => rfl
  | some d =>
    show some (D.tup [.int ((0 + i : Nat) : Int), d]) = some (D.tup [.int (i : Int), d])
    rw [Nat.zero_add]
theorem enumD_len {ds : List D} : (enumD ds).length = ds.length := by rw [enumD, List.length_map, List.length_zipIdx]
theorem itd_en {K : PySem.W.Frag} {H0 : Hp} {st0 : DS} {t : Bool} {a : Addr} {ds : List D} {G : DS → Prop} (S : Src K H0 st0 t a ds G) : ItD K H0 st0 (EnI t K a) (enumD ds) G where
  goes := fun i H st hi k s g => by
    obtain ⟨vs, sq, q⟩ := S.seq k s g
    rw [enumD_len] at hi
    exact ⟨vs, vs[i]'(by rw [← q.length]; exact hi), sq, List.getElem?_eq_getElem _⟩
  stops := fun H st k s g => by
    obtain ⟨vs, sq, q⟩ := S.seq k s g
    exact ⟨vs, sq, by rw [enumD_len, q.length]⟩
  yields := fun i H st x H' d hd k s g y => by
    obtain ⟨T, v, rfl, hT, rfl, hv⟩ := y
    obtain ⟨vs, sq, q⟩ := S.seq k s g
    rw [enumD_get] at hd
    cases e : ds[i]? with
    | none => rw [e] at hd; cases hd
    | some d0 =>
      rw [e] at hd
      cases hd
      obtain ⟨u, eu, r⟩ := q.get e
      have := hv vs sq
      rw [eu] at this
      cases this
      exact new_tup s hT (.cons (Rep_int.mpr rfl) (.cons r Reps.nil))
def zipD (xs ys : List D) : List D := List.zipWith (fun x y => D.tup [x, y]) xs ys
theorem zipD_get {xs ys : List D} {i : Nat} {d : D} (h : (zipD xs ys)[i]? = some d) : ∃ x y, xs[i]? = some x ∧ ys[i]? = some y ∧ d = .tup [x, y] := by
  rw [zipD, List.getElem?_zipWith] at h
  cases e1 : xs[i]? with
  | none => rw [e1] at h; cases h
  | some x =>
    cases e2 : ys[i]? with
    | none => rw [e1, e2] at h; cases h
    | some y => rw [e1, e2] at h; cases h; exact ⟨x, y, rfl, rfl, rfl⟩
theorem zipD_len {xs ys : List D} : (zipD xs ys).length = min xs.length ys.length := by rw [zipD, List.length_zipWith]
theorem itd_zp {K : PySem.W.Frag} {H0 : Hp} {st0 : DS} {t u : Bool} {a b : Addr} {xs ys : List D} {G1 G2 : DS → Prop} (S : Src K H0 st0 t a xs G1) (S2 : Src K H0 st0 u b ys G2) : ItD K H0 st0 (ZpI t u K a b) (zipD xs ys) (fun s => G1 s ∧ G2 s) where
  goes := fun i H st hi k s g => by
    obtain ⟨vs, sq, q⟩ := S.seq k s g.1
    obtain ⟨us, sq2, q2⟩ := S2.seq k s g.2
    rw [zipD_len] at hi
    exact ⟨vs, us, vs[i]'(by rw [← q.length]; omega), us[i]'(by rw [← q2.length]; omega), sq, sq2, List.getElem?_eq_getElem _, List.getElem?_eq_getElem _⟩
  stops := fun H st k s g => by
    obtain ⟨vs, sq, q⟩ := S.seq k s g.1
    obtain ⟨us, sq2, q2⟩ := S2.seq k s g.2
    have l1 := q.length
    have l2 := q2.length
    rw [zipD_len]
    exact ⟨vs, us, sq, sq2, by omega, by omega, by omega⟩
  yields := fun i H st x H' d hd k s g y => by
    obtain ⟨T, v, w, rfl, hT, rfl, hv, hw⟩ := y
    obtain ⟨vs, sq, q⟩ := S.seq k s g.1
    obtain ⟨us, sq2, q2⟩ := S2.seq k s g.2
    obtain ⟨d1, d2, e1, e2, rfl⟩ := zipD_get hd
    obtain ⟨u1, f1, r1⟩ := q.get e1
    obtain ⟨u2, f2, r2⟩ := q2.get e2
    have z1 := hv vs sq
    have z2 := hw us sq2
    rw [f1] at z1
    rw [f2] at z2
    cases z1
    cases z2
    exact new_tup s hT (.cons r1 (.cons r2 Reps.nil))
def wi_enumerate (wa : WA) : WI := fun ep st RR Rx => wa ep st (fun ds st' => match ds with
  | [d] => itemsD d st' fun items G s => RR (enumD items) G s
  | _ => False) Rx
def wi_zip (wa : WA) : WI := fun ep st RR Rx => wa ep st (fun ds st' => match ds with
  | [d, e] => itemsD d st' fun xs G1 s => G1 s ∧ itemsD e s fun ys G2 s => RR (zipD xs ys) (fun s => G1 s ∧ G2 s) s
  | _ => False) Rx
section
variable {X : Cx} {W : WX} {e e2 : Expr} {wa : WA} {p pos tpos : Pos} {elts : List Expr} {kk : Nat}
theorem ji_enumerate (hm : X.mg "enumerate" = none) (h : JA X W 1 [e] wa) (hg : Gl X "enumerate" := by rfl) (hs : starEach [e] X.env = [(false, eval e X.env)] := by rfl) : JI X W (.Tuple elts kk tpos) (.Call (.Name "enumerate" p) [e] [] pos) (wi_enumerate wa) := by
  refine (pi_en hg hm h hs).weak ?_
  rintro sg H R ⟨ep, st, RR, Rx, he, hs, hw, hq, hx⟩
  refine ⟨ep, st, _, _, he, hs, hw, fun vs H' ds st' hl k s r h => ?_, hx⟩
  match ds, h, hl with
  | [d], h, _ =>
    obtain ⟨v, t, rfl, r1, r2⟩ := Reps_cons.mp r
    rw [Reps_nil.mp r2]
    obtain ⟨t, a, items, G, rfl, S, ⟨us, sq⟩, h⟩ := src_of s r1 h
    exact ⟨t, a, us, rfl, sq, hq H' st' _ _ _ k s (itd_en S) h⟩
theorem ji_zip (hm : X.mg "zip" = none) (h : JA X W 2 [e, e2] wa) (hg : Gl X "zip" := by rfl) (hs : starEach [e, e2] X.env = (false, eval e X.env) :: starEach [e2] X.env := by rfl) (hpl : (backTo pos (starEach [e2] X.env)).any (·.1) = false := by rfl) :
    JI X W (.Tuple elts kk tpos) (.Call (.Name "zip" p) [e, e2] [] pos) (wi_zip wa) := by
  refine (pi_zp hg hm h hs hpl).weak ?_
  rintro sg H R ⟨ep, st, RR, Rx, he, hs, hw, hq, hx⟩
  refine ⟨ep, st, _, _, he, hs, hw, fun vs H' ds st' hl k s r h => ?_, hx⟩
  match ds, h, hl with
  | [d, d2], h, _ =>
    obtain ⟨v, t, rfl, r1, r2⟩ := Reps_cons.mp r
    obtain ⟨v', t', rfl, r3, r4⟩ := Reps_cons.mp r2
    rw [Reps_nil.mp r4]
    obtain ⟨t, a, items, G, rfl, S, ⟨us, sq⟩, g, h⟩ := src_of s r1 h
    obtain ⟨t2, a2, items2, G2, rfl, S2, ⟨us2, sq2⟩, h⟩ := src_of s r3 h
    exact ⟨t, t2, a, a2, us, us2, rfl, sq, sq2, hq H' st' _ _ _ k s (itd_zp S S2) h⟩
end
end DL

/-! sorted, max, min, three names at once, module constants, chained compares. -/
namespace DL
open PySem PySem.Spec PyProof.Rows L2
section
variable {K : PySem.W.Frag} {H : Hp}
theorem reps_perm {xs ys : List V} (p : ys.Perm xs) : ∀ {ds : List D}, Reps K H ds xs → ∃ es, Reps K H es ys ∧ es.Perm ds := by
  induction p with
  | nil =>
    intro ds r
    cases ds with
    | nil => exact ⟨[], Reps.nil, .nil⟩
    | cons d ds =>
      obtain ⟨_, _, e, -⟩ := Reps_cons.mp r
      cases e
  | cons v _ ih =>
    intro ds r
    cases ds with
    | nil => exact absurd (Reps_nil.mp r) (List.cons_ne_nil _ _)
    | cons d ds =>
      obtain ⟨v', t, e, r1, r2⟩ := Reps_cons.mp r
      cases e
      obtain ⟨es, q1, q2⟩ := ih r2
      exact ⟨d :: es, .cons r1 q1, q2.cons d⟩
  | swap u v l =>
    intro ds r
    match ds, r with
    | [], r => exact absurd (Reps_nil.mp r) (List.cons_ne_nil _ _)
    | [_], r =>
      obtain ⟨v', t, e, r1, r2⟩ := Reps_cons.mp r
      cases e
      exact absurd (Reps_nil.mp r2) (List.cons_ne_nil _ _)
    | d :: d2 :: ds, r =>
      obtain ⟨v', t, e, r1, r2⟩ := Reps_cons.mp r
      cases e
      obtain ⟨v'', t', e, r3, r4⟩ := Reps_cons.mp r2
      cases e
      exact ⟨d2 :: d :: ds, .cons r3 (.cons r1 r4), .swap ..⟩
  | trans _ _ ih1 ih2 =>
    intro ds r
    obtain ⟨es, q1, q2⟩ := ih2 r
    obtain ⟨fs, q3, q4⟩ := ih1 q1
    exact ⟨fs, q3, q4.trans q2⟩
end
def lexle (x y : D) : Prop := ∀ i j i' j' : Int, x = .tup [.int i, .int j] → y = .tup [.int i', .int j'] → i < i' ∨ (i = i' ∧ j ≤ j')
def rSortPT (K : PySem.W.Frag) : List V → Hp → VK → Prop := fun vs H Q => ∃ a xs, vs = [.ref a] ∧ SqL K H a xs ∧ (∀ x ∈ xs, ∃ t i j, x = .ref t ∧ SqT K H t [.int i, .int j]) ∧
  ∀ ys p, ys.Perm xs → (ys.Pairwise fun x y => ∀ t i j t' i' j', x = .ref t → SqT K H t [.int i, .int j] → y = .ref t' → SqT K H t' [.int i', .int j'] → i < i' ∨ (i = i' ∧ j ≤ j')) → H p = none → Q (.ref p) (upd H p (.lst ys))
open Classical in
noncomputable def pairAt (h : Heap) (v : Value) : Int × Int := if q : ∃ p : Int × Int, Srt.IsPair h v p.1 p.2 then q.choose else (0, 0)
theorem pairAt_of {h : Heap} {v : Value} {i j : Int} (q : Srt.IsPair h v i j) : Srt.IsPair h v (pairAt h v).1 (pairAt h v).2 ∧ pairAt h v = (i, j) := by
  have ex : ∃ p : Int × Int, Srt.IsPair h v p.1 p.2 := ⟨(i, j), q⟩
  have e : pairAt h v = ex.choose := by unfold pairAt; rw [dif_pos ex]
  have sp := ex.choose_spec
  rw [← e] at sp
  refine ⟨sp, ?_⟩
  obtain ⟨a, o, t, u, n, e1, e2, e3, e4⟩ := q
  obtain ⟨a', o', t', u', n', f1, f2, f3, f4⟩ := sp
  rw [e1] at f1
  cases f1
  rw [e2] at f2
  cases f2
  rw [e4] at f4
  have z := (Data.seq.inj f4).1
  have z' : [Value.int i t, .int j u] = [Value.int (pairAt h v).1 t', .int (pairAt h v).2 u'] := by simpa using z
  injection z' with z1 z2
  injection z2 with z2 _
  injection z1 with z1 _
  injection z2 with z2 _
  exact Prod.ext z1.symm z2.symm
section
variable {X : Cx}
theorem pair_of {pins : List (Addr × Obj)} {sg : L2.St} {H : Hp} {s : Shared} {t : Addr} {i j : Int} (I : Inv X pins sg H s) (h : SqT X.K H t [.int i, .int j]) : Srt.IsPair s.heap (.ref t) i j := by
  obtain ⟨its, rv, p, -⟩ := I.tuple h
  obtain ⟨u1, u2, rfl, ⟨t1, rfl⟩, ⟨t2, rfl⟩⟩ := vals2 rv
  obtain ⟨o, ho, hc, n, hd⟩ := p
  exact ⟨t, o, t1, t2, n, rfl, ho, hc, hd⟩
theorem cr_sortPT : CallR X (.builtin "sorted") (rSortPT X.K) := by
  intro pins s sg H vs us Q I r h
  obtain ⟨a, xs, rfl, sq, hx, q⟩ := h
  obtain ⟨its, rv, hl, hz⟩ := I.list sq
  obtain ⟨u, rfl, ru⟩ := vals1 r
  obtain rfl : u = Value.ref a := ru
  obtain ⟨e1, e2⟩ := refs_back rv fun x m => let ⟨t, _, _, e, _⟩ := hx x m; ⟨t, e⟩
  have hp : ∀ v ∈ its, ∃ i j, Srt.IsPair s.heap v i j := fun v hv => by
    obtain ⟨t, rfl⟩ := e2 v hv
    obtain ⟨t', i, j, e, ht⟩ := hx (V.ref t) (by rw [e1]; exact List.mem_map.mpr ⟨_, hv, rfl⟩)
    cases e
    exact ⟨i, j, pair_of I ht⟩
  refine SrtO.sorted_pairsO (k := pairAt s.heap) hl.isList (by rw [← rv.length]; exact hz) (fun v hv => let ⟨i, j, z⟩ := hp v hv; (pairAt_of z).1) fun h' d out h1 h2 kp hd hn => ?_
  have h3 : ∀ u ∈ out, ∃ a, u = Value.ref a := fun u hu => e2 u (h2.perm.mem_iff.mp hu)
  obtain ⟨n, hn⟩ := hn
  have pm : (out.map backV).Perm xs := by rw [e1]; exact h2.perm.map _
  refine ⟨.ref d, upd H d (.lst (out.map backV)), I.laid (t' := s.toks) kp hd ⟨by rw [pm.length_eq]; exact hz, out, n, vals_back h3, hn⟩, rfl, q _ d pm ?_ (I.hok.fresh hd)⟩
  refine List.pairwise_map.mpr (h1.imp_of_mem fun {x y} mx my hxy => ?_)
  intro t i j t' i' j' ex sx ey sy
  obtain ⟨b, rfl⟩ := h3 x mx
  obtain ⟨b', rfl⟩ := h3 y my
  cases ex
  cases ey
  have k1 := (pairAt_of (pair_of I sx)).2
  have k2 := (pairAt_of (pair_of I sy)).2
  dsimp only at hxy
  rw [k1, k2] at hxy
  have z := SrtO.lexB_no.mp hxy
  dsimp only at z
  omega
end
/-- sorted(list of ints) or sorted(list of pairs of ints) -/
def sortedD : FC := fun ds st R => match ds with
  | [.ref a] => getL st a fun es => (∃ ns : List Int, es = ns.map D.int ∧ ∀ (ns' : List Int) (p : Addr), ns'.Perm ns → ns'.Pairwise (· ≤ ·) → st p = none → R (.ref p) (put st p (.lst (ns'.map D.int)))) ∨
      ((∀ d ∈ es, ∃ i j, d = .tup [.int i, .int j]) ∧ ∀ (es' : List D) (p : Addr), es'.Perm es → es'.Pairwise lexle → st p = none → R (.ref p) (put st p (.lst es')))
  | _ => False
theorem vints_of {K : PySem.W.Frag} {H : Hp} : ∀ {ns : List Int} {vs : List V}, Reps K H (ns.map D.int) vs → vs = ns.map V.int
  | [], vs, h => Reps_nil.mp h
  | n :: ns, vs, h => by
    obtain ⟨v, t, rfl, r1, r2⟩ := Reps_cons.mp h
    rw [Rep_int.mp r1, vints_of r2]; rfl
theorem dints_of {K : PySem.W.Frag} {H : Hp} : ∀ ns : List Int, Reps K H (ns.map D.int) (ns.map V.int)
  | [] => Reps.nil
  | _ :: ns => .cons (Rep_int.mpr rfl) (dints_of ns)
theorem Reps.mem {K : PySem.W.Frag} {H : Hp} : ∀ {ds : List D} {vs : List V}, Reps K H ds vs → ∀ v ∈ vs, ∃ d ∈ ds, Rep K H d v
  | [], vs, h, v, hv => by rw [Reps_nil.mp h] at hv; cases hv
  | d :: ds, vs, h, v, hv => by
    obtain ⟨v', t, rfl, r1, r2⟩ := Reps_cons.mp h
    rcases List.mem_cons.mp hv with rfl | hv
    · exact ⟨d, List.mem_cons_self, r1⟩
    · obtain ⟨d', m, r⟩ := Reps.mem r2 v hv
      exact ⟨d', List.mem_cons_of_mem _ m, r⟩
theorem reps_pw {K : PySem.W.Frag} {H : Hp} {P : V → V → Prop} {Q : D → D → Prop} (hpq : ∀ d e v u, Rep K H d v → Rep K H e u → P v u → Q d e) : ∀ {ds : List D} {vs : List V}, Reps K H ds vs → vs.Pairwise P → ds.Pairwise Q
  | [], _, _, _ => .nil
  | d :: ds, vs, h, w => by
    obtain ⟨v, t, rfl, r1, r2⟩ := Reps_cons.mp h
    obtain ⟨w1, w2⟩ := List.pairwise_cons.mp w
    refine List.pairwise_cons.mpr ⟨fun e he => ?_, reps_pw hpq r2 w2⟩
    obtain ⟨i, hi⟩ := List.mem_iff_getElem?.mp he
    obtain ⟨u, hu, r⟩ := r2.get hi
    exact hpq _ _ _ _ r1 r (w1 u (List.mem_of_getElem? hu))
theorem sim_sorted {K : PySem.W.Frag} : SimC K (fun xs H Q => rSortedI K xs H Q ∨ rSortPT K xs H Q) sortedD := by
  intro H st vs ds R Q hs rs hf hq
  match ds, hf with
  | [.ref a], hf =>
    obtain ⟨v, t, rfl, r, r2⟩ := Reps_cons.mp rs
    rw [Reps_nil.mp r2, Rep_ref.mp r]
    obtain ⟨es, e, hf⟩ := getL_inv hf
    obtain ⟨us, e1, q⟩ := hs a _ e
    have fin : ∀ {es' : List D} {us' : List V} {p : Addr}, Reps K H es' us' → (st p = none → R (.ref p) (put st p (.lst es'))) → H p = none → Q (.ref p) (upd H p (.lst us')) := fun {es' us' p} q' h hl => by
      have k2 : Keep K H st (upd H p (.lst us')) (put st p (.lst es')) := Keep.told hl _ _
      exact hq _ _ _ _ k2 (hs.told hl ⟨us', upd_same, q'.keep k2⟩) (Rep_ref.mpr rfl) (h (hs.free hl))
    rcases hf with ⟨ns, rfl, hf⟩ | ⟨hp, hf⟩
    · refine .inl ⟨a, ns, rfl, by rw [← vints_of q]; exact SqL.of e1, fun ns' p h1 h2 h3 => fin (dints_of ns') (hf ns' p h1 h2) h3⟩
    · refine .inr ⟨a, us, rfl, SqL.of e1, fun x hx => ?_, fun ys p h1 h2 h3 => ?_⟩
      · obtain ⟨d, hd, rd⟩ := Reps.mem q x hx
        obtain ⟨i, j, rfl⟩ := hp d hd
        obtain ⟨t, vs, rfl, ht, q2⟩ := Rep_tup.mp rd
        obtain ⟨v1, t1, rfl, r1, r2⟩ := Reps_cons.mp q2
        obtain ⟨v2, t2, rfl, r3, r4⟩ := Reps_cons.mp r2
        rw [Reps_nil.mp r4, Rep_int.mp r1, Rep_int.mp r3] at ht
        exact ⟨t, i, j, rfl, ht⟩
      · obtain ⟨es', q2, pm⟩ := reps_perm h1 q
        refine fin q2 (hf es' p pm (reps_pw (fun d e v u rd re w => ?_) q2 h2)) h3
        intro i j i' j' ed ee
        subst ed ee
        obtain ⟨t, vs, rfl, ht, q3⟩ := Rep_tup.mp rd
        obtain ⟨v1, t1, rfl, r1, r2⟩ := Reps_cons.mp q3
        obtain ⟨v2, t2, rfl, r3, r4⟩ := Reps_cons.mp r2
        rw [Reps_nil.mp r4, Rep_int.mp r1, Rep_int.mp r3] at ht
        obtain ⟨t', vs', rfl, ht', q4⟩ := Rep_tup.mp re
        obtain ⟨w1, s1, rfl, r5, r6⟩ := Reps_cons.mp q4
        obtain ⟨w2, s2, rfl, r7, r8⟩ := Reps_cons.mp r6
        rw [Reps_nil.mp r8, Rep_int.mp r5, Rep_int.mp r7] at ht'
        exact w _ _ _ _ _ _ rfl ht rfl ht'
/-- max(a, b), min(a, b) of ints -/
def max2D : FC := fun ds st R => match ds with
  | [.int i, .int j] => R (.int (if j > i then j else i)) st
  | _ => False
def min2D : FC := fun ds st R => match ds with
  | [.int i, .int j] => R (.int (if j < i then j else i)) st
  | _ => False
theorem sim_two {K : PySem.W.Frag} {g : Int → Int → Int} {f : FC} (hf0 : ∀ ds st R, f ds st R → ∃ i j, ds = [.int i, .int j] ∧ R (.int (g i j)) st) : SimC K (fun xs H Q => ∃ i j, xs = [.int i, .int j] ∧ Q (.int (g i j)) H) f := by
  intro H st vs ds R Q hs rs hf hq
  obtain ⟨i, j, rfl, h⟩ := hf0 ds st R hf
  obtain ⟨v, t, rfl, r1, r2⟩ := Reps_cons.mp rs
  obtain ⟨v', t', rfl, r3, r4⟩ := Reps_cons.mp r2
  rw [Reps_nil.mp r4, Rep_int.mp r1, Rep_int.mp r3]
  exact ⟨i, j, rfl, hq _ _ _ _ .refl hs (Rep_int.mpr rfl) h⟩
section
variable {X : Cx} {W : WX} {e e2 : Expr} {wa : WA} {p pos : Pos} {n : Nat}
theorem j_sorted (hm : X.mg "sorted" = none) (ha : JA X W n [e] wa) (hg : Gl X "sorted" := by rfl) (he : starEach [e] X.env = (false, eval e X.env) :: starEach [] X.env := by rfl) : JE X W (.Call (.Name "sorted" p) [e] [] pos) (wCB sortedD wa) :=
  j_callB (CallR.or cr_sortedI cr_sortPT) sim_sorted hm (by decide +kernel) ha hg (by decide) (by decide) he rfl
theorem j_max2 (hm : X.mg "max" = none) (ha : JA X W n [e, e2] wa) (hc : X.calm = true := by rfl) (hg : Gl X "max" := by rfl) (he : starEach [e, e2] X.env = (false, eval e X.env) :: starEach [e2] X.env := by rfl) (hpl : (backTo pos (starEach [e2] X.env)).any (·.1) = false := by rfl) : JE X W (.Call (.Name "max" p) [e, e2] [] pos) (wCB max2D wa) :=
  j_callB (call_max2 hc) (sim_two (g := fun i j => if j > i then j else i) fun ds st R h => by
    match ds, h with
    | [.int i, .int j], h => exact ⟨i, j, rfl, h⟩) hm (by decide +kernel) ha hg (by decide) (by decide) he hpl
theorem j_min2 (hm : X.mg "min" = none) (ha : JA X W n [e, e2] wa) (hc : X.calm = true := by rfl) (hg : Gl X "min" := by rfl) (he : starEach [e, e2] X.env = (false, eval e X.env) :: starEach [e2] X.env := by rfl) (hpl : (backTo pos (starEach [e2] X.env)).any (·.1) = false := by rfl) : JE X W (.Call (.Name "min" p) [e, e2] [] pos) (wCB min2D wa) :=
  j_callB (call_min2 hc) (sim_two (g := fun i j => if j < i then j else i) fun ds st R h => by
    match ds, h with
    | [.int i, .int j], h => exact ⟨i, j, rfl, h⟩) hm (by decide +kernel) ha hg (by decide) (by decide) he hpl
/-- a constant of the module -/
theorem jk {x : Str} {a : Addr} {d : D} {pos : Pos} (hm : X.mg x = some (.ref a)) (r : ∀ H, Rep X.K H d (.ref a)) (hg : Gl X x := by rfl) (hd : (x == ("__debug__" : Str)) = false := by decide) : JE X W (.Name x pos) (wC d) := by
  refine (pe_glob (v := .ref a) hg hm rfl hd).weak ?_
  rintro sg H Q ⟨ep, st, R, Rx, he, hs, hw, hq, hx⟩
  exact hq _ H d st .refl hs (r H) hw
end
/-- a, b, c = x, y, z of plain local names -/
def wPar3 (i j k : Nat) (wa wb wc : WE) : WS := fun E ep st => wa ep st (fun x st1 => wb ep st1 (fun y st2 => wc ep st2 (fun z st3 => E.nx (((ep.set i (some x)).set j (some y)).set k (some z)) st3) (fun x st' => E.ex x ep st')) (fun x st' => E.ex x ep st')) (fun x st' => E.ex x ep st')
section
variable {X : Cx} {W : WX} {pos : Pos}
theorem js_par3 {i j k : Nat} {x y z : Str} {a b c : Expr} {wa wb wc : WE} {px py pz pt : Pos} {kt k2 pt2} (hN : X.N.Nodup) (ha : JE X W a wa) (hb : JE X W b wb) (hcc : JE X W c wc) (hc : X.calm = true := by rfl) (hi : X.N[i]? = some x := by rfl) (hj : X.N[j]? = some y := by rfl) (hk : X.N[k]? = some z := by rfl)
    (hij : i ≠ j := by decide) (hik : i ≠ k := by decide) (hjk : j ≠ k := by decide)
    (hx : X.env.scope.names.lookup x = some .local := by rfl) (hy : X.env.scope.names.lookup y = some .local := by rfl) (hz : X.env.scope.names.lookup z = some .local := by rfl)
    (hs1 : starEach [a, b, c] X.env = (false, eval a X.env) :: starEach [b, c] X.env := by rfl) (hs2 : starEach [b, c] X.env = (false, eval b X.env) :: starEach [c] X.env := by rfl) (hs3 : starEach [c] X.env = (false, eval c X.env) :: starEach [] X.env := by rfl)
    (hw : swappedStores [.Tuple [.Name x px, .Name y py, .Name z pz] kt pt] (.Tuple [a, b, c] k2 pt2) X.env = pure (some [x, y, z]) := by rfl)
    (hs : swapsWithSole [.Tuple [.Name x px, .Name y py, .Name z pz] kt pt] (.Tuple [a, b, c] k2 pt2) pos.line X.env = pure false := by rfl) :
    JS X W (.Assign [.Tuple [.Name x px, .Name y py, .Name z pz] kt pt] (.Tuple [a, b, c] k2 pt2) pos) (wPar3 i j k wa wb wc) := by
  refine (ps_par3 hc hN hi hj hk hij hik hjk hx hy hz (pa_cons ha (pa_cons hb (pa_cons hcc pa_nil hs3) hs2) hs1) hw hs).weak ?_
  rintro Dn sg H ⟨ep, st, E, he, hs, hw, ok⟩
  refine ⟨ep, st, _, _, he, hs, hw, fun v H1 d st1 k1 s r h => ?_, ok.okX he⟩
  refine ⟨ep, st1, _, _, he.keep k1, s, h, fun v2 H2 d2 st2 k2 s2 r2 h2 => ?_, (ok.okX he).keep k1⟩
  refine ⟨ep, st2, _, _, (he.keep k1).keep k2, s2, h2, fun v3 H3 d3 st3 k3 s3 r3 h3 => ?_, ((ok.okX he).keep k1).keep k2⟩
  exact ⟨v, v2, v3, rfl, ok.nx _ H3 _ st3 ((k1.trans k2).trans k3) s3 ((((((he.keep k1).keep k2).keep k3).set ((r.keep k2).keep k3) i).set (r2.keep k3) j).set r3 k) h3⟩
end
/-! a chain of two compares -/
def wChain (f f' : F2) (wa wb wc : WE) : WE := fun ep st R Rx => wa ep st (fun x st1 => wb ep st1 (fun y st2 => f x y st2 fun z st3 => asB z fun b => cnd b (fun _ => wc ep st3 (fun w st4 => f' y w st4 R) Rx) (fun _ => R (.bl false) st3)) Rx) Rx
def wChainT (f f' : F2) (wa wb wc : WE) : WT := fun ep st R Rx => wChain f f' wa wb wc ep st (fun d st' => asB d fun b => R b st') Rx
section
variable {X : Cx} {W : WX} {K : PySem.W.Frag} {pos : Pos} {a b c : Expr} {wa wb wc : WE} {op op' : CmpOp} {r r' : R2} {f f' : F2}
theorem tw_chain (hf : Sim2 K r f) (hf' : Sim2 K r' f') : ∀ sg H Q, twE K W (wChain f f' wa wb wc) sg H Q → tChain r r' (twE K W wa) (twE K W wb) (twE K W wc) sg H Q := by
  rintro sg H Q ⟨ep, st, R, Rx, he, hs, hw, hq, hx⟩
  refine ⟨ep, st, _, Rx, he, hs, hw, fun x H1 d1 st1 k1 s1 r1 hw1 => ?_, hx⟩
  refine ⟨ep, st1, _, Rx, he.keep k1, s1, hw1, fun y H2 d2 st2 k2 s2 r2 hw2 => ?_, hx.keep k1⟩
  refine hf H2 st2 x y d1 d2 _ _ s2 (r1.keep k2) r2 hw2 fun z H3 d3 st3 k3 s3 r3 hw3 => ?_
  cases d3 with
  | bl t =>
    refine ⟨t, Rep_bl.mp r3, ?_⟩
    cases t with
    | true =>
      refine ite_tt ?_
      refine ⟨ep, st3, _, Rx, ((he.keep k1).keep k2).keep k3, s3, hw3.1 rfl, fun w H4 d4 st4 k4 s4 r4 hw4 => ?_, ((hx.keep k1).keep k2).keep k3⟩
      exact hf' H4 st4 y w d2 d4 R Q s4 ((r2.keep k3).keep k4) r4 hw4 (((hq.keep k1).keep k2).keep (k3.trans k4))
    | false => exact ite_ff (hq _ _ _ _ ((k1.trans k2).trans k3) s3 (Rep_bl.mpr rfl) (hw3.2 rfl))
  | _ => exact hw3.elim
theorem j_chain (ho : OpR X (compareOp op) r) (ho' : OpR X (compareOp op') r') (hf : Sim2 X.K r f) (hf' : Sim2 X.K r' f') (ha : JE X W a wa) (hb : JE X W b wb) (hc : JE X W c wc) (hm : lastMarks [op, op'] [b, c] = false := by with_unfolding_all rfl) :
    JE X W (.Compare a [op, op'] [b, c] pos) (wChain f f' wa wb wc) := (pe_chain ho ho' ha hb hc hm).weak (tw_chain hf hf')
theorem j_chainT (ho : OpR X (compareOp op) r) (ho' : OpR X (compareOp op') r') (hf : Sim2 X.K r f) (hf' : Sim2 X.K r' f') (ha : JE X W a wa) (hb : JE X W b wb) (hc : JE X W c wc) (hm : lastMarks [op, op'] [b, c] = false := by with_unfolding_all rfl) :
    JT X W (.Compare a [op, op'] [b, c] pos) (wChainT f f' wa wb wc) := by
  refine (pt_chain ho ho' ha hb hc hm).weak ?_
  rintro sg H Q ⟨ep, st, R, Rx, he, hs, hw, hq, hx⟩
  refine tw_chain hf hf' sg H _ ⟨ep, st, _, Rx, he, hs, hw, fun v H' d st' k s r h => ?_, hx⟩
  cases d with
  | bl b => exact ⟨b, Rep_bl.mp r, hq b H' st' k s h⟩
  | _ => exact h.elim
end
end DL

/-! [e for x in a for y in b]: the list that grows stands in the store, at p. -/
namespace DL
open PySem PySem.Spec PyProof.Rows L2
def lc2I (bind : D → DE → (DE → Prop) → Prop) (ep0 : DE) (wt : WT) (we : WE) (G : DS → Prop) (p : Addr) (k : DS → Prop) : List D → DS → Prop
  | [], st => G st ∧ k st
  | d :: r, st => G st ∧ bind d ep0 fun ep => wt ep st (fun b st2 => cnd b (fun _ => we ep st2 (fun y st3 => getL st3 p fun acc => acc.length < sizeLine ∧ lc2I bind ep0 wt we G p k r (put st3 p (.lst (acc ++ [y])))) (fun _ _ => False)) (fun _ => lc2I bind ep0 wt we G p k r st2)) (fun _ _ => False)
def lc2O (bind : D → DE → (DE → Prop) → Prop) (ep0 : DE) (wt : WT) (wi1 : WI) (bind1 : D → DE → (DE → Prop) → Prop) (vs1 : List Nat) (wt1 : WT) (we : WE) (G : DS → Prop) (p : Addr) (k : DS → Prop) : List D → DS → Prop
  | [], st => G st ∧ k st
  | d :: r, st => G st ∧ bind d ep0 fun ep => wt ep st (fun b st2 => cnd b (fun _ => wi1 ep st2 (fun items1 G1 st3 => lc2I bind1 (wipeD ep vs1) wt1 we G1 p (lc2O bind ep0 wt wi1 bind1 vs1 wt1 we G p k r) items1 st3) (fun _ _ => False)) (fun _ => lc2O bind ep0 wt wi1 bind1 vs1 wt1 we G p k r st2)) (fun _ _ => False)
def wLc2 (wi : WI) (bind : D → DE → (DE → Prop) → Prop) (vs : List Nat) (wt : WT) (wi1 : WI) (bind1 : D → DE → (DE → Prop) → Prop) (vs1 : List Nat) (wt1 : WT) (we : WE) : WE := fun ep st R Rx =>
  wi ep st (fun items G st' => ∀ p, st' p = none → lc2O bind (wipeD ep vs) wt wi1 bind1 vs1 wt1 we G p (fun st2 => R (.ref p) st2) items (put st' p (.lst []))) Rx
theorem lc2_ok {K : PySem.W.Frag} {W : WX} {g g1 : TG} {bind bind1 : D → DE → (DE → Prop) → Prop} {vs vs1 : List Nat} {wi wi1 : WI} {wt wt1 : WT} {we : WE} (bo : BindOk K g bind vs) (bo1 : BindOk K g1 bind1 vs1) : ∀ sg H Q, twE K W (wLc2 wi bind vs wt wi1 bind1 vs1 wt1 we) sg H Q →
    tLc2 (twI K W wi) g (twT K (fun _ _ _ _ => False) wt) (twI K (fun _ _ _ _ => False) wi1) g1 (twT K (fun _ _ _ _ => False) wt1) (twE K (fun _ _ _ _ => False) we) vs vs1 sg H Q := by
  rintro sg H Q ⟨ep, st, R, Rx, he, hs, hw, hq, hx⟩
  refine ⟨ep, st, _, _, he, hs, hw, fun H1 st1 items G J k1 s1 it hf Dl hD => ?_, hx⟩
  have nD := s1.free hD
  have kD : Keep K H1 st1 (upd H1 Dl (.lst [])) (put st1 Dl (.lst [])) := Keep.told hD _ _
  have sD : RepS K (upd H1 Dl (.lst [])) (put st1 Dl (.lst [])) := s1.told hD ⟨[], upd_same, Reps.nil⟩
  refine ⟨fun i m H' => m = items.length - i ∧ i ≤ items.length ∧ ∃ st', RepS K H' st' ∧ Keep K H1 st1 H' st' ∧ lc2O bind (wipeD ep vs) wt wi1 bind1 vs1 wt1 we G Dl (fun st2 => R (.ref Dl) st2) (items.drop i) st', ⟨_, rfl, Nat.zero_le _, _, sD, kD, hf Dl nD⟩, ?_⟩
  rintro i m H2 ⟨rfl, hi, st2, s2, k2, hf2⟩
  by_cases hlt : i < items.length
  · rw [List.drop_eq_getElem_cons hlt] at hf2
    obtain ⟨gg, hf3⟩ := hf2
    refine .inr ⟨it.goes i H2 st2 hlt k2 s2 gg, fun H' => i + 1 ≤ items.length ∧ ∃ st', RepS K H' st' ∧ Keep K H1 st1 H' st' ∧ lc2O bind (wipeD ep vs) wt wi1 bind1 vs1 wt1 we G Dl (fun st2 => R (.ref Dl) st2) (items.drop (i + 1)) st', fun H' ⟨hl, z⟩ => ⟨items.length - (i + 1), by omega, rfl, hl, z⟩, fun x H' y => ?_⟩
    obtain ⟨k3, s3, r3⟩ := it.yields i H2 st2 x H' items[i] (List.getElem?_eq_getElem hlt) k2 s2 gg y
    have he3 : RepE K H' (wipeD ep vs) (L2.wipe sg vs) := wipe_rep (((he.keep k1).keep k2).keep k3) vs
    refine bo.run r3 he3 hf3 fun ep4 sg4 e4 w4 h4 => ⟨by rw [w4, wipe_wipe], ?_⟩
    refine ⟨ep4, st2, _, _, e4, s3, h4, fun b H5 st5 k5 s5 h5 => ?_, fun _ _ _ _ _ _ _ _ z => z.elim⟩
    cases b with
    | true =>
      replace h5 := h5.1 rfl
      dsimp only
      rw [if_pos rfl]
      refine ⟨ep4, st5, _, _, e4.keep k5, s5, h5, fun H6 st6 items1 G1 J1 k6 s6 it1 hf6 => ?_, fun _ _ _ _ _ _ _ _ z => z.elim⟩
      have kk : Keep K H1 st1 H6 st6 := ((k2.trans k3).trans k5).trans k6
      have e6 : RepE K H6 ep4 sg4 := (e4.keep k5).keep k6
      refine ⟨fun j k H' => k = items1.length - j ∧ j ≤ items1.length ∧ ∃ st', RepS K H' st' ∧ Keep K H6 st6 H' st' ∧ lc2I bind1 (wipeD ep4 vs1) wt1 we G1 Dl (lc2O bind (wipeD ep vs) wt wi1 bind1 vs1 wt1 we G Dl (fun st2 => R (.ref Dl) st2) (items.drop (i + 1))) (items1.drop j) st', ⟨_, rfl, Nat.zero_le _, st6, s6, .refl, hf6⟩, ?_⟩
      rintro j k H7 ⟨rfl, hj, st7, s7, k7, hf7⟩
      by_cases hlt1 : j < items1.length
      · rw [List.drop_eq_getElem_cons hlt1] at hf7
        obtain ⟨gg1, hf8⟩ := hf7
        refine .inr ⟨it1.goes j H7 st7 hlt1 k7 s7 gg1, fun H' => j + 1 ≤ items1.length ∧ ∃ st', RepS K H' st' ∧ Keep K H6 st6 H' st' ∧ lc2I bind1 (wipeD ep4 vs1) wt1 we G1 Dl (lc2O bind (wipeD ep vs) wt wi1 bind1 vs1 wt1 we G Dl (fun st2 => R (.ref Dl) st2) (items.drop (i + 1))) (items1.drop (j + 1)) st', fun H' ⟨hl, z⟩ => ⟨items1.length - (j + 1), by omega, rfl, hl, z⟩, fun x8 H8 y8 => ?_⟩
        obtain ⟨k8, s8, r8⟩ := it1.yields j H7 st7 x8 H8 items1[j] (List.getElem?_eq_getElem hlt1) k7 s7 gg1 y8
        have he8 : RepE K H8 (wipeD ep4 vs1) (L2.wipe sg4 vs1) := wipe_rep ((e6.keep k7).keep k8) vs1
        refine bo1.run r8 he8 hf8 fun ep9 sg9 e9 w9 h9 => ⟨by rw [w9, wipe_wipe], ?_⟩
        refine ⟨ep9, st7, _, _, e9, s8, h9, fun b H10 st10 k10 s10 h10 => ?_, fun _ _ _ _ _ _ _ _ z => z.elim⟩
        cases b with
        | true =>
          replace h10 := h10.1 rfl
          dsimp only
          rw [if_pos rfl]
          refine ⟨ep9, st10, _, _, e9.keep k10, s10, h10, fun v H11 d st11 k11 s11 r11 h11 => ?_, fun _ _ _ _ _ _ _ _ z => z.elim⟩
          obtain ⟨acc, ea, hl, h⟩ := getL_inv h11
          obtain ⟨us, e1, q⟩ := s11 Dl _ ea
          have kw := s11.keepW ea (HO.lst (us ++ [v])) (OB.lst (acc ++ [d]))
          exact ⟨us, e1, by rw [← q.length]; exact hl, hlt1, put st11 Dl (.lst (acc ++ [d])), s11.write ea ⟨_, upd_same, (q.keep kw).append (.cons (r11.keep kw) Reps.nil)⟩, (((k7.trans k8).trans k10).trans k11).trans kw, h⟩
        | false =>
          replace h10 := h10.2 rfl
          dsimp only
          rw [if_neg Bool.false_ne_true]
          exact ⟨hlt1, st10, s10, (k7.trans k8).trans k10, h10⟩
      · have e : j = items1.length := by omega
        subst e
        rw [List.drop_length] at hf7
        exact .inl ⟨it1.stops H7 st7 k7 s7 hf7.1, hlt, st7, s7, kk.trans k7, hf7.2⟩
    | false =>
      replace h5 := h5.2 rfl
      dsimp only
      rw [if_neg Bool.false_ne_true]
      exact ⟨hlt, st5, s5, (k2.trans k3).trans k5, h5⟩
  · have e : i = items.length := by omega
    subst e
    rw [List.drop_length] at hf2
    exact .inl ⟨it.stops H2 st2 k2 s2 hf2.1, hq _ H2 _ st2 (k1.trans k2) s2 (Rep_ref.mpr rfl) hf2.2⟩
section
variable {X : Cx} {W : WX} {elt tg iter tg1 iter1 : Expr} {ifs ifs1 : List Expr} {scope : Scope} {own : List (Str × Nat)} {vs1 : List Nat} {pos : Pos} {wi wi1 : WI} {g g1 : TG} {bind bind1 : D → DE → (DE → Prop) → Prop} {wt wt1 : WT} {we : WE}
theorem je_lc2 (hN : X.N.Nodup) (hi : JI X W tg iter wi) (ok : blkC X.N X.env.scope scope own = true) (bo : BindOk X.K g bind (own.map (·.2))) (bo1 : BindOk X.K g1 bind1 vs1) (hv : ∀ i ∈ vs1, i ∈ own.map (·.2))
    (hg : ∀ (s : Shared) (H : Hp) (C : Addr) (cl : List (Str × Addr)) (fp : List Addr), PG (X.blk s H scope (compEnvC scope cl C X.env) fp) tg g) (ht : ∀ (s : Shared) (H : Hp) (C : Addr) (cl : List (Str × Addr)) (fp : List Addr), JTs (X.blk s H scope (compEnvC scope cl C X.env) fp) noW ifs wt)
    (hi1 : ∀ (s : Shared) (H : Hp) (C : Addr) (cl : List (Str × Addr)) (fp : List Addr), JI (X.blk s H scope (compEnvC scope cl C X.env) fp) noW tg1 iter1 wi1)
    (hg1 : ∀ (s : Shared) (H : Hp) (C : Addr) (cl : List (Str × Addr)) (fp : List Addr), PG (X.blk s H scope (compEnvC scope cl C X.env) fp) tg1 g1) (ht1 : ∀ (s : Shared) (H : Hp) (C : Addr) (cl : List (Str × Addr)) (fp : List Addr), JTs (X.blk s H scope (compEnvC scope cl C X.env) fp) noW ifs1 wt1)
    (he : ∀ (s : Shared) (H : Hp) (C : Addr) (cl : List (Str × Addr)) (fp : List Addr), JE (X.blk s H scope (compEnvC scope cl C X.env) fp) noW elt we) (hc : X.calm = true := by rfl) (hs : ∀ x, foldedSetIterable iter X.env x = pure x := by intro _; rfl) (hs1 : ∀ env x, foldedSetIterable iter1 env x = pure x := by intro _ _; rfl) :
    JE X W (.ListComp elt [⟨tg, iter, ifs, 0⟩, ⟨tg1, iter1, ifs1, 0⟩] scope pos) (wLc2 wi bind (own.map (·.2)) wt wi1 bind1 vs1 wt1 we) :=
  (pe_lc2 hc hN hi (blkOk_by ok) hv hg ht hi1 hg1 ht1 he hs hs1).weak (lc2_ok bo bo1)
end
end DL

/-! sum of a list or a tuple. -/
namespace DL
open PySem PySem.Spec PyProof.Rows L2
def rSumT (K : PySem.W.Frag) : List V → Hp → VK → Prop := fun vs H Q => ∃ (a : Addr) (ns : List Int), vs = [V.ref a] ∧ SqT K H a (ns.map V.int) ∧ Q (.int ns.sum) H
theorem cr_sumT {X : Cx} (hc : X.calm = true) : CallR X (.builtin "sum") (rSumT X.K) := by
  intro pins s sg H vs us Q I r h
  obtain ⟨a, ns, rfl, sq, q⟩ := h
  obtain ⟨its, rv, hl, _⟩ := I.tuple sq
  rw [Vals.ref1 r]
  obtain ⟨xs, e⟩ := rv.ints.allInts.items
  have hn : numsOf (intItems xs).toList = ns := by rw [← e]; exact rv.ints.numsOf
  rw [nums_intItems] at hn
  have hl' : s.heap.IsTuple a its.toArray := hl
  rw [e] at hl'
  refine PySem.W.ktm_sumG (I.ok.hd hc) hl' fun h' tk t' hk => ?_
  rw [preSum_eq, List.take_of_length_le (by simp), hn]
  exact ⟨.int _, H, I.kept hk, ⟨_, rfl⟩, q⟩
def sumA : FC := fun ds st R => match ds with
  | [.tup es] => optP (intsOf es) fun ns => R (.int ns.sum) st
  | [.ref a] => getL st a fun es => optP (intsOf es) fun ns => R (.int ns.sum) st
  | _ => False
theorem sim_sumA {K : PySem.W.Frag} : SimC K (fun xs H Q => rSum K xs H Q ∨ rSumT K xs H Q) sumA := by
  intro H st vs ds R Q hs rs hf hq
  match ds, hf with
  | [.ref a], hf => exact .inl (sim_sum H st vs [.ref a] R Q hs rs hf hq)
  | [.tup es], hf =>
    obtain ⟨v, t, rfl, r, r2⟩ := Reps_cons.mp rs
    obtain ⟨ns, en, h⟩ := optP_inv hf
    obtain ⟨a, us, rfl, ht, q⟩ := Rep_tup.mp r
    rw [intsOf_inv en] at q
    rw [Reps_nil.mp r2]
    exact .inr ⟨a, ns, rfl, by rw [← vints_of q]; exact ht, hq _ _ _ _ .refl hs (Rep_int.mpr rfl) h⟩
theorem j_sumA {X : Cx} {W : WX} {n : Nat} {e : Expr} (hm : X.mg "sum" = none) {p pos : Pos} {wa : WA} (ha : JA X W n [e] wa) (hc : X.calm = true := by rfl) (hg : Gl X "sum" := by rfl) (he : starEach [e] X.env = (false, eval e X.env) :: starEach [] X.env := by rfl) : JE X W (.Call (.Name "sum" p) [e] [] pos) (wCB sumA wa) :=
  j_callB (CallR.or (cr_sum hc) (cr_sumT hc)) sim_sumA hm (by decide +kernel) ha hg (by decide) (by decide) he rfl
section
variable {E : Ed} {ep : DE} {st : DS} {R : RD} {Rx : RX} {d x y : D} {A B : Unit → Prop} {wa wb wc : WE} {f f' : F2} {RT : Bool → DS → Prop} {i j k : Nat}
theorem s_sumAT {es : List D} (h : optP (intsOf es) fun ns => R (.int ns.sum) st) : sumA [.tup es] st R := h
theorem s_sumAL {p : Addr} (h : getL st p fun es => optP (intsOf es) fun ns => R (.int ns.sum) st) : sumA [.ref p] st R := h
theorem s_yesB {t : Bool} (e : t = true) (h : A ()) : cnd t A B := by rw [e]; exact s_cT h
theorem s_noB {t : Bool} (e : t = false) (h : B ()) : cnd t A B := by rw [e]; exact s_cF h
theorem s_cnT (h : B ()) : cnd (!true) A B := s_cF h
theorem s_cnF (h : A ()) : cnd (!false) A B := s_cT h
theorem s_par3 {nx rt bk ct ex} (h : wa ep st (fun x st1 => wb ep st1 (fun y st2 => wc ep st2 (fun z st3 => nx (((ep.set i (some x)).set j (some y)).set k (some z)) st3) (fun x st' => ex x ep st')) (fun x st' => ex x ep st')) (fun x st' => ex x ep st')) : wPar3 i j k wa wb wc { nx := nx, rt := rt, bk := bk, ct := ct, ex := ex } ep st := h
theorem s_max2 {m n : Int} (h : R (.int (if n > m then n else m)) st) : max2D [.int m, .int n] st R := h
theorem s_min2 {m n : Int} (h : R (.int (if n < m then n else m)) st) : min2D [.int m, .int n] st R := h
theorem s_chain (h : wa ep st (fun x st1 => wb ep st1 (fun y st2 => f x y st2 fun z st3 => asB z fun b => cnd b (fun _ => wc ep st3 (fun w st4 => f' y w st4 R) Rx) (fun _ => R (.bl false) st3)) Rx) Rx) : wChain f f' wa wb wc ep st R Rx := h
theorem s_chainT (h : wChain f f' wa wb wc ep st (fun d st' => asB d fun b => RT b st') Rx) : wChainT f f' wa wb wc ep st RT Rx := h
/-- a list or a tuple that holds es -/
def RowAt (st : DS) (row : D) (es : List D) : Prop := row = .tup es ∨ ∃ p, row = .ref p ∧ st p = some (.lst es)
theorem s_itRow {row : D} {es : List D} {RR : List D → (DS → Prop) → DS → Prop} (h : RowAt st row es) (k : ∀ G : DS → Prop, G st → RR es G st) : itemsD row st RR := by
  rcases h with rfl | ⟨p, rfl, e⟩
  · exact k _ trivial
  · exact s_getL e (k (fun s => s p = some (.lst es)) e)
theorem s_ixRow {row : D} {es : List D} {z : Int} (h : RowAt st row es) (k : optP (atI es z) fun d => R d st) : ixD row (.int z) st R := by
  rcases h with rfl | ⟨p, rfl, e⟩
  · exact k
  · exact s_getL e k
theorem s_lenRow {row : D} {es : List D} (h : RowAt st row es) (k : R (.int es.length) st) : lenD [row] st R := by
  rcases h with rfl | ⟨p, rfl, e⟩
  · exact k
  · exact s_getL e k
end
end DL

/-! Loops over lists of known things, over ranges; comprehensions likewise. -/
namespace DL
open PySem L2
section
variable {g : DG} {b : WS} {G : DS → Prop} {ep : DE} {st : DS}
theorem for_pre {nx rt bk ct ex} {α : Type} (f : α → D) (all : List α) (I : List α → DE → DS → Prop) (h0 : ∀ ep st, I all ep st → G st ∧ nx ep st)
    (hs : ∀ (K : DE → DS → Prop) pre a r ep st, all = pre ++ a :: r → I pre ep st → (∀ ep' st', I (pre ++ [a]) ep' st' → K ep' st') → G st ∧ g (f a) ep st (fun ep' st' => b { nx := K, rt := rt, bk := nx, ct := K, ex := ex } ep' st'))
    (h : I [] ep st) : forL g b G { nx := nx, rt := rt, bk := bk, ct := ct, ex := ex } (all.map f) ep st := by
  suffices H : ∀ r pre ep st, all = pre ++ r → I pre ep st → forL g b G { nx := nx, rt := rt, bk := bk, ct := ct, ex := ex } (r.map f) ep st from H all [] ep st rfl h
  intro r
  induction r with
  | nil => intro pre ep st e i; rw [List.append_nil] at e; subst e; exact h0 ep st i
  | cons a r ih => intro pre ep st e i; exact hs _ pre a r ep st e i fun ep' st' i' => ih (pre ++ [a]) ep' st' (by rw [e, List.append_assoc]; rfl) i'
theorem for_rng {nx rt bk ct ex} (n : Nat) (I : Nat → DE → DS → Prop) (h0 : ∀ ep st, I n ep st → G st ∧ nx ep st)
    (hs : ∀ (K : DE → DS → Prop) (j : Nat) ep st, j < n → I j ep st → (∀ ep' st', I (j + 1) ep' st' → K ep' st') → G st ∧ g (.int (j : Int)) ep st (fun ep' st' => b { nx := K, rt := rt, bk := nx, ct := K, ex := ex } ep' st'))
    (h : I 0 ep st) : forL g b G { nx := nx, rt := rt, bk := bk, ct := ct, ex := ex } ((List.range n).map fun i : Nat => D.int (0 + (i : Int))) ep st := by
  suffices H : ∀ m j ep st, j + m = n → I j ep st → forL g b G { nx := nx, rt := rt, bk := bk, ct := ct, ex := ex } ((List.range' j m).map fun i : Nat => D.int (0 + (i : Int))) ep st by
    have := H n 0 ep st (Nat.zero_add n) h
    rwa [← List.range_eq_range'] at this
  intro m
  induction m with
  | zero => intro j ep st e i; rw [Nat.add_zero] at e; subst e; exact h0 ep st i
  | succ m ih =>
    intro j ep st e i
    rw [List.range'_succ, List.map_cons]
    have := hs _ j ep st (by omega) i fun ep' st' i' => ih (j + 1) ep' st' (by omega) i'
    rw [← Int.zero_add (j : Int)] at this
    exact this
end
section
variable {bind : D → DE → (DE → Prop) → Prop} {ep0 ep : DE} {wt : WT} {we : WE} {G : DS → Prop} {k : List D → DS → Prop} {acc : List D} {st : DS}
theorem lc_pre {α : Type} (f : α → D) (all : List α) (I : List α → List D → DS → Prop) (h0 : ∀ acc st, I all acc st → G st ∧ k acc st)
    (hs : ∀ (K : List D → DS → Prop) pre a r acc st, all = pre ++ a :: r → I pre acc st → (∀ acc' st', I (pre ++ [a]) acc' st' → K acc' st') → G st ∧ bind (f a) ep0 fun ep => wt ep st (fun b st2 => cnd b (fun _ => we ep st2 (fun y st3 => acc.length < sizeLine ∧ K (acc ++ [y]) st3) (fun _ _ => False)) (fun _ => K acc st2)) (fun _ _ => False))
    (h : I [] acc st) : lcL bind ep0 wt we G k (all.map f) acc st := by
  suffices H : ∀ r pre acc st, all = pre ++ r → I pre acc st → lcL bind ep0 wt we G k (r.map f) acc st from H all [] acc st rfl h
  intro r
  induction r with
  | nil => intro pre ep st e i; rw [List.append_nil] at e; subst e; exact h0 ep st i
  | cons a r ih => intro pre acc st e i; exact hs _ pre a r acc st e i fun acc' st' i' => ih (pre ++ [a]) acc' st' (by rw [e, List.append_assoc]; rfl) i'
theorem lc_rng (n : Nat) (I : Nat → List D → DS → Prop) (h0 : ∀ acc st, I n acc st → G st ∧ k acc st)
    (hs : ∀ (K : List D → DS → Prop) (j : Nat) acc st, j < n → I j acc st → (∀ acc' st', I (j + 1) acc' st' → K acc' st') → G st ∧ bind (.int (j : Int)) ep0 fun ep => wt ep st (fun b st2 => cnd b (fun _ => we ep st2 (fun y st3 => acc.length < sizeLine ∧ K (acc ++ [y]) st3) (fun _ _ => False)) (fun _ => K acc st2)) (fun _ _ => False))
    (h : I 0 acc st) : lcL bind ep0 wt we G k ((List.range n).map fun i : Nat => D.int (0 + (i : Int))) acc st := by
  suffices H : ∀ m j acc st, j + m = n → I j acc st → lcL bind ep0 wt we G k ((List.range' j m).map fun i : Nat => D.int (0 + (i : Int))) acc st by
    have := H n 0 acc st (Nat.zero_add n) h
    rwa [← List.range_eq_range'] at this
  intro m
  induction m with
  | zero => intro j ep st e i; rw [Nat.add_zero] at e; subst e; exact h0 ep st i
  | succ m ih =>
    intro j acc st e i
    rw [List.range'_succ, List.map_cons]
    have := hs _ j acc st (by omega) i fun acc' st' i' => ih (j + 1) acc' st' (by omega) i'
    rw [← Int.zero_add (j : Int)] at this
    exact this
/-- a comprehension without a test that yields one thing f x a turn; Q: what holds of the store; P j x: of the j-th thing -/
theorem lc_each {α β : Type} (fa : α → D) (all : List α) (f : β → D) (P : Nat → α → β → Prop) (Q : DS → Prop) (hG : ∀ st, Q st → G st) (hl : all.length ≤ sizeLine)
    (hs : ∀ (K : D → DS → Prop) (j : Nat) (a : α) st, all[j]? = some a → Q st → (∀ x st', P j a x → Q st' → K (f x) st') → bind (fa a) ep0 fun ep => we ep st K (fun _ _ => False))
    (hb : ∀ d e (q r : DE → Prop), bind d e q → (∀ e', q e' → r e') → bind d e r)
    (hQ : Q st) (h : ∀ (xs : List β) st', xs.length = all.length → (∀ j a x, all[j]? = some a → xs[j]? = some x → P j a x) → Q st' → k (xs.map f) st') : lcL bind ep0 wYes we G k (all.map fa) [] st := by
  refine lc_pre fa all (fun pre acc T => ∃ xs : List β, acc = xs.map f ∧ xs.length = pre.length ∧ (∀ j a x, pre[j]? = some a → xs[j]? = some x → P j a x) ∧ Q T) ?_ ?_ ⟨[], rfl, rfl, fun j a x e => by simp at e, hQ⟩
  · rintro acc T ⟨xs, rfl, hx, hp, q⟩
    exact ⟨hG T q, h xs T hx hp q⟩
  · rintro K pre a r acc T e ⟨xs, rfl, hx, hp, q⟩ ih
    have ea : all[pre.length]? = some a := by rw [e]; simp
    have hlen : pre.length < all.length := by rw [e]; simp
    refine ⟨hG T q, hb _ _ _ _ (hs (fun y st3 => (xs.map f).length < sizeLine ∧ K (xs.map f ++ [y]) st3) pre.length a T ea q fun x st' px q' => ⟨by rw [List.length_map]; omega, ih _ _ ⟨xs ++ [x], by rw [List.map_append]; rfl, by simp [hx], fun j a' x' e1 e2 => ?_, q'⟩⟩) fun e' he => s_yes (s_cT he)⟩
    rcases Nat.lt_or_ge j pre.length with hj | hj
    · rw [List.getElem?_append_left hj] at e1
      rw [List.getElem?_append_left (by omega)] at e2
      exact hp j a' x' e1 e2
    · rw [List.getElem?_append_right hj] at e1
      rw [List.getElem?_append_right (by omega)] at e2
      have h0 : j - pre.length = 0 := by
        rcases Nat.eq_zero_or_pos (j - pre.length) with h | h
        · exact h
        · rw [List.getElem?_eq_none (by simp; omega)] at e1; cases e1
      have h1 : j - xs.length = 0 := by omega
      rw [h0] at e1; rw [h1] at e2
      simp at e1 e2
      subst e1; subst e2
      have : j = pre.length := by omega
      subst this
      exact px
end
section
variable {ep : DE} {st : DS} {as : WA} {RR : List D → (DS → Prop) → DS → Prop} {Rx : RX} {d e : D}
def zipK (ds : List D) (st' : DS) (RR : List D → (DS → Prop) → DS → Prop) : Prop := match ds with
  | [d, e] => itemsD d st' fun xs G1 s => G1 s ∧ itemsD e s fun ys G2 s => RR (zipD xs ys) (fun s => G1 s ∧ G2 s) s
  | _ => False
def enK (ds : List D) (st' : DS) (RR : List D → (DS → Prop) → DS → Prop) : Prop := match ds with
  | [d] => itemsD d st' fun items G s => RR (enumD items) G s
  | _ => False
theorem s_zip (h : as ep st (fun ds st' => zipK ds st' RR) Rx) : wi_zip as ep st RR Rx := h
theorem s_zip2 (h : itemsD d st fun xs G1 s => G1 s ∧ itemsD e s fun ys G2 s => RR (zipD xs ys) (fun s => G1 s ∧ G2 s) s) : zipK [d, e] st RR := h
theorem s_enum (h : as ep st (fun ds st' => enK ds st' RR) Rx) : wi_enumerate as ep st RR Rx := h
theorem s_enum1 (h : itemsD d st fun items G s => RR (enumD items) G s) : enK [d] st RR := h
end
theorem s_catL {p q : Addr} {st : DS} {R : RD} (h : getL st p fun a => getL st q fun b => a.length + b.length ≤ sizeLine ∧ ∀ l, st l = none → R (.ref l) (put st l (.lst (a ++ b)))) : addD (.ref p) (.ref q) st R := h
theorem lk_hit {ep : DE} {i : Nat} {d : D} (h : i < ep.length) : lk (ep.set i (some d)) i = some d := by
  unfold lk
  rw [List.getElem?_set_self h]; rfl
theorem lk_miss {ep : DE} {i j : Nat} {d : D} {x : Option D} (h : i ≠ j) (e : lk ep j = some d) : lk (ep.set i x) j = some d := by
  unfold lk at *
  rw [List.getElem?_set_ne h]; exact e
theorem len_set_lt {ep : DE} {i j : Nat} {x : Option D} (h : i < ep.length) : i < (ep.set j x).length := by rw [List.length_set]; exact h
end DL

/-! == of things without places in them. -/
namespace DL
open PySem PySem.Spec PyProof.Rows L2
mutual
def pdOf : D → PyData
  | .non => .none
  | .bl b => .bool b
  | .int i => .int i
  | .str x => .str x
  | .tup ds => .tuple (pdsOf ds)
  | .scr ds => .none
  | .key ds => .none
  | .ref _ => .none
def pdsOf : List D → List PyData
  | [] => []
  | d :: ds => pdOf d :: pdsOf ds
end
mutual
/-- no places, no script; the texts can be laid -/
def pureOk : D → Bool
  | .non => true
  | .bl _ => true
  | .int _ => true
  | .str x => PySem.PyData.strOk x
  | .tup ds => pureOks ds
  | .scr _ => false
  | .key _ => false
  | .ref _ => false
def pureOks : List D → Bool
  | [] => true
  | d :: ds => pureOk d && pureOks ds
end
mutual
def dep : D → Nat
  | .tup ds => deps ds + 1
  | .non => 0 | .bl _ => 0 | .int _ => 0 | .str _ => 0 | .scr _ => 0 | .ref _ => 0 | .key _ => 0
def deps : List D → Nat
  | [] => 0
  | d :: ds => max (dep d) (deps ds)
end
mutual
def peq : D → D → Bool
  | .non, .non => true
  | .bl a, .bl b => a == b
  | .bl a, .int j => (if a then 1 else 0) == j
  | .int i, .bl b => i == (if b then 1 else 0)
  | .int i, .int j => i == j
  | .str x, .str y => x == y
  | .tup xs, .tup ys => peqs xs ys
  | _, _ => false
def peqs : List D → List D → Bool
  | [], [] => true
  | x :: xs, y :: ys => peq x y && peqs xs ys
  | _, _ => false
end
mutual
theorem pyOf_pd {st : DS} : ∀ d : D, pureOk d = true → PyOf st d (pdOf d)
  | .non, _ => by rw [pdOf]; exact .non
  | .bl b, _ => by rw [pdOf]; exact .bl b
  | .int i, _ => by rw [pdOf]; exact .int i
  | .str x, _ => by rw [pdOf]; exact .str x
  | .tup ds, h => by rw [pdOf]; exact .tup (pyOf_pds ds (by rw [pureOk] at h; exact h))
  | .scr _, h => by rw [pureOk] at h; cases h
  | .key _, h => by rw [pureOk] at h; cases h
  | .ref _, h => by rw [pureOk] at h; cases h
theorem pyOf_pds {st : DS} : ∀ ds : List D, pureOks ds = true → Paired (PyOf st) ds (pdsOf ds)
  | [], _ => by rw [pdsOf]; exact .nil
  | d :: ds, h => by
    rw [pureOks, Bool.and_eq_true] at h
    rw [pdsOf]
    exact .cons (pyOf_pd d h.1) (pyOf_pds ds h.2)
end
mutual
theorem lay_pd : ∀ d : D, pureOk d = true → PyData.canLay0 (pdOf d) = true
  | .non, _ => by rw [pdOf]; rfl
  | .bl b, _ => by rw [pdOf]; rfl
  | .int i, _ => by rw [pdOf]; rfl
  | .str x, h => by rw [pureOk] at h; rw [pdOf]; exact h
  | .tup ds, h => by rw [pureOk] at h; rw [pdOf]; exact lay_pds ds h
  | .scr _, h => by rw [pureOk] at h; cases h
  | .key _, h => by rw [pureOk] at h; cases h
  | .ref _, h => by rw [pureOk] at h; cases h
theorem lay_pds : ∀ ds : List D, pureOks ds = true → PyData.canLayAll0 (pdsOf ds) = true
  | [], _ => by rw [pdsOf]; rfl
  | d :: ds, h => by
    rw [pureOks, Bool.and_eq_true] at h
    rw [pdsOf]
    show (PyData.canLay0 _ && PyData.canLayAll0 _) = true
    rw [lay_pd d h.1, lay_pds ds h.2]; rfl
end
mutual
theorem depth_pd : ∀ d : D, PyData.depth (pdOf d) = dep d
  | .non => by rw [pdOf, dep]; rfl
  | .bl b => by rw [pdOf, dep]; rfl
  | .int i => by rw [pdOf, dep]; rfl
  | .str x => by rw [pdOf, dep]; rfl
  | .tup ds => by rw [pdOf, dep]; show PyData.depthAll _ + 1 = _; rw [depth_pds ds]
  | .scr _ => by rw [pdOf, dep]; rfl
  | .key _ => by rw [pdOf, dep]; rfl
  | .ref _ => by rw [pdOf, dep]; rfl
theorem depth_pds : ∀ ds : List D, PyData.depthAll (pdsOf ds) = deps ds
  | [] => by rw [pdsOf, deps]; rfl
  | d :: ds => by rw [pdsOf, deps]; show max (PyData.depth _) (PyData.depthAll _) = _; rw [depth_pd d, depth_pds ds]
end
mutual
theorem eqv_pd : ∀ a b : D, pureOk a = true → pureOk b = true → PyData.eqv (pdOf a) (pdOf b) = peq a b
  | .tup xs, .tup ys, h, g => by
    rw [pureOk] at h g
    rw [pdOf, pdOf, peq]
    show PyData.eqvAll _ _ = _
    exact eqv_pds xs ys h g
  | .scr _, _, h, _ => by rw [pureOk] at h; cases h
  | .key _, _, h, _ => by rw [pureOk] at h; cases h
  | .ref _, _, h, _ => by rw [pureOk] at h; cases h
  | .non, .scr _, _, h => by rw [pureOk] at h; cases h
  | .non, .key _, _, h => by rw [pureOk] at h; cases h
  | .non, .ref _, _, h => by rw [pureOk] at h; cases h
  | .bl _, .scr _, _, h => by rw [pureOk] at h; cases h
  | .bl _, .key _, _, h => by rw [pureOk] at h; cases h
  | .bl _, .ref _, _, h => by rw [pureOk] at h; cases h
  | .int _, .scr _, _, h => by rw [pureOk] at h; cases h
  | .int _, .key _, _, h => by rw [pureOk] at h; cases h
  | .int _, .ref _, _, h => by rw [pureOk] at h; cases h
  | .str _, .scr _, _, h => by rw [pureOk] at h; cases h
  | .str _, .key _, _, h => by rw [pureOk] at h; cases h
  | .str _, .ref _, _, h => by rw [pureOk] at h; cases h
  | .tup _, .scr _, _, h => by rw [pureOk] at h; cases h
  | .tup _, .key _, _, h => by rw [pureOk] at h; cases h
  | .tup _, .ref _, _, h => by rw [pureOk] at h; cases h
  | .non, .non, _, _ => by rw [pdOf, peq]; rfl
  | .non, .bl _, _, _ => by simp only [pdOf, peq, PyData.eqv]
  | .non, .int _, _, _ => by simp only [pdOf, peq, PyData.eqv]
  | .non, .str _, _, _ => by simp only [pdOf, peq, PyData.eqv]
  | .non, .tup _, _, _ => by simp only [pdOf, peq, PyData.eqv]
  | .bl _, .non, _, _ => by simp only [pdOf, peq, PyData.eqv]
  | .bl _, .bl _, _, _ => by simp only [pdOf, peq, PyData.eqv]
  | .bl _, .int _, _, _ => by simp only [pdOf, peq, PyData.eqv]
  | .bl _, .str _, _, _ => by simp only [pdOf, peq, PyData.eqv]
  | .bl _, .tup _, _, _ => by simp only [pdOf, peq, PyData.eqv]
  | .int _, .non, _, _ => by simp only [pdOf, peq, PyData.eqv]
  | .int _, .bl _, _, _ => by simp only [pdOf, peq, PyData.eqv]
  | .int _, .int _, _, _ => by simp only [pdOf, peq, PyData.eqv]
  | .int _, .str _, _, _ => by simp only [pdOf, peq, PyData.eqv]
  | .int _, .tup _, _, _ => by simp only [pdOf, peq, PyData.eqv]
  | .str _, .non, _, _ => by simp only [pdOf, peq, PyData.eqv]
  | .str _, .bl _, _, _ => by simp only [pdOf, peq, PyData.eqv]
  | .str _, .int _, _, _ => by simp only [pdOf, peq, PyData.eqv]
  | .str _, .str _, _, _ => by simp only [pdOf, peq, PyData.eqv]
  | .str _, .tup _, _, _ => by simp only [pdOf, peq, PyData.eqv]
  | .tup _, .non, _, _ => by simp only [pdOf, peq, PyData.eqv]
  | .tup _, .bl _, _, _ => by simp only [pdOf, peq, PyData.eqv]
  | .tup _, .int _, _, _ => by simp only [pdOf, peq, PyData.eqv]
  | .tup _, .str _, _, _ => by simp only [pdOf, peq, PyData.eqv]
theorem eqv_pds : ∀ a b : List D, pureOks a = true → pureOks b = true → PyData.eqvAll (pdsOf a) (pdsOf b) = peqs a b
  | [], [], _, _ => by simp only [pdsOf, peqs, PyData.eqvAll]
  | [], _ :: _, _, _ => by simp only [pdsOf, peqs, PyData.eqvAll]
  | _ :: _, [], _, _ => by simp only [pdsOf, peqs, PyData.eqvAll]
  | x :: xs, y :: ys, h, g => by
    rw [pureOks, Bool.and_eq_true] at h g
    rw [pdsOf, pdsOf, peqs]
    show (PyData.eqv _ _ && PyData.eqvAll _ _) = _
    rw [eqv_pd x y h.1 g.1, eqv_pds xs ys h.2 g.2]
end
theorem shaped_pd {d : D} (h : pureOk d = true) (hd : dep d ≤ 64) : SeqAt.shaped (pdOf d) = true := by
  unfold SeqAt.shaped
  rw [lay_pd d h, depth_pd]
  exact decide_eq_true hd
section
variable {st : DS} {R : RD} {a b : D}
theorem s_eqP (ha : pureOk a = true) (hb : pureOk b = true) (da : dep a ≤ 64) (db : dep b ≤ 64) (h : R (.bl (peq a b)) st) : eqD a b st R := by
  have deep : ∃ px py, PyOf st a px ∧ PyOf st b py ∧ SeqAt.shaped px = true ∧ SeqAt.shaped py = true ∧ R (.bl (PyData.eqv px py)) st :=
    ⟨_, _, pyOf_pd a ha, pyOf_pd b hb, shaped_pd ha da, shaped_pd hb db, by rw [eqv_pd a b ha hb]; exact h⟩
  unfold eqD
  split
  · rw [peq] at h; exact h
  · rw [peq] at h; exact h
  · rw [peq] at h; exact h
  · rw [peq] at h; exact h
  · simp only [peq] at h; exact h
  · simp only [peq] at h; exact h
  · simp only [peq] at h; exact h
  · simp only [peq] at h; exact h
  · simp only [peq] at h; exact h
  · simp only [peq] at h; exact h
  · exact deep
theorem s_neP (ha : pureOk a = true) (hb : pureOk b = true) (da : dep a ≤ 64) (db : dep b ≤ 64) (h : R (.bl (!peq a b)) st) : neD a b st R := by
  have deep : ∃ px py, PyOf st a px ∧ PyOf st b py ∧ SeqAt.shaped px = true ∧ SeqAt.shaped py = true ∧ R (.bl (!PyData.eqv px py)) st :=
    ⟨_, _, pyOf_pd a ha, pyOf_pd b hb, shaped_pd ha da, shaped_pd hb db, by rw [eqv_pd a b ha hb]; exact h⟩
  unfold neD
  split
  · rw [peq] at h; exact h
  · rw [peq] at h; exact h
  · rw [peq] at h; exact h
  · rw [peq] at h; exact h
  · simp only [peq] at h; exact h
  · simp only [peq] at h; exact h
  · simp only [peq] at h; exact h
  · simp only [peq] at h; exact h
  · simp only [peq] at h; exact h
  · simp only [peq] at h; exact h
  · exact deep
end
mutual
def noB : D → Bool
  | .non => true
  | .bl _ => false
  | .int _ => true
  | .str _ => true
  | .tup ds => noBs ds
  | .scr _ => false
  | .key _ => false
  | .ref _ => false
def noBs : List D → Bool
  | [] => true
  | d :: ds => noB d && noBs ds
end
mutual
theorem peq_refl : ∀ a : D, pureOk a = true → peq a a = true
  | .non, _ => by rw [peq]
  | .bl b, _ => by rw [peq]; exact beq_self_eq_true b
  | .int i, _ => by rw [peq]; exact beq_self_eq_true i
  | .str x, _ => by rw [peq]; exact beq_self_eq_true x
  | .tup ds, h => by rw [pureOk] at h; rw [peq]; exact peqs_refl ds h
  | .scr _, h => by rw [pureOk] at h; cases h
  | .key _, h => by rw [pureOk] at h; cases h
  | .ref _, h => by rw [pureOk] at h; cases h
theorem peqs_refl : ∀ a : List D, pureOks a = true → peqs a a = true
  | [], _ => by rw [peqs]
  | d :: ds, h => by
    rw [pureOks, Bool.and_eq_true] at h
    rw [peqs, peq_refl d h.1, peqs_refl ds h.2]; rfl
end
mutual
theorem peq_inv : ∀ a b : D, noB a = true → noB b = true → peq a b = true → a = b
  | .non, b, _, _, h => by cases b <;> simp [peq] at h ⊢
  | .bl _, _, h, _, _ => by rw [noB] at h; cases h
  | .int i, .int j, _, _, h => by rw [peq] at h; rw [eq_of_beq h]
  | .int i, .bl b, _, h, _ => by rw [noB] at h; cases h
  | .int i, .non, _, _, h => by simp [peq] at h
  | .int i, .str _, _, _, h => by simp [peq] at h
  | .int i, .tup _, _, _, h => by simp [peq] at h
  | .int i, .scr _, _, _, h => by simp [peq] at h
  | .int i, .key _, _, _, h => by simp [peq] at h
  | .int i, .ref _, _, _, h => by simp [peq] at h
  | .str x, b, _, _, h => by cases b <;> simp [peq] at h ⊢; exact h
  | .tup xs, .tup ys, g, g', h => by rw [noB] at g g'; rw [peq] at h; rw [peqs_inv xs ys g g' h]
  | .tup xs, .non, _, _, h => by simp [peq] at h
  | .tup xs, .bl _, _, _, h => by simp [peq] at h
  | .tup xs, .int _, _, _, h => by simp [peq] at h
  | .tup xs, .str _, _, _, h => by simp [peq] at h
  | .tup xs, .scr _, _, _, h => by simp [peq] at h
  | .tup xs, .key _, _, _, h => by simp [peq] at h
  | .tup xs, .ref _, _, _, h => by simp [peq] at h
  | .scr _, _, h, _, _ => by rw [noB] at h; cases h
  | .key _, _, h, _, _ => by rw [noB] at h; cases h
  | .ref _, _, h, _, _ => by rw [noB] at h; cases h
theorem peqs_inv : ∀ a b : List D, noBs a = true → noBs b = true → peqs a b = true → a = b
  | [], [], _, _, _ => rfl
  | [], _ :: _, _, _, h => by simp [peqs] at h
  | _ :: _, [], _, _, h => by simp [peqs] at h
  | x :: xs, y :: ys, g, g', h => by
    rw [noBs, Bool.and_eq_true] at g g'
    rw [peqs, Bool.and_eq_true] at h
    rw [peq_inv x y g.1 g'.1 h.1, peqs_inv xs ys g.2 g'.2 h.2]
end
theorem peq_dec {a b : D} (ha : pureOk a = true) (na : noB a = true) (nb : noB b = true) {p : Prop} [Decidable p] (hp : a = b ↔ p) : peq a b = decide p := by
  by_cases h : p
  · rw [decide_eq_true h]
    have := hp.mpr h
    subst this
    exact peq_refl a ha
  · rw [decide_eq_false h]
    cases e : peq a b with
    | false => rfl
    | true => exact absurd (hp.mp (peq_inv a b na nb e)) h
end DL

/-! The law's own start. -/
namespace DL
open PySem PySem.Spec PyProof.Rows L2
theorem sqF_of {K : PySem.W.Frag} {H : Hp} {a : Addr} {vs : List V} (hO : Only H) (hS : SqL K H a vs) : SqF K H a vs := by
  rcases hS with (h | h) | h
  · rcases hO a with z | ⟨o, xs, z⟩
    · rw [h] at z; cases z
    · rw [h] at z; cases z
  · exact .inl h
  · exact .inr h
theorem reps_ints {K : PySem.W.Frag} {H : Hp} : ∀ ns : List Int, Reps K H (ns.map D.int) (ns.map V.int)
  | [] => Reps_nil.mpr rfl
  | n :: ns => Reps_cons.mpr ⟨_, _, rfl, Rep_int.mpr rfl, reps_ints ns⟩
theorem law_start {K : PySem.W.Frag} {H : Hp} {a : Addr} {ns : List Int} {S : SpD} (hO : Only H) (hS : SqL K H a (ns.map V.int)) (h : S [.scr (ns.map D.int)] (fun _ => none) (fun d _ => d = .bl true) (fun _ _ => False)) :
    spOf K S [.ref a] H (fun v _ => v = .bl true) fun _ _ _ => False := by
  refine ⟨[.scr (ns.map D.int)], fun _ => none, _, _, Reps_cons.mpr ⟨_, _, rfl, Rep_scr.mpr ⟨a, _, rfl, sqF_of hO hS, reps_ints ns⟩, Reps_nil.mpr rfl⟩, fun _ _ e => (by cases e), h, ?_, fun _ _ _ _ _ _ _ _ z => z.elim⟩
  rintro v H' d st' - - r rfl
  exact Rep_bl.mp r
theorem no_cx {P : Program} {w : World} {H : Hp} {s : Shared} {e : Value} {s' : Shared} (h : L2.CX P w [] H s (fun _ _ _ => False) e s') : False := by
  obtain ⟨_, _, _, _, _, -, -, -, -, -, -, -, z⟩ := h
  exact z
end DL

/-! Own exception classes below ValueError whose __init__ says super().__init__("text"), and perhaps self.f = f. -/
namespace DL
open PySem PySem.Spec PySem.W PySem.Calls PyProof.Rows L2 PySem.HandSPX

/-- the first statement of such an __init__ -/
abbrev supS (T : Str) (j : Nat) (p0 p1 p2 p3 p4 p5 : Pos) : Stmt := .Expr (.Call (.Attribute (.Call (.Name "super" p0) [] [] p1) "__init__" p2) [.Constant (.str T) j p3] [] p4) p5
/-- what the written part says of a class x, at C, its __init__ at fI -/
structure XB (P : Program) (K : Frag) (mg : Str → Option Value) (x : Str) (C fI : Addr) (params : Arguments) (rest : List Stmt) (scope : Scope) : Prop where
  gC : mg x = some (.ref C)
  ox : OexC K C
  iC : findIn K (.ref C) "__init__" = some (some (.ref fI))
  tI : typeIn K (.ref fI) = some (.type "function")
  hB : subIn K (.ref C) (.type "ValueError") = some true
  sup : ks_superIn K C C "__init__" = some (some (.builtin "ValueError.__init__"))
  opq : nsIn K cStatics "thirdparty.any" = some none
  nsup : mg "super" = none
  slf : mroIn K C (.ref C) = some true
  top : (P.main.scope.names.lookup ("super" : Str)).isSome = false
  fn : ∃ (oc dV kV doc pm ct : Value) (od an : Option Addr) (osl : Array (Option Value)) (cda cc : Addr) (qual T : Str) (j : Nat) (p0 p1 p2 p3 p4 p5 : Pos),
    K.lookup fI = some ⟨oc, od, .func (ksFn "__init__" qual params (supS T j p0 p1 p2 p3 p4 p5 :: rest) scope dV kV doc pm an (.ref cda) ct cc), osl⟩ ∧ codeIn K (.ref cda) qual = true ∧ (p2.endLine == p4.line) = true ∧
    (∃ (ccl : Value) (cdd : Option Addr) (ccs : Array (Option Value)) (vs : Array Value) (file : Str) (tf : Tok), K.lookup cda = some ⟨ccl, cdd, .fields vs, ccs⟩ ∧ vs[2]? = some (.str file tf) ∧ ((P.main.file : Str) == file) = true) ∧
    (∃ (cl : Value) (cld : Option Addr) (csl : Array (Option Value)), K.lookup cc = some ⟨cl, cld, .cell (some (.ref C)), csl⟩) ∧
    (∀ us : List Value, us.length = params.args.length → bindArgs (ksFn "__init__" qual params (supS T j p0 p1 p2 p3 p4 p5 :: rest) scope dV kV doc pm an (.ref cda) ct cc) ⟨us, []⟩ = pure ((params.args.map (·.arg)).zip us))
  pos : params.posonlyargs = []
  par : ∃ ar l, params.posonlyargs ++ params.args = ar :: l ∧ ar.arg = "self"
  hks : scope.names.lookup ("super" : Str) = some .globalImplicit
  hkc : scope.names.lookup ("__class__" : Str) = some .free
  hka : scope.names.lookup ("self" : Str) = some .local
  hk : scope.kind = .function
  cell : ∀ x ∈ scope.names, x.2 ≠ .cell
  co : scope.isCoroutine = false
  gen : scope.isGenerator = false

section
variable {prog : Program} {w : World} {A : Around} {E : Value → Shared → Prop} {h : Heap} {g : Array GenState} {d : Drawn} {t : Nat} {os : OsState}
variable {nm q : Str} {C N : Addr} {bs bm : List Value} {hdct : Bool} {sn : List Str} {sub : List Value} {ab : Bool} {col : Option Bool} {dd : Option Addr} {k0 k1 k2 k3 k5 : Option Value}
theorem call_mwV {u e t0 : Addr} {rest : List Value} {Q : Value → Shared → Prop}
    (hC : h.get? C = some (excClassObj nm q C N bs bm hdct sn sub ab col dd k0 k1 k2 k3 k5 "ValueError.__new__")) (he : h.get? e = some (HandSPX.excO C t0)) (hu : h.get? u = some (kxs_mw "ValueError.__init__" e)) (hrest : rest.length ≤ sizeLine)
    (hq : ∀ h' t1, (∀ b o, b ≠ e → h.get? b = some o → h'.get? b = some o) → h'.get? e = some (HandSPX.excO C t1) → Q .none ⟨h', g, d, t, os⟩) :
    wpAny (model prog w) A (call (.ref u) rest) Q E ⟨h, g, d, t, os⟩ := by
  refine wpAny_call (codeAny_of_tree ?_)
  show wpAny _ A.in1 (callAny (.ref u) ⟨rest, []⟩) _ _ _
  simp only [callAny]
  refine wpAny_bind (wpAny_load hu ?_)
  simp only [kxs_mw, show (Value.type "method-wrapper" == Value.type "method" || Value.type "method-wrapper" == Value.type "builtin_function_or_method" || Value.type "method-wrapper" == Value.type "method-wrapper") = true by decide, if_true]
  refine W.KFB.if_so (by decide) ?_
  refine wpAny_bind (ESX.check_bound F.excBase_ValueError hC he rfl ?_)
  refine wpAny_bind (wpAny_pure (wpAny_pure ?_))
  refine ⟨Code.quiet_builtin _ (by decide +kernel), codeAny_builtin F.excBase_ValueError.initEntry ?_⟩
  rw [Around.under_plainId F.excBase_ValueError.init.plain _]
  wp_walk
  refine hq _ h.objs.size (fun b o hb ho => ?_) ?_
  · rw [Heap.get?_update_other _ _ (Ne.symm hb)]
    exact Heap.get?_push_of_some _ ho
  · rw [Heap.get?_update_self _ (Heap.get?_push_of_some _ he) rfl]
    rfl
end

section
variable {P : Program} {w : World} {A : Around} {E : Value → Shared → Prop} {R : Result → Shared → Prop} {K : Frag} {mg : Str → Option Value} {x : Str} {C fI : Addr} {params : Arguments} {rest : List Stmt} {scope : Scope}
theorem clsIn_of {C : Addr} {oc : Value} {od : Option Addr} {cd : ClassData} {sl : Array (Option Value)} (h : K.lookup C = some ⟨oc, od, .cls cd, sl⟩) : clsIn K C = some cd := by unfold clsIn; rw [h] <;> rfl

/-- the statement super().__init__("text") -/
theorem sup_stmt (T : XB P K mg x C fI params rest scope) {h : Heap} {g : Array GenState} {d : Drawn} {t : Nat} {os : OsState} {L e t0 cda cc : Addr} {m : Str → Option Value} {body : List Stmt} {qual TX : Str} {j : Nat} {p0 p1 p2 p3 p4 p5 : Pos}
    {oc dV kV doc pm ct : Value} {od an : Option Addr} {osl : Array (Option Value)} {Q : Flow → Shared → Prop} (hline : (p2.endLine == p4.line) = true)
    (hf : K.lookup fI = some ⟨oc, od, .func (ksFn "__init__" qual params body scope dV kV doc pm an (.ref cda) ct cc), osl⟩)
    (hcode : ∃ (ccl : Value) (cdd : Option Addr) (ccs : Array (Option Value)) (vs : Array Value) (file : Str) (tf : Tok), K.lookup cda = some ⟨ccl, cdd, .fields vs, ccs⟩ ∧ vs[2]? = some (.str file tf) ∧ ((P.main.file : Str) == file) = true)
    (hcell : ∃ (cl : Value) (cld : Option Addr) (csl : Array (Option Value)), K.lookup cc = some ⟨cl, cld, .cell (some (.ref C)), csl⟩)
    (X : K.In h) (hg : h.Ns mainGlobals mg) (hb : ∃ mb, h.Ns builtinsNs mb ∧ ∀ x : Str, x ≠ "__name__" → mb x = bootBuiltins x) (hn : h.Ns L m) (hm : m "self" = some (.ref e)) (he : h.get? e = some (HandSPX.excO C t0)) (hnx : K.lookup e = none)
    (hq : ∀ h' t1 t', (∀ b o, b ≠ e → h.get? b = some o → h'.get? b = some o) → h'.get? e = some (HandSPX.excO C t1) → Q .next ⟨h', g, d, t', os⟩) :
    _root_.PySem.wpAt (model P w) A (.func body (ksEnv qual scope L fI (.ref cda) cc)) (exec (supS TX j p0 p1 p2 p3 p4 p5) (ksEnv qual scope L fI (.ref cda) cc)) Q E ⟨h, g, d, t, os⟩ := by
  obtain ⟨ccl, cdd, ccs, vs, file, tf, hco, hvs, hfile⟩ := hcode
  obtain ⟨cl, cld, csl, hce⟩ := hcell
  obtain ⟨nm, q, N, bs, bm, sn, sub, ab, col, dd, k0, k1, k2, k3, k5, hC, hbm⟩ := T.ox.cls
  obtain ⟨ar, l, hpar, har⟩ := T.par
  obtain ⟨mb, hb1, hb2⟩ := hb
  have hcl : ∃ cd : ClassData, clsIn K C = some cd ∧ ∃ oC, h.get? C = some oC ∧ oC.data = .cls cd := ⟨_, clsIn_of hC, _, X _ _ hC, rfl⟩
  obtain ⟨cd, hcd, oC, hC1, hC2⟩ := hcl
  have hne : e ≠ C := fun z => by rw [z, hC] at hnx; cases hnx
  have hev : eval (.Call (.Attribute (.Call (.Name "super" p0) [] [] p1) "__init__" p2) [.Constant (.str TX) j p3] [] p4) (ksEnv qual scope L fI (.ref cda) cc) = (do
      let ov ← attributeBase (.Call (.Name "super" p0) [] [] p1) "__init__" (ksEnv qual scope L fI (.ref cda) cc) (eval (.Call (.Name "super" p0) [] [] p1) (ksEnv qual scope L fI (.ref cda) cc))
      standAt p2.atName
      let (f, first) ← holding [ov] (getMethod ov "__init__" (do return (← importBound (.Call (.Name "super" p0) [] [] p1) (ksEnv qual scope L fI (.ref cda) cc)).getD true))
      callWith p4 f first (backTo p4 (starEach [.Constant (.str TX) j p3] (ksEnv qual scope L fI (.ref cda) cc))) []) := by
    rw [arm_eval_Call]
    have hform : methodCallForm (([.Constant (.str TX) j p3] : List Expr).length + ([] : List Keyword).length) (backTo p4 (starEach [.Constant (.str TX) j p3] (ksEnv qual scope L fI (.ref cda) cc))) (backToKw p4 (keywordEach [] (ksEnv qual scope L fI (.ref cda) cc))) = true := by rfl
    have hpos : methodCallPos true (.Call (.Name "super" p0) [] [] p1) (ksEnv qual scope L fI (.ref cda) cc) p2 p4 = pure p4 := by unfold methodCallPos; simp [hline]
    unfold methodCall
    rw [hform]
    simp only [hpos, calleeOf, if_true, pure_bind]
    rfl
  refine ks_wpAt_Expr_any (ks_wpAt_MethodCall ?_ hev) (by simp [interactive, T.hk]; try decide) (by rfl)
  refine ks_wpAt_super_base (env := ksEnv qual scope L fI (.ref cda) cc) T.hks T.hkc (by decide) rfl (X _ _ hf) rfl (ar := ar) (by show (params.posonlyargs ++ params.args).head? = _; rw [hpar]; rfl) rfl (X _ _ hco) rfl hvs hfile T.top ?_
  refine ks_loadName_global T.hk T.hks (loadGlobal_builtin (env := ksEnv qual scope L fI (.ref cda) cc) hg T.nsup hb1 ((hb2 _ (by decide)).trans PyProof.Rows.Boot.«super») ⟨rfl, ?_⟩)
  refine wpAny_loadName_free T.hk T.hkc rfl ⟨_, X _ _ hce, rfl⟩ ?_
  rw [har]
  refine wpAny_loadName_local T.hk T.hka hn hm ?_
  refine ks_wpAny_isType_cls hC1 hC2 ⟨rfl, ?_⟩
  refine ks_wpAny_call_super hC1 hC2 he rfl (fun c z => by cases z) (looks_mroIn X T.slf) (fun h1 e1 k1' => ?_)
  have X1 : K.In h1 := X.keeps k1'
  have he1 := k1' _ _ he
  have I1 : InstAt h1 e (HandSPX.excO C t0) C none := ⟨he1, rfl, rfl, trivial⟩
  have hsup := T.sup
  unfold ks_superIn at hsup
  rw [hcd, Option.bind_some] at hsup
  refine kxs_getMethod (l₀ := cd.mro) kxs_ValueError e1 (looks_opaque X1 T.opq) (fun A Q E s k q => wpAny_bind ((looks_clsIn X1 hcd) A _ E s k (wpAny_pure q))) rfl X1 hsup (I1.type.andThen (looks_subIn X1 T.hB)) hne (by decide) ?_
  have k2' : ∀ b o, h1.get? b = some o → (h1.push (kxs_mw "ValueError.__init__" e)).get? b = some o := fun b o z => Heap.get?_push_of_some _ z
  have hu : (h1.push (kxs_mw "ValueError.__init__" e)).get? h1.objs.size = some (kxs_mw "ValueError.__init__" e) := Heap.get?_push_at rfl rfl
  show wpAny _ _ (callWith p4 (.ref h1.objs.size) [] (backTo p4 (starEach [.Constant (.str TX) j p3] _)) []) _ _ _
  refine kxs_callWith (i := "ValueError.__init__") (x := e) (by rfl) ?_
  refine evalArgs_plain ?_
  refine Calls.spliced_cons (Calls.Constant_str (k := j) (pos := p3) (Calls.spliced_nil ⟨hu, ?_⟩))
  exact call_mwV (X1.keeps k2' _ _ hC) (k2' _ _ he1) hu (by rw [sizeLine_eq]; exact (by decide : 1 ≤ 16777216)) fun h' t1 k3' he' => hq h' t1 _ (fun b o hb z => k3' b o hb (k2' _ _ (k1' _ _ z))) he'
/-- what a run of __init__ leaves of a fresh exception at x; ns: its fields -/
structure Left (h h' : Heap) (x C : Addr) (od : Option Addr) (f : Str) (u : Value) : Prop where
  keep : ∀ b o, b ≠ x → h.get? b = some o → h'.get? b = some o
  obj : ∃ t1 : Addr, h'.get? x = some { cls := .ref C, dict := od, data := .fields #[.ref t1, .none, .none, .none, .bool false, .none] }
  dct : ∀ dx, od = some dx → h.objs.size ≤ dx ∧ dx ≠ x ∧ h'.Ns1 dx (fun y => if y = f then some u else none)

theorem init0 (T : XB P K mg x C fI params [] scope) (hpa : params.args.length = 1) {h : Heap} {g : Array GenState} {d : Drawn} {t : Nat} {os : OsState} {e t0 : Addr}
    (X : K.In h) (hg : h.Ns mainGlobals mg) (hb : ∃ mb, h.Ns builtinsNs mb ∧ ∀ x : Str, x ≠ "__name__" → mb x = bootBuiltins x) (lim : h.NoLimit) (he : h.get? e = some (HandSPX.excO C t0)) (hnx : K.lookup e = none) (hroom : A.depth < recursionLimit)
    (hq : ∀ h' t', Left h h' e C none "" .none → R (.ok (.ret .none)) ⟨h', g, d, t', os⟩) :
    codeAny (model P w) A (.call (.ref fI) ⟨[.ref e], []⟩) R ⟨h, g, d, t, os⟩ := by
  obtain ⟨oc, dV, kV, doc, pm, ct, od, an, osl, cda, cc, qual, TX, j, p0, p1, p2, p3, p4, p5, hf, hcd, hline, hco, hce, hbind⟩ := T.fn
  obtain ⟨ar, l, hpar, har⟩ := T.par
  have hbd := hbind [.ref e] (by rw [hpa]; rfl)
  have hpm : params.args.map (·.arg) = [("self" : Str)] := by
    have hpo := T.pos
    rw [hpo, List.nil_append] at hpar
    rw [hpar] at hpa ⊢
    have : l = [] := by simpa using hpa
    subst this
    rw [List.map_cons, har]; rfl
  rw [hpm] at hbd
  refine ks_codeAny_call_defAt (fd := ksFn "__init__" qual params (supS TX j p0 p1 p2 p3 p4 p5 :: []) scope dV kV doc pm an (.ref cda) ct cc) hroom (X _ _ hf) rfl lim (codeRec_of X hcd) rfl (BindsTo.of_eq hbd) T.cell ?_ (fun h₀ hns k0 => ?_) T.co T.gen T.hk
  · intro y hy
    have : y = (("self" : Str), Value.ref e) := by simpa using hy
    rw [this]; exact T.hka
  · refine ks_wpAt_execs_cons ?_
    refine sup_stmt T hline hf hco hce (X.keeps k0) (hg.keeps k0) ?_ hns (by rfl) (k0 _ _ he) hnx fun h' t1 t' k1 he' => ?_
    · obtain ⟨mb, b1, b2⟩ := hb
      exact ⟨mb, b1.keeps k0, b2⟩
    · exact _root_.PySem.wpAt_of_wpAny (wpAny_execs_nil (hq h' t' ⟨fun b o hne z => k1 b o hne (k0 b o z), ⟨t1, he'⟩, fun dx z => by cases z⟩))

theorem init1 {f : Str} {q1 q2 q3 q4 : Pos} (T : XB P K mg x C fI params [.Assign [.Attribute (.Name "self" q1) f q2] (.Name f q3) q4] scope) (hpa : params.args.map (·.arg) = [("self" : Str), f]) {h : Heap} {g : Array GenState} {d : Drawn} {t : Nat} {os : OsState} {e t0 : Addr} {u : Value}
    (hsf : f ≠ "self") (hkf : scope.names.lookup f = some .local) (hdf : (f == ("__debug__" : Str)) = false) (hno : findIn K (.ref C) f = some none)
    (X : K.In h) (hg : h.Ns mainGlobals mg) (hb : ∃ mb, h.Ns builtinsNs mb ∧ ∀ x : Str, x ≠ "__name__" → mb x = bootBuiltins x) (lim : h.NoLimit) (he : h.get? e = some (HandSPX.excO C t0)) (hnx : K.lookup e = none) (hroom : A.depth < recursionLimit)
    (hq : ∀ h' t' dx, Left h h' e C (some dx) f u → R (.ok (.ret .none)) ⟨h', g, d, t', os⟩) :
    codeAny (model P w) A (.call (.ref fI) ⟨[.ref e, u], []⟩) R ⟨h, g, d, t, os⟩ := by
  obtain ⟨oc, dV, kV, doc, pm, ct, od, an, osl, cda, cc, qual, TX, j, p0, p1, p2, p3, p4, p5, hf, hcd, hline, hco, hce, hbind⟩ := T.fn
  have hlen : params.args.length = 2 := by
    have := congrArg List.length hpa
    rw [List.length_map] at this; exact this
  have hbd := hbind [.ref e, u] (by rw [hlen]; rfl)
  rw [hpa] at hbd
  obtain ⟨nm, q, N, bs, bm, sn, sub, ab, col, dd, k0, k1, k2, k3, k5, hC, hbm⟩ := T.ox.cls
  have hcl : clsIn K C = some { name := nm, bases := bs, mro := .ref C :: bm, ns := N, qualname := q, hasDict := true, slotNames := sn, subclasses := sub, abstract := ab, collection := col, hasDel := false } := by unfold clsIn; rw [hC] <;> rfl
  refine ks_codeAny_call_defAt (fd := ksFn "__init__" qual params (supS TX j p0 p1 p2 p3 p4 p5 :: [.Assign [.Attribute (.Name "self" q1) f q2] (.Name f q3) q4]) scope dV kV doc pm an (.ref cda) ct cc) hroom (X _ _ hf) rfl lim (codeRec_of X hcd) rfl (BindsTo.of_eq hbd) T.cell ?_ (fun h₀ hns k0 => ?_) T.co T.gen T.hk
  · intro y hy
    have : y = (("self" : Str), Value.ref e) ∨ y = (f, u) := by simpa using hy
    rcases this with rfl | rfl
    · exact T.hka
    · exact hkf
  · refine ks_wpAt_execs_cons ?_
    have hself : (fun x => ([(("self" : Str), Value.ref e), (f, u)] : List (Str × Value)).reverse.lookup x) "self" = some (.ref e) := by
      have z : (("self" : Str) == f) = false := by simpa using fun y => hsf y.symm
      simp [List.lookup, z]
    have hfv : (fun x => ([(("self" : Str), Value.ref e), (f, u)] : List (Str × Value)).reverse.lookup x) f = some u := by simp [List.lookup]
    refine sup_stmt T hline hf hco hce (X.keeps k0) (hg.keeps k0) ?_ hns hself (k0 _ _ he) hnx fun h' t1 t' k1 he' => ?_
    · obtain ⟨mb, b1, b2⟩ := hb
      exact ⟨mb, b1.keeps k0, b2⟩
    · refine _root_.PySem.wpAt_of_wpAny (wpAny_execs_cons (plainObj_wpAny_Assign_Attribute ?_))
      have hLe : h.objs.size ≠ e := Nat.ne_of_gt (Heap.lt_size he)
      have hns' : h'.Ns h.objs.size (fun x => ([(("self" : Str), Value.ref e), (f, u)] : List (Str × Value)).reverse.lookup x) := by
        obtain ⟨o, es, ep, h1, h2⟩ := hns
        exact ⟨o, es, ep, k1 _ _ hLe h1, h2⟩
      have X' : K.In h' := fun a o z => k1 a o (fun y => by rw [y, hnx] at z; cases z) (X.keeps k0 a o z)
      refine wpAny_Name (wpAny_loadName_local T.hk hkf hns' hfv ?_) hdf
      refine wpAny_Name (wpAny_loadName_local T.hk T.hka hns' hself ?_) (by decide)
      refine set_plain X' (ox := HandSPX.excO C t1) (od := none) ⟨he', rfl, rfl, trivial⟩ T.ox.sa ?_
      refine exc_osa X' he' hcl (show refsVE (.ref C :: bm) = true from hbm) rfl hno (fun h3 tk3 dx k3' dn dne hx3 hn3 => ?_)
      refine wpAny_execs_nil (hq h3 tk3 dx ⟨fun b o hne z => k3' b o hne (k1 b o hne (k0 b o z)), ⟨t1, hx3⟩, fun dx' z => ?_⟩)
      cases z
      exact ⟨Nat.le_trans (Nat.le_of_lt (Nat.lt_of_lt_of_le hns'.lt (Nat.le_refl _))) dn, dne, hn3⟩
end

theorem relO_one {f : Str} {v : V} {v' : Value} (r : RelV v v') (g : Str) : RelO (List.lookup g [(f, v)]) (if g = f then some v' else none) := by
  by_cases hw : g = f
  · subst hw
    rw [if_pos rfl]
    have q : List.lookup g [(g, v)] = some v := by simp [List.lookup]
    rw [q]
    exact r
  · rw [if_neg hw]
    have qw : (g == f) = false := by simpa using hw
    have q2 : List.lookup g [(f, v)] = none := by simp [List.lookup, qw]
    rw [q2]
    trivial
section
variable {X : Cx} {x : Str} {C fI : Addr} {params : Arguments} {scope : Scope} {p pos : Pos} {k : Nat}
/-- C() -/
theorem pmk_c0 (T : XB X.prog X.K X.mg x C fI params [] scope) (hpa : params.args.length = 1) (hr : Room (k + 1) X.A) (hg : Gl X x) (hdb : (x == ("__debug__" : Str)) = false) :
    PMk X (.Call (.Name x p) [] [] pos) (fun _ H Q => Q (.ref C) none H) := by
  intro pins s σ H Q I q1
  obtain ⟨nm, q, N, bs, bm, sn, sub, ab, col, dd, k0, k1, k2, k3, k5, hC, hbm⟩ := T.ox.cls
  refine wpAny_Call_Name_kw (ld_glob I hg T.gC ?_ hdb)
  refine PySem.W.callWith_K0 I.kIn T.ox.kC ?_
  show wpAny _ _ (call (.ref C) []) _ _ _
  have hlim := I.nolimit
  have hglob := I.mod.glob.keeps I.bk
  have hblt : ∃ mb, s.heap.Ns builtinsNs mb ∧ ∀ x : Str, x ≠ "__name__" → mb x = bootBuiltins x := by
    obtain ⟨mb, h1, h2⟩ := I.mod.blt
    exact ⟨mb, h1.keeps I.bk, h2⟩
  have hkin := I.kIn
  obtain ⟨hp, g, dr, tk, os⟩ := s
  have kk : ∀ b o, hp.get? b = some o → ((hp.push (PySem.W.kdv_tup [])).push (PySem.HandSPX.excO C hp.objs.size)).get? b = some o := fun b o e => Heap.get?_push_of_some _ (Heap.get?_push_of_some _ e)
  have hget : ((hp.push (PySem.W.kdv_tup [])).push (PySem.HandSPX.excO C hp.objs.size)).get? (hp.objs.size + 1) = some (PySem.HandSPX.excO C hp.objs.size) := by heap_get
  have hnx : X.K.lookup (hp.objs.size + 1) = none := by
    cases e : X.K.lookup (hp.objs.size + 1) with
    | none => rfl
    | some o =>
      have z : hp.get? (hp.objs.size + 1) = some o := hkin _ _ e
      exact absurd (Nat.lt_of_succ_lt (Heap.lt_size z)) (Nat.lt_irrefl _)
  refine wpAny_call (PySem.HandSPX.call_own F.excBase_ValueError (fun Y => PySem.HandSPX.refsVE_contains Y bm hbm) (hkin _ _ hC) (PySem.W.looks_findIn hkin T.iC) (fun self => PySem.W.bind_fn hkin self T.tI) (by rw [sizeLine_eq]; exact (by decide : 0 ≤ 16777216)) ?_)
  refine init0 T hpa (hkin.keeps kk) (hglob.keeps kk) ?_ (hlim.keeps kk) hget hnx ?_ fun h' tk' M => ?_
  · obtain ⟨mb, h1, h2⟩ := hblt
    exact ⟨mb, h1.keeps kk, h2⟩
  · show X.A.depth + 1 < recursionLimit
    have := hr.dp; omega
  · refine ⟨rfl, ?_⟩
    have ae : hp.objs.size ≤ hp.objs.size + 1 := Nat.le_succ _
    obtain ⟨t1, hoe⟩ := M.obj
    obtain ⟨G', g1, g2⟩ := restrict h' fun b => decide (b ≠ hp.objs.size + 1)
    have gk : ∀ b, b ≠ hp.objs.size + 1 → G'.get? b = h'.get? b := fun b hb => g1 b (decide_eq_true hb)
    have ge : G'.get? (hp.objs.size + 1) = none := g2 _ (by simp)
    have nne : ∀ {b : Addr} {o : Obj}, hp.get? b = some o → b ≠ hp.objs.size + 1 := fun {b o} z => Nat.ne_of_lt (Nat.lt_succ_of_lt (Heap.lt_size z))
    have old : ∀ b o, hp.get? b = some o → G'.get? b = some o := fun b o z => (gk b (nne z)).trans (M.keep b o (nne z) (kk b o z))
    have J : Inv X pins σ H ⟨G', g, dr, tk', os⟩ := I.kept (t' := tk') old
    refine ⟨hp.objs.size + 1, _, _, ⟨G', g, dr, tk', os⟩, _, .ref C, none, rfl, J, fun b o z => ?_, ge, hoe, ⟨rfl, rfl⟩, rfl, rfl, I.hok.fresh ae, rfl, I.bare, raises_own T.ox.exC T.ox.tyC, q1⟩
    by_cases hb : b = hp.objs.size + 1
    · have z' : G'.get? b = some o := z
      rw [hb, ge] at z'; cases z'
    · exact (gk b hb).symm.trans z
/-- C(e) -/
theorem pmk_c1 {f : Str} {q1 q2 q3 q4 : Pos} {a : Expr} {ta : TA} (T : XB X.prog X.K X.mg x C fI params [.Assign [.Attribute (.Name "self" q1) f q2] (.Name f q3) q4] scope) (hpa : params.args.map (·.arg) = [("self" : Str), f])
    (hsf : f ≠ "self") (hkf : scope.names.lookup f = some .local) (hdf : (f == ("__debug__" : Str)) = false) (hno : findIn X.K (.ref C) f = some none) (hr : Room (k + 1) X.A) (hg : Gl X x) (hdb : (x == ("__debug__" : Str)) = false) (ha : PA X [a] ta)
    (he : starEach (a :: []) X.env = (false, eval a X.env) :: starEach [] X.env := by rfl) (hpl : (backTo pos (starEach [] X.env)).any (·.1) = false := by rfl) :
    PMk X (.Call (.Name x p) [a] [] pos) (fun σ H Q => ta σ H fun vs H1 => ∃ v, vs = [v] ∧ ∀ d, H1 d = none → Q (.ref C) (some d) (upd H1 d (.xd [(f, v)]))) := by
  intro pins s σ H Q I h
  obtain ⟨nm, q, N, bs, bm, sn, sub, ab, col, dd, k0, k1, k2, k3, k5, hC, hbm⟩ := T.ox.cls
  refine wpAny_Call_Name_kw (ld_glob I hg T.gC ?_ hdb)
  refine PySem.W.callWith_K (h₀ := X.base) I.ok.mod.kin T.ox.kC (thn (ha.run pos pins s σ H _ I h) fun us s1 hh => ?_) he hpl
  obtain ⟨vs, H1, I1, r1, v, ev, qv⟩ := hh
  subst ev
  refine ⟨I1.kIn, ?_⟩
  cases r1 with
  | cons rv rn =>
    rename_i v' us'
    cases rn
    show wpAny _ _ (call (.ref C) [v']) _ _ _
    have hlim := I1.nolimit
    have hglob := I1.mod.glob.keeps I1.bk
    have hblt : ∃ mb, s1.heap.Ns builtinsNs mb ∧ ∀ x : Str, x ≠ "__name__" → mb x = bootBuiltins x := by
      obtain ⟨mb, h1, h2⟩ := I1.mod.blt
      exact ⟨mb, h1.keeps I1.bk, h2⟩
    have hkin := I1.kIn
    obtain ⟨hp, g, dr, tk, os⟩ := s1
    have kk : ∀ b o, hp.get? b = some o → ((hp.push (PySem.W.kdv_tup [v'])).push (PySem.HandSPX.excO C hp.objs.size)).get? b = some o := fun b o e => Heap.get?_push_of_some _ (Heap.get?_push_of_some _ e)
    have hget : ((hp.push (PySem.W.kdv_tup [v'])).push (PySem.HandSPX.excO C hp.objs.size)).get? (hp.objs.size + 1) = some (PySem.HandSPX.excO C hp.objs.size) := by heap_get
    have hnx : X.K.lookup (hp.objs.size + 1) = none := by
      cases e : X.K.lookup (hp.objs.size + 1) with
      | none => rfl
      | some o =>
        have z : hp.get? (hp.objs.size + 1) = some o := hkin _ _ e
        exact absurd (Nat.lt_of_succ_lt (Heap.lt_size z)) (Nat.lt_irrefl _)
    refine wpAny_call (PySem.HandSPX.call_own F.excBase_ValueError (fun Y => PySem.HandSPX.refsVE_contains Y bm hbm) (hkin _ _ hC) (PySem.W.looks_findIn hkin T.iC) (fun self => PySem.W.bind_fn hkin self T.tI) (by rw [sizeLine_eq]; exact (by decide : 1 ≤ 16777216)) ?_)
    refine init1 T hpa hsf hkf hdf hno (hkin.keeps kk) (hglob.keeps kk) ?_ (hlim.keeps kk) hget hnx ?_ fun h' tk' dx M => ?_
    · obtain ⟨mb, h1, h2⟩ := hblt
      exact ⟨mb, h1.keeps kk, h2⟩
    · show X.A.depth + 1 < recursionLimit
      have := hr.dp; omega
    · refine ⟨rfl, ?_⟩
      have ae : hp.objs.size ≤ hp.objs.size + 1 := Nat.le_succ _
      obtain ⟨t1, hoe⟩ := M.obj
      obtain ⟨dn, dne, hns⟩ := M.dct dx rfl
      have dbig : hp.objs.size ≤ dx := by
        have z := dn
        rw [Heap.size_push, Heap.size_push] at z
        omega
      obtain ⟨G', g1, g2⟩ := restrict h' fun b => decide (b ≠ hp.objs.size + 1)
      have gk : ∀ b, b ≠ hp.objs.size + 1 → G'.get? b = h'.get? b := fun b hb => g1 b (decide_eq_true hb)
      have ge : G'.get? (hp.objs.size + 1) = none := g2 _ (by simp)
      have nne : ∀ {b : Addr} {o : Obj}, hp.get? b = some o → b ≠ hp.objs.size + 1 := fun {b o} z => Nat.ne_of_lt (Nat.lt_succ_of_lt (Heap.lt_size z))
      have old : ∀ b o, hp.get? b = some o → G'.get? b = some o := fun b o z => (gk b (nne z)).trans (M.keep b o (nne z) (kk b o z))
      have ob : ObjOk X.prog X.w (upd H1 dx (.xd [(f, v)])) G' dx (.xd [(f, v)]) :=
        ⟨_, hns.at (fun o z => (gk dx dne).trans z), fun y => relO_one rv y⟩
      have J : Inv X pins σ (upd H1 dx (.xd [(f, v)])) ⟨G', g, dr, tk', os⟩ := I1.laid (t' := tk') old dbig ob
      refine ⟨hp.objs.size + 1, _, _, ⟨G', g, dr, tk', os⟩, _, .ref C, some dx, rfl, J, fun b o z => ?_, ge, hoe, ⟨rfl, rfl⟩, rfl, rfl, ?_, rfl, I1.bare, raises_own T.ox.exC T.ox.tyC, qv dx (I1.hok.fresh dbig)⟩
      · by_cases hb : b = hp.objs.size + 1
        · have z' : G'.get? b = some o := z
          rw [hb, ge] at z'; cases z'
        · exact (gk b hb).symm.trans z
      · rw [upd_ne (Ne.symm dne)]
        exact I1.hok.fresh ae
end
end DL

/-! Exceptions over data: raise C(), raise C(e); try .. except C as e; in the suite isinstance(e, ..), e.f. -/
namespace DL
open PySem PySem.Spec PyProof.Rows L2

/-- a class whose __init__ takes nothing -/
def XC0 (P : Program) (K : PySem.W.Frag) (mg : Str → Option Value) (x : Str) (C : Addr) : Prop := ∃ fI params scope, XB P K mg x C fI params [] scope ∧ params.args.length = 1
/-- a class whose __init__ takes and keeps one thing -/
def XC1 (P : Program) (K : PySem.W.Frag) (mg : Str → Option Value) (x : Str) (C : Addr) (f : Str) : Prop := ∃ fI params scope q1 q2 q3 q4, XB P K mg x C fI params [.Assign [.Attribute (.Name "self" q1) f q2] (.Name f q3) q4] scope ∧ params.args.map (·.arg) = [("self" : Str), f] ∧
  f ≠ "self" ∧ scope.names.lookup f = some .local ∧ (f == ("__debug__" : Str)) = false ∧ PySem.W.findIn K (.ref C) f = some none
def wRaise0 (C : Addr) : WS := fun E ep st => E.ex ⟨C, []⟩ ep st
def wRaise1 (C : Addr) (f : Str) (wa : WE) : WS := fun E ep st => wa ep st (fun d st' => E.ex ⟨C, [(f, d)]⟩ ep st') (fun x st' => E.ex x ep st')
section
variable {X : Cx} {W : WX} {x f : Str} {C : Addr} {p pos pos2 : Pos} {k : Nat} {a : Expr} {wa : WE}
theorem js_raise0 (tk : Takes X W) (T : XC0 X.prog X.K X.mg x C) (hr : Room (k + 1) X.A) (hg : Gl X x := by rfl) (hdb : (x == ("__debug__" : Str)) = false := by decide) (hc : X.calm = true := by rfl) :
    JS X W (.Raise (some (.Call (.Name x p) [] [] pos)) none pos2) (wRaise0 C) := by
  obtain ⟨fI, params, scope, T, hpa⟩ := T
  refine (ps_raise hc tk (pmk_c0 T hpa hr hg hdb)).weak ?_
  rintro Dn sg H ⟨ep, st, E, he, hs, hw, ok⟩
  exact ok.ex ⟨C, []⟩ _ _ sg H ep st .refl hs he ⟨rfl, .inl ⟨rfl, rfl⟩⟩ hw
theorem js_raise1 (tk : Takes X W) (T : XC1 X.prog X.K X.mg x C f) (hr : Room (k + 1) X.A) (ha : JE X W a wa) (hg : Gl X x := by rfl) (hdb : (x == ("__debug__" : Str)) = false := by decide) (hc : X.calm = true := by rfl)
    (hse : starEach (a :: []) X.env = (false, eval a X.env) :: starEach [] X.env := by rfl) (hpl : (backTo pos (starEach [] X.env)).any (·.1) = false := by rfl) :
    JS X W (.Raise (some (.Call (.Name x p) [a] [] pos)) none pos2) (wRaise1 C f wa) := by
  obtain ⟨fI, params, scope, q1, q2, q3, q4, T, hpa, h1, h2, h3, h4⟩ := T
  refine (ps_raise hc tk (pmk_c1 T hpa h1 h2 h3 h4 hr hg hdb (ja_cons ha ja_nil hse) hse hpl)).weak ?_
  rintro Dn sg H ⟨ep, st, E, he, hs, hw, ok⟩
  refine ⟨ep, st, fun ds st' => ∃ d, ds = [d] ∧ E.ex ⟨C, [(f, d)]⟩ ep st', fun x st' => E.ex x ep st', he, hs, ?_, fun vs H1 ds st1 hl k1 s1 r1 h => ?_, ok.okX he⟩
  · show wa ep st (fun d st1 => wANil ep st1 (fun ds st2 => ∃ d', d :: ds = [d'] ∧ E.ex ⟨C, [(f, d')]⟩ ep st2) _) _
    have : (fun d st1 => wANil ep st1 (fun ds st2 => ∃ d', d :: ds = [d'] ∧ E.ex ⟨C, [(f, d')]⟩ ep st2) fun x st' => E.ex x ep st') = fun d st' => E.ex ⟨C, [(f, d)]⟩ ep st' := by
      funext d st1
      exact propext ⟨fun ⟨d', e, h⟩ => by cases e; exact h, fun h => ⟨d, rfl, h⟩⟩
    rw [this]; exact hw
  · obtain ⟨d, rfl, h⟩ := h
    obtain ⟨v, r, rfl, rv, rn⟩ := Reps_cons.mp r1
    rw [Reps_nil.mp rn]
    refine ⟨v, rfl, fun dd hd => ?_⟩
    have k2 : Keep X.K H1 st1 (upd H1 dd (.xd [(f, v)])) st1 := Keep.untold hd _
    exact ok.ex ⟨C, [(f, d)]⟩ _ _ sg _ ep st1 (k1.trans k2) (s1.untold hd _) (he.keep (k1.trans k2)) ⟨rfl, .inr ⟨by simp, dd, _, rfl, upd_same, v, [], rfl, rv.keep k2, rfl⟩⟩ h
end

/-! ### try -/
theorem RepE.unset {K : PySem.W.Frag} {H : Hp} {ep : DE} {sg : L2.St} (h : RepE K H ep sg) (i : Nat) : RepE K H (ep.set i none) (sg.set i none) := by
  refine ⟨by rw [List.length_set, List.length_set]; exact h.1, fun j e hj => ?_⟩
  by_cases hij : i = j
  · subst hij
    by_cases hl : i < ep.length
    · rw [List.getElem?_set_self hl] at hj; cases hj
    · rw [List.getElem?_eq_none (by rw [List.length_set]; omega)] at hj; cases hj
  · rw [List.getElem?_set_ne hij] at hj
    obtain ⟨u, e1, r1⟩ := h.2 j e hj
    exact ⟨u, by rw [List.getElem?_set_ne hij]; exact e1, r1⟩
/-- what the ends of a suite are -/
def suiEd (i : Nat) (E : Ed) : Ed := { nx := fun ep st => E.nx (ep.set i none) st, rt := E.rt, bk := fun ep st => E.bk (ep.set i none) st, ct := fun ep st => E.ct (ep.set i none) st, ex := fun _ _ _ => False }
/-- what the clause wishes of an exception of the body; EM: does the clause take its class -/
def catchD (EM : Addr → Bool → Prop) (i : Nat) (ws : Addr → Addr → Option Addr → WS) (E : Ed) (x : Xn) (ep : DE) (st : DS) : Prop :=
  ∃ b, EM x.cls b ∧ (b = true → ∀ a, (x.fs = [] → ws a x.cls none (suiEd i E) (ep.set i (some (.ref a))) st) ∧ ∀ d, x.fs ≠ [] → ws a x.cls (some d) (suiEd i E) (ep.set i (some (.ref a))) (put st d (.xd x.fs))) ∧ (b = false → E.ex x ep st)
def wTry (EM : Addr → Bool → Prop) (i : Nat) (wb : WS) (ws : Addr → Addr → Option Addr → WS) : WS := fun E ep st => wb { E with ex := catchD EM i ws E } ep st
theorem keep_xd {K : PySem.W.Frag} {H : Hp} {st : DS} {d : Addr} {fv : List (Str × V)} {o : OB} (h : H d = some (.xd fv)) : Keep K H st H (put st d o) :=
  ⟨fun _ _ h => h, fun _ _ h => h, fun _ _ h => h, fun a u e n k => ⟨e, by rw [put_ne (fun z => by rw [z, h] at e; exact n fv (Option.some.inj e).symm)]; exact k⟩, fun _ _ h => h, fun _ _ _ h => h⟩
section
variable {X : Cx} {W : WX} {x n : Str} {c : Value} {i : Nat} {body suite : List Stmt} {b₀ : Stmt} {np pos pos' : Pos} {wb : WS} {ws : Addr → Addr → Option Addr → WS}
theorem names_g {X : Cx} {x : Str} {C : Addr} (hm : X.mg x = some (.ref C)) (hg : Gl X x := by rfl) (hd : (x == ("__debug__" : Str)) = false := by decide) : Names X x (.ref C) := ⟨hg, hd, .inl hm⟩
/-- what is asked of the class of an exception that may come: does the clause take it, and if so P -/
def EmR (K : PySem.W.Frag) (c : Value) (P : Addr → Prop) (D : Addr) (b : Bool) : Prop := PySem.W.exmOne K (.ref D) c = some b ∧ (b = true → P D)
theorem js_try_as {P : Addr → Prop} (hN : X.N.Nodup) (hc : Names X x c) (tk : Takes X W)
    (hb : ∀ (W : WX) (pn : List (Addr × Obj)) (xe : Value → Shared → Prop), Takes (X.tr pn xe) W → PassesOwn (model X.prog X.w) X.A X.env xe → JSs (X.tr pn xe) W body wb)
    (hsu : ∀ (a : Addr) (oe : Obj) (D : Addr) (d : Option Addr) (pn : List (Addr × Obj)), Zc (.ref D) d oe → (∃ vs, oe.data = .fields vs) → P D → JSs (X.suite a ((a, oe) :: pn)) noW (b₀ :: suite) (ws a D d))
    (hs : X.stack = X.env :: X.outer := by rfl) (hf : X.env.frame = some X.env.locals := by rfl) (hi : X.N[i]? = some n := by rfl) (hln : X.env.kindOf n = some .local := by rfl) :
    JS X W (.Try body [.ExceptHandler (some (.Name x np)) (some n) (b₀ :: suite) pos'] [] [] pos) (wTry (EmR X.K c P) i wb ws) := by
  refine (ps_try_as (tb := fun W' => twS X.K W' wb) (ts := fun a cls d Dn sg H => ∃ D, cls = .ref D ∧ P D ∧ twS X.K noW (ws a D d) Dn sg H) hs hf hN hi hln hc tk (fun W' pn xe t' p' => hb W' pn xe t' p') (fun a oe cls d pn hz hfl => ?_)).weak ?_
  · refine ⟨fun pins s σ H D I h => ?_⟩
    obtain ⟨C, rfl, hP, h⟩ := h
    exact (hsu a oe C d pn hz hfl hP).run pins s σ H D I h
  · rintro Dn sg H ⟨ep, st, E, he, hs, hw, ok⟩
    refine ⟨ep, st, _, he, hs, hw, ⟨ok.nx, ok.rt, ok.bk, ok.ct, fun x cls dd sg' H' ep' st' k s e r h => ?_⟩⟩
    obtain ⟨b, ⟨hb, hP⟩, h1, h2⟩ := h
    obtain ⟨rfl, hr⟩ := id r
    refine ⟨b, hb, fun hbt a ha => ⟨x.cls, rfl, hP hbt, ?_⟩, fun hbf => ok.ex x _ dd sg' H' ep' st' k s e r (h2 hbf)⟩
    obtain ⟨h3, h4⟩ := h1 hbt a
    have fin : ∀ st2, Keep X.K H' st' H' st2 → OkS X.K noW H' st2 (suiEd i E) { nx := fun σ' H' => Dn.nx (σ'.set i none) H', rt := Dn.rt, bk := fun σ' H' => Dn.bk (σ'.set i none) H', ct := fun σ' H' => Dn.ct (σ'.set i none) H' } := fun st2 k2 =>
      ⟨fun sg3 H3 ep3 st3 k3 s3 e3 h => ok.nx _ H3 _ st3 ((k.trans k2).trans k3) s3 (e3.unset i) h,
       fun v H3 d st3 k3 s3 r3 h => ok.rt v H3 d st3 ((k.trans k2).trans k3) s3 r3 h,
       fun sg3 H3 ep3 st3 k3 s3 e3 h => ok.bk _ H3 _ st3 ((k.trans k2).trans k3) s3 (e3.unset i) h,
       fun sg3 H3 ep3 st3 k3 s3 e3 h => ok.ct _ H3 _ st3 ((k.trans k2).trans k3) s3 (e3.unset i) h,
       fun _ _ _ _ _ _ _ _ _ _ _ z => z.elim⟩
    rcases hr with ⟨hfs, rfl⟩ | ⟨hfs, d, fv, rfl, hd, hrep⟩
    · exact ⟨_, st', _, e.set (Rep_ref.mpr rfl) i, s, h3 hfs, fin st' .refl⟩
    · have kx : Keep X.K H' st' H' (put st' d (.xd x.fs)) := keep_xd hd
      refine ⟨_, put st' d (.xd x.fs), _, e.set (Rep_ref.mpr rfl) i, fun q o eo => ?_, h4 d hfs, fin _ kx⟩
      by_cases hq : q = d
      · subst hq
        rw [put_same] at eo; cases eo
        exact ⟨fv, hd, hrep⟩
      · rw [put_ne hq] at eo
        exact s q o eo
end

/-! ### in the suite -/
def dOk (d : Option Addr) (st : DS) : Prop := ∀ dd, d = some dd → ∃ fs, st dd = some (.xd fs)
def wIsE (a : Addr) (d : Option Addr) (IS : Option Bool) (we : WE) : WE := fun ep st R Rx => we ep st (fun v st' => v = .ref a ∧ dOk d st' ∧ ∃ b, IS = some b ∧ R (.bl b) st') Rx
def wFld (a : Addr) (d : Option Addr) (f : Str) (we : WE) : WE := fun ep st R Rx => we ep st (fun v st' => v = .ref a ∧ ∃ dd fs y, d = some dd ∧ st' dd = some (.xd fs) ∧ fs.lookup f = some y ∧ R y st') Rx
structure EC (K : PySem.W.Frag) (D : Addr) : Prop where
  cl : (PySem.W.clsIn K D).isSome = true
  ga : PySem.W.findIn K (.ref D) "__getattribute__" = some (some (.builtin "BaseException.__getattribute__"))
  gt : PySem.W.findIn K (.ref D) "__getattr__" = some none
  sub : PySem.W.subIn K (.ref D) (.type "BaseException") = some true
  ca : PySem.W.findIn K (.ref D) "__class__" = some (some (.builtin "object.__class__"))
  sp : PySem.W.specialIn K (.builtin "object.__class__") "__get__" = some (some (.builtin "getset_descriptor.__get__"))
  tk : PySem.W.takesIn K (.builtin "object.__class__") = some true
  mo : PySem.W.mroIn K D (.type "object") = some true
  hd : PySem.W.hasDictIn K D = true
section
variable {X : Cx} {W : WX} {a D : Addr} {oe : Obj} {d : Option Addr} {pn : List (Addr × Obj)} {e : Expr} {we : WE} {p pos : Pos}
theorem inst_at (hz : Zc (.ref D) d oe) (hf : ∃ vs, oe.data = .fields vs) {pins : List (Addr × Obj)} {σ : L2.St} {H : Hp} {s : Shared} {st : DS} (I : Inv (X.suite a ((a, oe) :: pn)) pins σ H s) (hs : RepS X.K H st) (hd : dOk d st) : ∃ od, PySem.W.InstAt s.heap a oe D od := by
  obtain ⟨hget, _⟩ := I.pin (a, oe) (List.mem_append_left _ List.mem_cons_self)
  obtain ⟨vs, hv⟩ := hf
  obtain ⟨oc, odi, oda, osl⟩ := oe
  obtain ⟨h1, h2⟩ := hz
  dsimp only at h1 h2 hv
  subst h1 h2 hv
  cases odi with
  | none => exact ⟨none, hget, rfl, rfl, trivial⟩
  | some dd =>
    obtain ⟨fs, e⟩ := hd dd rfl
    obtain ⟨fv, e1, _⟩ := hs dd _ e
    obtain ⟨mA, ⟨o, _, _, ho, _⟩, _⟩ := (show ObjOk X.prog X.w H s.heap dd (.xd fv) from I.hok dd _ e1)
    exact ⟨some o, hget, rfl, rfl, ho⟩
theorem callR_isE (C : EC X.K D) (hz : Zc (.ref D) d oe) (hf : ∃ vs, oe.data = .fields vs) : CallR (X.suite a ((a, oe) :: pn)) (.builtin "isinstance") (fun xs H Q => ∃ (c : V) (cv : Value) (b : Bool) (st : DS), xs = [.ref a, c] ∧ (∀ u, RelV c u → u = cv) ∧ RepS X.K H st ∧ dOk d st ∧ PySem.W.kitOne X.K (.ref D) cv = some b ∧ Q (.bl b) H) := by
  intro pins s σ H xs us Q I r h
  obtain ⟨c, cv, b, st, rfl, hcv, hs, hd, e, q⟩ := h
  obtain ⟨u1, u2, rfl, r1, r2⟩ := vals2 r
  cases r1
  have ec := hcv _ r2
  subst ec
  obtain ⟨od, J⟩ := inst_at hz hf I hs hd
  exact PySem.W.kia_one (PySem.W.kitx_exc C.cl C.ga C.gt C.sub C.ca C.sp C.tk C.mo) I.kIn J e (fun z => nomatch z) fun tk => ⟨.bl b, H, I.kept (t' := tk) fun _ _ z => z, rfl, q⟩
theorem callR_isEs (C : EC X.K D) (hz : Zc (.ref D) d oe) (hf : ∃ vs, oe.data = .fields vs) : CallR (X.suite a ((a, oe) :: pn)) (.builtin "isinstance") (fun xs H Q => ∃ (tp : Addr) (cs : List V) (cvs : List Value) (b : Bool) (st : DS), xs = [.ref a, .ref tp] ∧ H tp = some (.tup cs) ∧ (∀ ws, Vals cs ws → ws = cvs) ∧ RepS X.K H st ∧ dOk d st ∧ PySem.W.kitAny X.K (.ref D) cvs = some b ∧ Q (.bl b) H) := by
  intro pins s σ H xs us Q I r h
  obtain ⟨tp, cs, cvs, b, st, rfl, hT, hcv, hs, hd, e, q⟩ := h
  obtain ⟨u1, u2, rfl, r1, r2⟩ := vals2 r
  cases r1
  cases (show u2 = Value.ref tp from r2)
  obtain ⟨od, J⟩ := inst_at hz hf I hs hd
  obtain ⟨_, its, rv, o, h1, h2, n, h3⟩ := (show ObjOk X.prog X.w H s.heap tp (.tup cs) from I.hok tp _ hT)
  have e3 := hcv _ rv
  subst e3
  obtain ⟨oc, od', dt, sl⟩ := o
  simp only at h2 h3
  subst h2 h3
  exact PySem.W.kia_tup (PySem.W.kitx_exc C.cl C.ga C.gt C.sub C.ca C.sp C.tk C.mo) I.kIn J h1 e (fun z => nomatch z) fun tk => ⟨.bl b, H, I.kept (t' := tk) fun _ _ z => z, rfl, q⟩
/-- a class as an expression -/
def ClsE (X : Cx) (c : Expr) (cv : Value) : Prop := ∃ v, PE X c (tC v) ∧ ∀ u, RelV v u → u = cv
theorem cls_g {x : Str} {C : Addr} {pos : Pos} (hm : X.mg x = some (.ref C)) (hg : Gl X x := by rfl) (hd : (x == ("__debug__" : Str)) = false := by decide) : ClsE X (.Name x pos) (.ref C) := ⟨.ref C, pe_glob hg hm rfl hd, fun _ h => h⟩
theorem cls_b {x : Str} {T : String} {pos : Pos} (hm : X.mg x = none) (hv : bootBuiltins x = some (.type T)) (hg : Gl X x := by rfl) (hn : x ≠ "__name__" := by decide) (hd : (x == ("__debug__" : Str)) = false := by decide) : ClsE X (.Name x pos) (.type T) := ⟨.ty T, pe_bltn hg hm hv rfl hn hd, fun _ h => h⟩
/-- classes in a row -/
def ClsA (X : Cx) (cs : List Expr) (cvs : List Value) : Prop := ∃ vs : List V, PA X cs (fun _ H Q => Q vs H) ∧ (∀ ws, Vals vs ws → ws = cvs) ∧ vs.length = cvs.length
theorem cls_nil : ClsA X [] [] := ⟨[], pa_nil, fun ws h => by cases h; rfl, rfl⟩
theorem cls_cons {c : Expr} {cs : List Expr} {cv : Value} {cvs : List Value} (h : ClsE X c cv) (t : ClsA X cs cvs) (hs : starEach (c :: cs) X.env = (false, eval c X.env) :: starEach cs X.env := by rfl) : ClsA X (c :: cs) (cv :: cvs) := by
  obtain ⟨v, h1, h2⟩ := h
  obtain ⟨vs, t1, t2, t3⟩ := t
  refine ⟨v :: vs, ⟨(pa_cons h1 t1 hs).run⟩, fun ws hw => ?_, by simp [t3]⟩
  cases hw with
  | cons r rs => rw [h2 _ r, t2 _ rs]
theorem j_isE {c : Expr} {cv : Value} (C : EC X.K D) (hz : Zc (.ref D) d oe) (hf : ∃ vs, oe.data = .fields vs) (hm : X.mg "isinstance" = none) (h : JE (X.suite a ((a, oe) :: pn)) W e we) (hcl : ClsE (X.suite a ((a, oe) :: pn)) c cv) (hg : Gl X "isinstance" := by rfl)
    (hs : starEach [e, c] X.env = (false, eval e X.env) :: starEach [c] X.env := by rfl) (hs2 : starEach [c] X.env = (false, eval c X.env) :: starEach [] X.env := by rfl) (hpl : (backTo pos (starEach [c] X.env)).any (·.1) = false := by rfl) :
    JE (X.suite a ((a, oe) :: pn)) W (.Call (.Name "isinstance" p) [e, c] [] pos) (wIsE a d (PySem.W.kitOne X.K (.ref D) cv) we) := by
  obtain ⟨cV, hc1, hc2⟩ := hcl
  refine (pe_callB (X := X.suite a ((a, oe) :: pn)) (callR_isE C hz hf) hg hm (by decide +kernel) (pa_cons h (pa_cons hc1 pa_nil hs2) hs) (by decide) (by decide) hs hpl).weak ?_
  rintro sg H Q ⟨ep, st, R, Rx, he, hs, hw, hq, hx⟩
  refine ⟨ep, st, _, _, he, hs, hw, fun v H' d' st' k s r h => ?_, hx⟩
  obtain ⟨rfl, hd, b, hb, h2⟩ := h
  exact ⟨cV, cv, b, st', by rw [Rep_ref.mp r], hc2, s, hd, hb, hq _ H' _ st' k s (Rep_bl.mpr rfl) h2⟩
theorem j_isEs {cs : List Expr} {cvs : List Value} {p2 : Pos} {j : Nat} (C : EC X.K D) (hz : Zc (.ref D) d oe) (hf : ∃ vs, oe.data = .fields vs) (hm : X.mg "isinstance" = none) (h : JE (X.suite a ((a, oe) :: pn)) W e we) (hcl : ClsA (X.suite a ((a, oe) :: pn)) cs cvs) (hlen : cvs.length ≤ sizeLine := by decide) (hg : Gl X "isinstance" := by rfl)
    (hs : starEach [e, .Tuple cs j p2] X.env = (false, eval e X.env) :: starEach [.Tuple cs j p2] X.env := by rfl) (hs2 : starEach [.Tuple cs j p2] X.env = (false, eval (.Tuple cs j p2) X.env) :: starEach [] X.env := by rfl) (hpl : (backTo pos (starEach [.Tuple cs j p2] X.env)).any (·.1) = false := by rfl) :
    JE (X.suite a ((a, oe) :: pn)) W (.Call (.Name "isinstance" p) [e, .Tuple cs j p2] [] pos) (wIsE a d (PySem.W.kitAny X.K (.ref D) cvs) we) := by
  obtain ⟨cV, hc1, hc2, hc3⟩ := hcl
  refine (pe_callB (X := X.suite a ((a, oe) :: pn)) (callR_isEs C hz hf) hg hm (by decide +kernel) (pa_cons h (pa_cons (pe_tup hc1) pa_nil hs2) hs) (by decide) (by decide) hs hpl).weak ?_
  rintro sg H Q ⟨ep, st, R, Rx, he, hs, hw, hq, hx⟩
  refine ⟨ep, st, _, _, he, hs, hw, fun v H' d' st' k s r h => ?_, hx⟩
  obtain ⟨rfl, hd, b, hb, h2⟩ := h
  refine ⟨by rw [hc3]; exact hlen, fun q hq0 => ?_⟩
  have kx : Keep X.K H' st' (upd H' q (.tup cV)) st' := Keep.untold hq0 _
  exact ⟨q, cV, cvs, b, st', by rw [Rep_ref.mp r], upd_same, hc2, s.untold hq0 _, hd, hb, hq _ _ _ st' (k.trans kx) (s.untold hq0 _) (Rep_bl.mpr rfl) h2⟩
theorem j_fld {f : Str} (C : EC X.K D) (hno : PySem.W.findIn X.K (.ref D) f = some none) (hz : Zc (.ref D) d oe) (hf : ∃ vs, oe.data = .fields vs) (h : JE (X.suite a ((a, oe) :: pn)) W e we)
    (hb : attributeBase e f X.env (eval e X.env) = eval e X.env := by rfl) : JE (X.suite a ((a, oe) :: pn)) W (.Attribute e f pos) (wFld a d f we) := by
  refine (pe_xf ⟨C.ga, C.gt, C.sub, C.hd⟩ hno hz hf h hb).weak ?_
  rintro sg H Q ⟨ep, st, R, Rx, he, hs, hw, hq, hx⟩
  refine ⟨ep, st, _, _, he, hs, hw, fun v H' d' st' k s r h => ?_, hx⟩
  obtain ⟨rfl, dd, fs, y, rfl, e1, e2, h2⟩ := h
  obtain ⟨fv, e3, rf⟩ := s dd _ e1
  have key : ∀ {fs : List (Str × DL.D)} {fv : List (Str × V)}, RepF X.K H' fs fv → fs.lookup f = some y → ∃ v, fv.lookup f = some v ∧ Rep X.K H' y v := by
    intro fs
    induction fs with
    | nil => intro fv _ e; cases e
    | cons p r ih =>
      intro fv hr e
      obtain ⟨g, z⟩ := p
      obtain ⟨v, t, rfl, r1, r2⟩ := hr
      by_cases hg : f = g
      · subst hg
        have : z = y := by simpa [List.lookup] using e
        subst this
        exact ⟨v, by simp [List.lookup], r1⟩
      · have hb : (f == g) = false := by simpa using hg
        have e' : r.lookup f = some y := by simpa [List.lookup, hb] using e
        obtain ⟨v', a1, a2⟩ := ih r2 e'
        exact ⟨v', by simpa [List.lookup, hb] using a1, a2⟩
  obtain ⟨v', l1, l2⟩ := key rf e2
  exact ⟨Rep_ref.mp r, rfl, dd, fv, v', rfl, e3, l1, hq v' H' y st' k s l2 h2⟩
end

/-! ### what the written part says, put together -/
def initOf : Stmt → Stmt
  | .ClassDef _ _ _ (i :: _) _ _ _ _ _ _ _ => i
  | s => s
/-- a class as what is tested for -/
structure CB (K : PySem.W.Frag) (C : Addr) : Prop where
  hd : PySem.W.hasDictIn K C = true
  ty : PySem.W.typeIn K (.ref C) = some (.type "type")
  slf : PySem.W.subIn K (.ref C) (.ref C) = some true
  bx : PySem.W.subIn K (.ref C) (.type "BaseException") = some true
theorem exm_of {K : PySem.W.Frag} {C D : Addr} {b : Bool} (T : CB K C) (h : PySem.W.subIn K (.ref D) (.ref C) = some b) : PySem.W.exmOne K (.ref D) (.ref C) = some b := by
  obtain ⟨cd, hc, _⟩ := PySem.W.any_some T.hd
  have e1 : (PySem.W.subIn K (.ref C) (.type "BaseException") == some true) = true := by rw [T.bx] <;> rfl
  have e2 : ((PySem.W.clsIn K C).isSome && PySem.W.typeIn K (.ref C) == some (.type "type")) = true := by rw [hc, T.ty] <;> rfl
  show (if _ then (if _ then _ else _) else _) = some b
  rw [if_pos e1, if_pos e2]
  exact h
theorem kit_ref {K : PySem.W.Frag} {C D : Addr} {b : Bool} (T : CB K C) (h : PySem.W.subIn K (.ref D) (.ref C) = some b) : PySem.W.kitOne K (.ref D) (.ref C) = some b := by
  obtain ⟨cd, hc, _⟩ := PySem.W.any_some T.hd
  have e2 : ((PySem.W.clsIn K C).isSome && PySem.W.typeIn K (.ref C) == some (.type "type")) = true := by rw [hc, T.ty] <;> rfl
  unfold PySem.W.kitOne
  by_cases hDC : D = C
  · subst hDC
    rw [T.slf] at h
    rw [if_pos (by simp)]
    exact h
  · rw [if_neg (by simp [hDC])]
    show (if _ then _ else _) = _
    rw [if_pos e2]; exact h
theorem kit_ty' {K : PySem.W.Frag} {D : Addr} {T : String} {b : Bool} (h : PySem.W.subIn K (.ref D) (.type T) = some b) (hm : PySem.W.kitMeta T = true := by decide +kernel) : PySem.W.kitOne K (.ref D) (.type T) = some b := by
  unfold PySem.W.kitOne
  rw [if_neg (by simp)]
  show (if _ then _ else _) = _
  rw [if_pos hm]; exact h
theorem any_nil {K : PySem.W.Frag} {t : Value} : PySem.W.kitAny K t [] = some false := rfl
theorem any_no {K : PySem.W.Frag} {t c : Value} {r : List Value} {b : Bool} (h : PySem.W.kitOne K t c = some false) (g : PySem.W.kitAny K t r = some b) : PySem.W.kitAny K t (c :: r) = some b := by
  unfold PySem.W.kitAny; rw [h]; exact g
theorem any_yes {K : PySem.W.Frag} {t c : Value} {r : List Value} (h : PySem.W.kitOne K t c = some true) : PySem.W.kitAny K t (c :: r) = some true := by
  unfold PySem.W.kitAny; rw [h]
theorem ec_mk {K : PySem.W.Frag} {D : Addr} (hd : PySem.W.hasDictIn K D = true) (ga : PySem.W.findIn K (.ref D) "__getattribute__" = some (some (.builtin "BaseException.__getattribute__"))) (gt : PySem.W.findIn K (.ref D) "__getattr__" = some none) (sub : PySem.W.subIn K (.ref D) (.type "BaseException") = some true)
    (ca : PySem.W.findIn K (.ref D) "__class__" = some (some (.builtin "object.__class__"))) (sp : PySem.W.specialIn K (.builtin "object.__class__") "__get__" = some (some (.builtin "getset_descriptor.__get__"))) (tk : PySem.W.takesIn K (.builtin "object.__class__") = some true) (mo : PySem.W.mroIn K D (.type "object") = some true) : EC K D :=
  ⟨by obtain ⟨cd, hc, _⟩ := PySem.W.any_some hd; rw [hc]; rfl, ga, gt, sub, ca, sp, tk, mo, hd⟩
abbrev veTail : List Value := [.type "ValueError", .type "Exception", .type "BaseException", .type "object"]
theorem xb_mk {P : Program} {K : PySem.W.Frag} {mg : Str → Option Value} {x : Str} {C S fI cda cc N NS : Addr} {nm q nmS qS qual T : Str} {bs bsS sub subS : List Value} {sn snS : List Str} {ab abS hdS : Bool} {col colS : Option Bool} {dd ddS : Option Addr} {k0 k1 k2 k3 k5 j0 j1 j2 j3 j5 : Option Value} {nwS : String}
    {oc kV dc pm ct ccl cl : Value} {od an cdd cld : Option Addr} {osl ccs csl : Array (Option Value)} {vs : Array Value} {file : Str} {tf : Tok} {j : Nat} {p0 p1 p2 p3 p4 p5 : Pos} {params : Arguments} {body rest : List Stmt} {scope : Scope} {ar : Arg} {l : List Arg}
    (gC : mg x = some (.ref C)) (nsup : mg "super" = none)
    (hC : K.lookup C = some (excClassObj nm q C N bs (.ref S :: veTail) true sn sub ab col dd k0 k1 k2 k3 k5 "ValueError.__new__"))
    (hS : K.lookup S = some (excClassObj nmS qS S NS bsS veTail hdS snS subS abS colS ddS j0 j1 j2 j3 j5 nwS))
    (hSi : PySem.W.findIn K (.ref S) "__init__" = some (some (.builtin "ValueError.__init__")))
    (sa : PySem.W.findIn K (.ref C) "__setattr__" = some (some (.builtin "object.__setattr__"))) (exC : PySem.W.subIn K (.ref C) (.type "BaseException") = some true) (tyC : PySem.W.typeIn K (.ref C) = some (.type "type")) (kC : PySem.W.keepIn K (.ref C) = true)
    (iC : PySem.W.findIn K (.ref C) "__init__" = some (some (.ref fI))) (tI : PySem.W.typeIn K (.ref fI) = some (.type "function")) (hB : PySem.W.subIn K (.ref C) (.type "ValueError") = some true) (opq : PySem.W.nsIn K cStatics "thirdparty.any" = some none) (slf : PySem.W.mroIn K C (.ref C) = some true)
    (hl : K.lookup fI = some ⟨oc, od, .func (PySem.W.ksFn "__init__" qual params body scope .none kV dc pm an (.ref cda) ct cc), osl⟩) (hcd : PySem.W.codeIn K (.ref cda) qual = true)
    (hco : K.lookup cda = some ⟨ccl, cdd, .fields vs, ccs⟩) (hce : K.lookup cc = some ⟨cl, cld, .cell (some (.ref C)), csl⟩)
    (hvs : vs[2]? = some (.str file tf)) (hfile : ((P.main.file : Str) == file) = true) (top : (P.main.scope.names.lookup ("super" : Str)).isSome = false)
    (hb : body = supS T j p0 p1 p2 p3 p4 p5 :: rest) (hline : (p2.endLine == p4.line) = true)
    (hbind : ∀ us : List Value, us.length = params.args.length → bindArgs (PySem.W.ksFn "__init__" qual params body scope .none kV dc pm an (.ref cda) ct cc) ⟨us, []⟩ = pure ((params.args.map (·.arg)).zip us))
    (pos : params.posonlyargs = []) (par : params.args = ar :: l) (har : ar.arg = "self")
    (hks : scope.names.lookup ("super" : Str) = some .globalImplicit) (hkc : scope.names.lookup ("__class__" : Str) = some .free) (hka : scope.names.lookup ("self" : Str) = some .local) (hk : scope.kind = .function) (cell : ∀ x ∈ scope.names, x.2 ≠ .cell) (co : scope.isCoroutine = false) (gen : scope.isGenerator = false) :
    XB P K mg x C fI params rest scope := by
  subst hb
  refine ⟨gC, ⟨⟨_, _, _, _, _, _, _, _, _, _, _, _, _, _, _, hC, rfl⟩, sa, exC, tyC, kC⟩, iC, tI, hB, ?_, opq, nsup, slf, top, ⟨oc, .none, kV, dc, pm, ct, od, an, osl, cda, cc, qual, T, j, p0, p1, p2, p3, p4, p5, hl, hcd, hline, ⟨ccl, cdd, ccs, vs, file, tf, hco, hvs, hfile⟩, ⟨cl, cld, csl, hce⟩, hbind⟩, pos, ⟨ar, l, by rw [pos, par]; rfl, har⟩, hks, hkc, hka, hk, cell, co, gen⟩
  unfold PySem.W.ks_superIn
  have e : PySem.W.clsIn K C = some _ := clsIn_of hC
  rw [e, Option.bind_some]
  have hSi' : (match K.lookup S with | some ⟨_, _, .cls cd, _⟩ => PySem.W.alongIn K "__init__" cd.mro | _ => none) = some (some (.builtin "ValueError.__init__")) := hSi
  rw [hS] at hSi'
  have d : ((Value.ref C :: Value.ref S :: veTail).dropWhile (· != .ref C)).drop 1 = Value.ref S :: veTail := by simp [List.dropWhile_cons]
  show PySem.W.alongIn K "__init__" (((Value.ref C :: Value.ref S :: veTail).dropWhile (· != .ref C)).drop 1) = _
  rw [d]
  exact hSi'
end DL
namespace DL
open PySem PySem.Spec PyProof.Rows L2
theorem s_eqLL {p q : Addr} {xs ys : List D} {st : DS} {R : RD} (hp : st p = some (.lst xs)) (hq : st q = some (.lst ys)) (ha : pureOks xs = true) (hb : pureOks ys = true) (da : deps xs ≤ 60) (db : deps ys ≤ 60) (h : R (.bl (peqs xs ys)) st) : eqD (.ref p) (.ref q) st R := by
  have sh : ∀ l : List D, pureOks l = true → deps l ≤ 60 → SeqAt.shaped (.list (pdsOf l)) = true := fun l h1 h2 => by
    have := shaped_pd (d := .tup l) (by rw [pureOk]; exact h1) (by rw [dep]; omega)
    rw [pdOf] at this
    exact this
  show ∃ px py, _
  refine ⟨.list (pdsOf xs), .list (pdsOf ys), .lst hp (pyOf_pds xs ha), .lst hq (pyOf_pds ys hb), sh xs ha da, sh ys hb db, ?_⟩
  have e := eqv_pd (.tup xs) (.tup ys) (by rw [pureOk]; exact ha) (by rw [pureOk]; exact hb)
  rw [pdOf, pdOf, peq] at e
  have e' : PyData.eqv (.list (pdsOf xs)) (.list (pdsOf ys)) = peqs xs ys := by rw [← e]; simp only [PyData.eqv]
  rw [e']; exact h
section
variable {ep : DE} {st : DS} {R : RD} {Rx : RX} {i : Nat} {C a : Addr} {f : Str} {wa : WE} {d : Option Addr} {IS : Option Bool} {EM : Addr → Bool → Prop} {wb : WS} {ws : Addr → Addr → Option Addr → WS}
theorem s_try {nx rt bk ct ex} (h : wb { nx := nx, rt := rt, bk := bk, ct := ct, ex := catchD EM i ws { nx := nx, rt := rt, bk := bk, ct := ct, ex := ex } } ep st) : wTry EM i wb ws { nx := nx, rt := rt, bk := bk, ct := ct, ex := ex } ep st := h
theorem s_raise0 {nx rt bk ct ex} (h : ex ⟨C, []⟩ ep st) : wRaise0 C { nx := nx, rt := rt, bk := bk, ct := ct, ex := ex } ep st := h
theorem s_raise1 {nx rt bk ct ex} (h : wa ep st (fun d st' => ex ⟨C, [(f, d)]⟩ ep st') (fun x st' => ex x ep st')) : wRaise1 C f wa { nx := nx, rt := rt, bk := bk, ct := ct, ex := ex } ep st := h
theorem s_isE (h : wa ep st (fun v st' => v = .ref a ∧ dOk d st' ∧ ∃ b, IS = some b ∧ R (.bl b) st') Rx) : wIsE a d IS wa ep st R Rx := h
theorem s_fld (h : wa ep st (fun v st' => v = .ref a ∧ ∃ dd fs y, d = some dd ∧ st' dd = some (.xd fs) ∧ fs.lookup f = some y ∧ R y st') Rx) : wFld a d f wa ep st R Rx := h
theorem s_catch0 {nx rt bk ct ex} (he : EM C true) (h : ∀ a, ws a C none { nx := fun ep st => nx (ep.set i none) st, rt := rt, bk := fun ep st => bk (ep.set i none) st, ct := fun ep st => ct (ep.set i none) st, ex := fun _ _ _ => False } (ep.set i (some (.ref a))) st) : catchD EM i ws { nx := nx, rt := rt, bk := bk, ct := ct, ex := ex } ⟨C, []⟩ ep st :=
  ⟨true, he, fun _ a => ⟨fun _ => h a, fun d z => absurd rfl z⟩, fun z => by cases z⟩
theorem s_catch1 {nx rt bk ct ex} {v : D} (he : EM C true) (h : ∀ a dd, ws a C (some dd) { nx := fun ep st => nx (ep.set i none) st, rt := rt, bk := fun ep st => bk (ep.set i none) st, ct := fun ep st => ct (ep.set i none) st, ex := fun _ _ _ => False } (ep.set i (some (.ref a))) (put st dd (.xd [(f, v)]))) : catchD EM i ws { nx := nx, rt := rt, bk := bk, ct := ct, ex := ex } ⟨C, [(f, v)]⟩ ep st :=
  ⟨true, he, fun _ a => ⟨fun z => (by cases z), fun d _ => h a d⟩, fun z => by cases z⟩
theorem s_is0 {b : Bool} {Q : Bool → Prop} (e : IS = some b) (h : Q b) : (D.ref a = .ref a ∧ dOk none st ∧ ∃ b, IS = some b ∧ Q b) := ⟨rfl, (fun _ z => by cases z), b, e, h⟩
theorem s_is1 {b : Bool} {dd : Addr} {fs : List (Str × D)} (hd : st dd = some (.xd fs)) {Q : Bool → Prop} (e : IS = some b) (h : Q b) : (D.ref a = .ref a ∧ dOk (some dd) st ∧ ∃ b, IS = some b ∧ Q b) := ⟨rfl, (fun _ z => by cases z; exact ⟨fs, hd⟩), b, e, h⟩
end
theorem fn_weak {P : Program} {w : World} {K : PySem.W.Frag} {mg : Str → Option Value} {base : Heap} {k : Nat} {f : Addr} {fd : FuncData} {ps : List Str} {S S' : SpD} (F : FnD P w K mg base k f fd ps S) (h : ∀ ds st R Rx, S' ds st R Rx → S ds st R Rx) : FnD P w K mg base k f fd ps S' :=
  FnOk.imp F fun vs H Q E ⟨ds, st, R, Rx, r, s, q, o, x⟩ => ⟨ds, st, R, Rx, r, s, h _ _ _ _ q, o, x⟩
end DL

/-! Dicts over data: keys ints and texts (dk), or tuples of them (dt); locked while they are walked (lk, lt). -/
namespace DL
open PySem PySem.Spec PyProof.Rows L2

section
variable {κ : Type} [DecidableEq κ]
def valD (kvs : List (κ × D)) (k : κ) : Option D := (kvs.find? fun p => decide (p.1 = k)).map fun p => p.2
def putD (kvs : List (κ × D)) (k : κ) (v : D) : List (κ × D) :=
  if (kvs.any fun p => decide (p.1 = k)) = true then kvs.map (fun p => if p.1 = k then (p.1, v) else p) else kvs ++ [(k, v)]
theorem valD_nil {k : κ} : valD ([] : List (κ × D)) k = none := rfl
theorem valD_cons {p : κ × D} {r : List (κ × D)} {k : κ} : valD (p :: r) k = if p.1 = k then some p.2 else valD r k := by
  unfold valD
  rw [List.find?_cons]
  by_cases e : p.1 = k
  · rw [if_pos e, decide_eq_true e]; rfl
  · rw [if_neg e, decide_eq_false e]
theorem any_valD {kvs : List (κ × D)} {k : κ} : (kvs.any fun p => decide (p.1 = k)) = (valD kvs k).isSome := by
  induction kvs with
  | nil => rfl
  | cons p r ih =>
    rw [List.any_cons, valD_cons, ih]
    by_cases e : p.1 = k
    · rw [if_pos e, decide_eq_true e]; rfl
    · rw [if_neg e, decide_eq_false e]; rfl
theorem putD_new {kvs : List (κ × D)} {k : κ} {v : D} (h : valD kvs k = none) : putD kvs k v = kvs ++ [(k, v)] := by
  unfold putD
  rw [any_valD, h, if_neg (by decide)]
theorem valD_put (kvs : List (κ × D)) (k j : κ) (v : D) : valD (putD kvs k v) j = if j = k then some v else valD kvs j := by
  unfold putD
  by_cases h : (kvs.any fun p => decide (p.1 = k)) = true
  · rw [if_pos h]
    induction kvs with
    | nil => cases h
    | cons p r ih =>
      rw [List.map_cons, valD_cons, valD_cons]
      by_cases e : p.1 = k
      · rw [if_pos e]
        by_cases ej : j = k
        · rw [if_pos ej, if_pos (by rw [ej, ← e])]
        · rw [if_neg ej, if_neg (fun z => ej (by rw [← z]; exact e)), if_neg (fun z => ej (by rw [← z]; exact e))]
          by_cases hr : (r.any fun p => decide (p.1 = k)) = true
          · have := ih hr
            rw [if_neg ej] at this
            exact this
          · congr 1
            have : ∀ q ∈ r, q.1 ≠ k := fun q hq z => hr (List.any_eq_true.mpr ⟨q, hq, decide_eq_true z⟩)
            clear ih h hr
            induction r with
            | nil => rfl
            | cons q r ih => rw [List.map_cons, if_neg (this q List.mem_cons_self), ih fun q hq => this q (List.mem_cons_of_mem _ hq)]
      · rw [if_neg e]
        have hr : (r.any fun p => decide (p.1 = k)) = true := by
          rw [List.any_cons, decide_eq_false e] at h
          exact h
        by_cases ej : p.1 = j
        · rw [if_pos ej, if_pos ej, if_neg (fun z => e (ej.trans z))]
        · rw [if_neg ej, if_neg ej]; exact ih hr
  · rw [if_neg h]
    rw [any_valD] at h
    have hn : valD kvs k = none := by
      cases e : valD kvs k with
      | none => rfl
      | some x => rw [e] at h; exact absurd rfl h
    clear h
    induction kvs with
    | nil =>
      rw [List.nil_append, valD_cons, valD_nil]
      by_cases e : j = k
      · rw [if_pos e, if_pos e.symm]
      · rw [if_neg e, if_neg (fun z => e z.symm)]
    | cons p r ih =>
      rw [valD_cons] at hn
      by_cases e : p.1 = k
      · rw [if_pos e] at hn; cases hn
      · rw [if_neg e] at hn
        rw [List.cons_append, valD_cons, valD_cons, ih hn]
        by_cases ej : p.1 = j
        · rw [if_pos ej, if_pos ej, if_neg (fun z => e (ej.trans z))]
        · rw [if_neg ej, if_neg ej]
theorem putD_len (kvs : List (κ × D)) (k : κ) (v : D) : (putD kvs k v).length ≤ kvs.length + 1 := by
  unfold putD
  split
  · rw [List.length_map]; omega
  · rw [List.length_append]; exact Nat.le_refl _
variable {K : PySem.W.Frag} {H : Hp}
theorem RepK.len : ∀ {kvs : List (κ × D)} {vs : List (κ × V)}, RepK K H kvs vs → kvs.length = vs.length
  | [], _, h => by cases h; rfl
  | (n, d) :: r, _, ⟨v, t, e, _, h2⟩ => by subst e; rw [List.length_cons, List.length_cons, RepK.len h2]
theorem RepK.keys : ∀ {kvs : List (κ × D)} {vs : List (κ × V)}, RepK K H kvs vs → kvs.map (·.1) = vs.map (·.1)
  | [], _, h => by cases h; rfl
  | (n, d) :: r, _, ⟨v, t, e, _, h2⟩ => by subst e; rw [List.map_cons, List.map_cons, RepK.keys h2]
theorem RepK.val : ∀ {kvs : List (κ × D)} {vs : List (κ × V)} (k : κ), RepK K H kvs vs → (∀ d, valD kvs k = some d → ∃ v, valV vs k = some v ∧ Rep K H d v) ∧ (valD kvs k = none → valV vs k = none)
  | [], _, k, h => by cases h; exact ⟨fun d e => (by cases e), fun _ => rfl⟩
  | (n, d) :: r, _, k, ⟨v, t, e, h1, h2⟩ => by
    subst e
    rw [valD_cons]
    by_cases en : n = k
    · rw [if_pos en, valV_pos (p := (n, v)) en]
      exact ⟨fun d' e => (by cases e; exact ⟨v, rfl, h1⟩), fun e => by cases e⟩
    · rw [if_neg en, valV_neg (p := (n, v)) en]
      exact RepK.val k h2
theorem RepK.put {kvs : List (κ × D)} {vs : List (κ × V)} {k : κ} {d : D} {v : V} (h : RepK K H kvs vs) (r : Rep K H d v) : RepK K H (putD kvs k d) (putK vs k v) := by
  have ha : (kvs.any fun p => decide (p.1 = k)) = (vs.any fun p => decide (p.1 = k)) := by
    have := congrArg (fun l : List κ => l.any fun x => decide (x = k)) h.keys
    rw [List.any_map, List.any_map] at this
    exact this
  unfold putD putK
  rw [ha]
  split
  · clear ha
    revert vs
    induction kvs with
    | nil => intro vs h _; cases h; rfl
    | cons p t ih =>
      intro vs h hy
      obtain ⟨n, d'⟩ := p
      obtain ⟨v', t', e, h1, h2⟩ := h
      subst e
      have key : RepK K H (t.map fun p => if p.1 = k then (p.1, d) else p) (t'.map fun kv => if kv.1 = k then (kv.1, v) else kv) := by
        clear ih hy
        revert t'
        induction t with
        | nil => intro t' h2; cases h2; rfl
        | cons q t ih =>
          intro t' h2
          obtain ⟨m, d2⟩ := q
          obtain ⟨v2, t2, e, g1, g2⟩ := h2
          subst e
          rw [List.map_cons, List.map_cons]
          by_cases en : m = k
          · rw [if_pos en, if_pos en]; exact ⟨v, _, rfl, r, ih _ g2⟩
          · rw [if_neg en, if_neg en]; exact ⟨v2, _, rfl, g1, ih _ g2⟩
      rw [List.map_cons, List.map_cons]
      by_cases en : n = k
      · rw [if_pos en, if_pos en]; exact ⟨v, _, rfl, r, key⟩
      · rw [if_neg en, if_neg en]; exact ⟨v', _, rfl, h1, key⟩
  · clear ha
    revert vs
    induction kvs with
    | nil => intro vs h _; cases h; exact ⟨v, [], rfl, r, rfl⟩
    | cons p t ih =>
      intro vs h hy
      obtain ⟨n, d'⟩ := p
      obtain ⟨v', t', e, h1, h2⟩ := h
      subst e
      exact ⟨v', _, rfl, h1, ih h2 (fun z => hy (by rw [List.any_cons, z, Bool.or_true]))⟩
end

/-! ### look-ups -/
/-- what stands in the dict x under y -/
def dAt (x y : D) (st : DS) (k : Option D → Prop) : Prop := match x, y with
  | .ref a, .int i => ∃ kvs, (st a = some (.dk kvs) ∨ st a = some (.lk kvs)) ∧ k (valD kvs (.inl i))
  | .ref a, .str s => ∃ kvs, (st a = some (.dk kvs) ∨ st a = some (.lk kvs)) ∧ k (valD kvs (.inr s))
  | .ref a, .key ks => ∃ kvs, (st a = some (.dt kvs) ∨ st a = some (.lt kvs)) ∧ k (valD kvs ks)
  | _, _ => False
def isDct (x : D) (st : DS) : Prop := match x with
  | .ref a => ∃ o, st a = some o ∧ match o with
    | .dk _ => True
    | .lk _ => True
    | .dt _ => True
    | .lt _ => True
    | _ => False
  | _ => False
/-- the dict x with v under y -/
def dPut (x y v : D) (st : DS) (k : DS → Prop) : Prop := match x, y with
  | .ref a, .int i => ∃ kvs, st a = some (.dk kvs) ∧ kvs.length < sizeLine ∧ k (put st a (.dk (putD kvs (.inl i) v)))
  | .ref a, .str s => ∃ kvs, st a = some (.dk kvs) ∧ kvs.length < sizeLine ∧ k (put st a (.dk (putD kvs (.inr s) v)))
  | .ref a, .key ks => ∃ kvs, st a = some (.dt kvs) ∧ kvs.length < sizeLine ∧ k (put st a (.dt (putD kvs ks v)))
  | _, _ => False
section
variable {K : PySem.W.Frag} {H : Hp} {st : DS} {x y : D} {xv yv : V}
theorem dk_rdD {a : Addr} {kvs : List (Key × D)} (hs : RepS K H st) (h : st a = some (.dk kvs) ∨ st a = some (.lk kvs)) : ∃ vs, Rd H a (.dK vs) ∧ RepK K H kvs vs := by
  rcases h with h | h
  · obtain ⟨vs, e, r⟩ := hs a _ h; exact ⟨vs, .inl e, r⟩
  · obtain ⟨o, vs, e, r⟩ := hs a _ h; exact ⟨vs, .inr ⟨o, e⟩, r⟩
theorem dt_rdD {a : Addr} {kvs : List (List Key × D)} (hs : RepS K H st) (h : st a = some (.dt kvs) ∨ st a = some (.lt kvs)) : ∃ vs, Rd H a (.dT vs) ∧ RepK K H kvs vs := by
  rcases h with h | h
  · obtain ⟨vs, e, r⟩ := hs a _ h; exact ⟨vs, .inl e, r⟩
  · obtain ⟨o, vs, e, r⟩ := hs a _ h; exact ⟨vs, .inr ⟨o, e⟩, r⟩
theorem dAt_ok {k : Option D → Prop} (hs : RepS K H st) (rx : Rep K H x xv) (ry : Rep K H y yv) (h : dAt x y st k) : ∃ a o, xv = .ref a ∧ k o ∧ ∃ ov, DGet H a yv ov ∧ (∀ d, o = some d → ∃ v, ov = some v ∧ Rep K H d v) ∧ (o = none → ov = none) := by
  unfold dAt at h
  split at h
  · rename_i a i
    obtain ⟨kvs, e, h⟩ := h
    obtain ⟨vs, rd, r⟩ := dk_rdD hs e
    exact ⟨_, _, Rep_ref.mp rx, h, _, .inl ⟨vs, .inl i, rd, Rep_int.mp ry, rfl⟩, (r.val _).1, (r.val _).2⟩
  · rename_i a i
    obtain ⟨kvs, e, h⟩ := h
    obtain ⟨vs, rd, r⟩ := dk_rdD hs e
    exact ⟨_, _, Rep_ref.mp rx, h, _, .inl ⟨vs, .inr i, rd, Rep_str.mp ry, rfl⟩, (r.val _).1, (r.val _).2⟩
  · obtain ⟨kvs, e, h⟩ := h
    obtain ⟨vs, rd, r⟩ := dt_rdD hs e
    obtain ⟨b, rfl, eb⟩ := Rep_key.mp ry
    exact ⟨_, _, Rep_ref.mp rx, h, _, .inr ⟨vs, _, b, rd, rfl, eb, rfl⟩, (r.val _).1, (r.val _).2⟩
  · exact h.elim
theorem dPut_ok {k : DS → Prop} {d : D} {v : V} (hs : RepS K H st) (rx : Rep K H x xv) (ry : Rep K H y yv) (rv : Rep K H d v) (h : dPut x y d st k) : ∃ a H' st', xv = .ref a ∧ DPut H a yv v H' ∧ Keep K H st H' st' ∧ RepS K H' st' ∧ k st' := by
  unfold dPut at h
  split at h
  · rename_i a i
    obtain ⟨kvs, e, hl, h⟩ := h
    obtain ⟨vs, e1, r⟩ := hs _ _ e
    have kw := hs.keepW e (HO.dK (putK vs (.inl i) v)) (OB.dk (putD kvs (.inl i) d))
    exact ⟨_, _, _, Rep_ref.mp rx, .inl ⟨vs, .inl i, e1, Rep_int.mp ry, by rw [← r.len]; exact hl, rfl⟩, kw, hs.write e ⟨_, upd_same, (r.keep kw).put (rv.keep kw)⟩, h⟩
  · rename_i a i
    obtain ⟨kvs, e, hl, h⟩ := h
    obtain ⟨vs, e1, r⟩ := hs _ _ e
    have kw := hs.keepW e (HO.dK (putK vs (.inr i) v)) (OB.dk (putD kvs (.inr i) d))
    exact ⟨_, _, _, Rep_ref.mp rx, .inl ⟨vs, .inr i, e1, Rep_str.mp ry, by rw [← r.len]; exact hl, rfl⟩, kw, hs.write e ⟨_, upd_same, (r.keep kw).put (rv.keep kw)⟩, h⟩
  · rename_i a i
    obtain ⟨kvs, e, hl, h⟩ := h
    obtain ⟨vs, e1, r⟩ := hs _ _ e
    obtain ⟨b, rfl, eb⟩ := Rep_key.mp ry
    have kw := hs.keepW e (HO.dT (putK vs i v)) (OB.dt (putD kvs i d))
    exact ⟨_, _, _, Rep_ref.mp rx, .inr ⟨vs, i, b, e1, rfl, eb, by rw [← r.len]; exact hl, rfl⟩, kw, hs.write e ⟨_, upd_same, (r.keep kw).put (rv.keep kw)⟩, h⟩
  · exact h.elim
theorem isDct_ok (hs : RepS K H st) (rx : Rep K H x xv) (h : isDct x st) : ∃ a, xv = .ref a ∧ IsD H a := by
  unfold isDct at h
  split at h
  · obtain ⟨o, e, h⟩ := h
    refine ⟨_, Rep_ref.mp rx, ?_⟩
    cases o with
    | dk kvs => obtain ⟨vs, rd, _⟩ := dk_rdD hs (.inl e); exact .inl ⟨vs, rd⟩
    | lk kvs => obtain ⟨vs, rd, _⟩ := dk_rdD hs (.inr e); exact .inl ⟨vs, rd⟩
    | dt kvs => obtain ⟨vs, rd, _⟩ := dt_rdD hs (.inl e); exact .inr ⟨vs, rd⟩
    | lt kvs => obtain ⟨vs, rd, _⟩ := dt_rdD hs (.inr e); exact .inr ⟨vs, rd⟩
    | _ => exact h.elim
  · exact h.elim
end
def wDGet (wa wb : WE) : WE := fun ep st R Rx => wa ep st (fun x st1 => wb ep st1 (fun y st2 => dAt x y st2 fun o => ∃ d, o = some d ∧ R d st2) Rx) Rx
/-- y in d; neg: not in -/
def wDIn (neg : Bool) (wb wa : WE) : WE := fun ep st R Rx => wb ep st (fun y st1 => wa ep st1 (fun x st2 => dAt x y st2 fun o => R (.bl (if neg = true then !o.isSome else o.isSome)) st2) Rx) Rx
def wDInT (neg : Bool) (wb wa : WE) : WT := fun ep st R Rx => wb ep st (fun y st1 => wa ep st1 (fun x st2 => dAt x y st2 fun o => R (if neg = true then !o.isSome else o.isSome) st2) Rx) Rx
def wDGetOr (wa wb wc : WE) : WE := fun ep st R Rx => wa ep st (fun x st1 => isDct x st1 ∧ wb ep st1 (fun y st2 => wc ep st2 (fun z st3 => dAt x y st3 fun o => R (o.getD z) st3) Rx) Rx) Rx
def wDPut (wa wb wv : WE) : WS := fun E ep st => wv ep st (fun v st1 => wa ep st1 (fun x st2 => wb ep st2 (fun y st3 => dPut x y v st3 fun st4 => E.nx ep st4) (fun x st' => E.ex x ep st')) (fun x st' => E.ex x ep st')) (fun x st' => E.ex x ep st')
def wDNew : WE := fun _ st R _ => (∀ p, st p = none → R (.ref p) (put st p (.dk []))) ∨ ∀ p, st p = none → R (.ref p) (put st p (.dt []))
def wDLen (wa : WE) : WE := fun ep st R Rx => wa ep st (fun x st' => ∃ a, x = .ref a ∧ ∃ kvs, (st' a = some (.dk kvs)) ∧ R (.int (kvs.length : Int)) st') Rx
section
variable {X : Cx} {W : WX} {a b c e : Expr} {wa wb wc we : WE} {pos p2 apos cpos : Pos} {k : Nat}
theorem j_dget (hr : Room k X.A) (ha : JE X W a wa) (hb : JE X W b wb) (hs : NoSl b := by intro _ _; rfl) : JE X W (.Subscript a b pos) (wDGet wa wb) := by
  refine (pe_dget (by have := hr.units; omega) ha hb hs).weak ?_
  rintro sg H Q ⟨ep, st, R, Rx, he, hs, hw, hq, hx⟩
  refine ⟨ep, st, _, Rx, he, hs, hw, fun x H1 d1 st1 k1 s1 r1 h1 => ?_, hx⟩
  refine ⟨ep, st1, _, Rx, he.keep k1, s1, h1, fun y H2 d2 st2 k2 s2 r2 h2 => ?_, hx.keep k1⟩
  obtain ⟨a', o, rfl, ⟨d, rfl, h3⟩, ov, g, hv, _⟩ := dAt_ok s2 (r1.keep k2) r2 h2
  obtain ⟨v, rfl, rv⟩ := hv d rfl
  exact ⟨a', v, rfl, g, hq v H2 d st2 (k1.trans k2) s2 rv h3⟩
theorem som_eq {K : PySem.W.Frag} {H : Hp} {o : Option D} {ov : Option V} (hv : ∀ d, o = some d → ∃ v, ov = some v ∧ Rep K H d v) (hn : o = none → ov = none) : ov.isSome = o.isSome := by
  cases o with
  | none => rw [hn rfl]; rfl
  | some d => obtain ⟨v, rfl, _⟩ := hv d rfl; rfl
theorem jc_din (hr : Room k X.A) (hb : JE X W b wb) (ha : JE X W a wa) (hm : behindInMarks .In a = false := by rfl) : JE X W (.Compare b [.In] [a] pos) (wDIn false wb wa) := by
  refine (pe_cmp (pc_din (by have := hr.units; omega) hb ha) hm).weak ?_
  rintro sg H Q ⟨ep, st, R, Rx, he, hs, hw, hq, hx⟩
  refine ⟨ep, st, _, Rx, he, hs, hw, fun y H1 d1 st1 k1 s1 r1 h1 => ?_, hx⟩
  refine ⟨ep, st1, _, Rx, he.keep k1, s1, h1, fun x H2 d2 st2 k2 s2 r2 h2 => ?_, hx.keep k1⟩
  obtain ⟨a', o, rfl, h3, ov, g, hv, hn⟩ := dAt_ok s2 r2 (r1.keep k2) h2
  exact ⟨a', ov, rfl, g, hq _ H2 _ st2 (k1.trans k2) s2 (Rep_bl.mpr (by rw [som_eq hv hn]; rfl)) h3⟩
theorem jt_din (hr : Room k X.A) (hb : JE X W b wb) (ha : JE X W a wa) (hm : behindInMarks .In a = false := by rfl) : JT X W (.Compare b [.In] [a] pos) (wDInT false wb wa) := by
  refine (pt_cmp (pc_din (by have := hr.units; omega) hb ha) hm).weak ?_
  rintro sg H Q ⟨ep, st, R, Rx, he, hs, hw, hq, hx⟩
  refine ⟨ep, st, _, Rx, he, hs, hw, fun y H1 d1 st1 k1 s1 r1 h1 => ?_, hx⟩
  refine ⟨ep, st1, _, Rx, he.keep k1, s1, h1, fun x H2 d2 st2 k2 s2 r2 h2 => ?_, hx.keep k1⟩
  obtain ⟨a', o, rfl, h3, ov, g, hv, hn⟩ := dAt_ok s2 r2 (r1.keep k2) h2
  refine ⟨a', ov, rfl, g, _, rfl, ?_⟩
  rw [som_eq hv hn]
  exact hq _ H2 st2 (k1.trans k2) s2 h3
theorem jc_dnin (hr : Room k X.A) (hb : JE X W b wb) (ha : JE X W a wa) (hm : behindInMarks .NotIn a = false := by rfl) : JE X W (.Compare b [.NotIn] [a] pos) (wDIn true wb wa) := by
  refine (pe_cmp (pc_dnotin (by have := hr.units; omega) hb ha) hm).weak ?_
  rintro sg H Q ⟨ep, st, R, Rx, he, hs, hw, hq, hx⟩
  refine ⟨ep, st, _, Rx, he, hs, hw, fun y H1 d1 st1 k1 s1 r1 h1 => ?_, hx⟩
  refine ⟨ep, st1, _, Rx, he.keep k1, s1, h1, fun x H2 d2 st2 k2 s2 r2 h2 => ?_, hx.keep k1⟩
  obtain ⟨a', o, rfl, h3, ov, g, hv, hn⟩ := dAt_ok s2 r2 (r1.keep k2) h2
  exact ⟨a', ov, rfl, g, hq _ H2 _ st2 (k1.trans k2) s2 (Rep_bl.mpr (by rw [som_eq hv hn]; rfl)) h3⟩
theorem jt_dnin (hr : Room k X.A) (hb : JE X W b wb) (ha : JE X W a wa) (hm : behindInMarks .NotIn a = false := by rfl) : JT X W (.Compare b [.NotIn] [a] pos) (wDInT true wb wa) := by
  refine (pt_cmp (pc_dnotin (by have := hr.units; omega) hb ha) hm).weak ?_
  rintro sg H Q ⟨ep, st, R, Rx, he, hs, hw, hq, hx⟩
  refine ⟨ep, st, _, Rx, he, hs, hw, fun y H1 d1 st1 k1 s1 r1 h1 => ?_, hx⟩
  refine ⟨ep, st1, _, Rx, he.keep k1, s1, h1, fun x H2 d2 st2 k2 s2 r2 h2 => ?_, hx.keep k1⟩
  obtain ⟨a', o, rfl, h3, ov, g, hv, hn⟩ := dAt_ok s2 r2 (r1.keep k2) h2
  refine ⟨a', ov, rfl, g, _, rfl, ?_⟩
  rw [som_eq hv hn]
  exact hq _ H2 st2 (k1.trans k2) s2 h3
theorem j_dgetor (hr : Room k X.A) (ha : JE X W a wa) (hb : JE X W b wb) (hc : JE X W c wc) (m : M2 X a "get" apos b c cpos := by exact ⟨rfl, rfl, rfl, rfl⟩) : JE X W (.Call (.Attribute a "get" apos) [b, c] [] cpos) (wDGetOr wa wb wc) := by
  refine (pe_dget2 (by have := hr.units; omega) ha hb hc m).weak ?_
  rintro sg H Q ⟨ep, st, R, Rx, he, hs, hw, hq, hx⟩
  refine ⟨ep, st, _, Rx, he, hs, hw, fun x H1 d1 st1 k1 s1 r1 h1 => ?_, hx⟩
  obtain ⟨hd, h1⟩ := h1
  obtain ⟨a', rfl, id⟩ := isDct_ok s1 r1 hd
  refine ⟨a', rfl, id, ep, st1, _, Rx, he.keep k1, s1, h1, fun y H2 d2 st2 k2 s2 r2 h2 => ?_, hx.keep k1⟩
  refine ⟨ep, st2, _, Rx, he.keep (k1.trans k2), s2, h2, fun z H3 d3 st3 k3 s3 r3 h3 => ?_, hx.keep (k1.trans k2)⟩
  obtain ⟨a2, o, e, h4, ov, g, hv, hn⟩ := dAt_ok s3 (r1.keep (k2.trans k3)) (r2.keep k3) h3
  cases e
  refine ⟨ov, g, hq _ H3 _ st3 ((k1.trans k2).trans k3) s3 ?_ h4⟩
  cases o with
  | none => rw [hn rfl]; exact r3
  | some d => obtain ⟨v, rfl, rv⟩ := hv d rfl; exact rv
theorem js_dput (hr : Room k X.A) (ha : JE X W a wa) (hb : JE X W b wb) (hv : JE X W e we) (hs : swapsWith e (some (.Subscript a b p2)) pos.line X.env = pure false := by rfl) : JS X W (.Assign [.Subscript a b p2] e pos) (wDPut wa wb we) := by
  refine (ps_dput (by have := hr.units; omega) ha hb hv hs).weak ?_
  rintro Dn sg H ⟨ep, st, E, he, hs, hw, ok⟩
  refine ⟨ep, st, _, _, he, hs, hw, fun v H1 d1 st1 k1 s1 r1 h1 => ?_, ok.okX he⟩
  refine ⟨ep, st1, _, _, he.keep k1, s1, h1, fun x H2 d2 st2 k2 s2 r2 h2 => ?_, (ok.okX he).keep k1⟩
  refine ⟨ep, st2, _, _, he.keep (k1.trans k2), s2, h2, fun y H3 d3 st3 k3 s3 r3 h3 => ?_, (ok.okX he).keep (k1.trans k2)⟩
  obtain ⟨a', H4, st4, rfl, g, k4, s4, h4⟩ := dPut_ok s3 (r2.keep k3) r3 (r1.keep (k2.trans k3)) h3
  have kk := ((k1.trans k2).trans k3).trans k4
  exact ⟨a', H4, rfl, g, ok.nx _ H4 _ st4 kk s4 (he.keep kk) h4⟩
theorem j_dnew : JE X W (.Dict [] [] pos) wDNew := by
  refine ⟨fun pins s sg H Q I h => ?_⟩
  obtain ⟨ep, st, R, Rx, he, hs, hw, hq, hx⟩ := h
  rcases hw with hw | hw
  · exact pe_dnewK.run pins s sg H Q I fun p hp => hq _ _ _ _ (Keep.told hp _ (.dk [])) (hs.told (ob := .dk []) hp ⟨[], upd_same, rfl⟩) (Rep_ref.mpr rfl) (hw p (hs.free hp))
  · exact pe_dnewT.run pins s sg H Q I fun p hp => hq _ _ _ _ (Keep.told hp _ (.dt [])) (hs.told (ob := .dt []) hp ⟨[], upd_same, rfl⟩) (Rep_ref.mpr rfl) (hw p (hs.free hp))
end

/-! ### walks over the keys -/
/-- the dict at a is locked while the statement runs; no exception leaves it -/
def wLock (w : WS) : WS := fun E ep st => ∃ a, (∃ kvs, st a = some (.dk kvs) ∧ w
    { nx := fun ep' st' => st' a = some (.lk kvs) ∧ E.nx ep' (put st' a (.dk kvs)), rt := fun d st' => st' a = some (.lk kvs) ∧ E.rt d (put st' a (.dk kvs)), bk := fun ep' st' => st' a = some (.lk kvs) ∧ E.bk ep' (put st' a (.dk kvs)), ct := fun ep' st' => st' a = some (.lk kvs) ∧ E.ct ep' (put st' a (.dk kvs)), ex := fun _ _ _ => False } ep (put st a (.lk kvs))) ∨
  (∃ kvs, st a = some (.dt kvs) ∧ w
    { nx := fun ep' st' => st' a = some (.lt kvs) ∧ E.nx ep' (put st' a (.dt kvs)), rt := fun d st' => st' a = some (.lt kvs) ∧ E.rt d (put st' a (.dt kvs)), bk := fun ep' st' => st' a = some (.lt kvs) ∧ E.bk ep' (put st' a (.dt kvs)), ct := fun ep' st' => st' a = some (.lt kvs) ∧ E.ct ep' (put st' a (.dt kvs)), ex := fun _ _ _ => False } ep (put st a (.lt kvs)))

/-- a thing that may be locked or unlocked -/
def Pl (u : HO) : Prop := (∀ vs, u ≠ .tup vs) ∧ (∀ o w, u ≠ .frz o (.tup w)) ∧ (∀ o w, u ≠ .frz o (.lst w)) ∧ ∀ fv, u ≠ .xd fv
section
variable {K : PySem.W.Frag} {H H' : Hp} {st st' : DS} {a : Addr} {u v : HO}
theorem pl_tup (ha : H a = some u) (p : Pl u) (b : Addr) (vs : List V) (h : SqT K H b vs) : SqT K (upd H a v) b vs := by
  rcases h with (h | ⟨o, h⟩) | h
  · exact .inl (.inl (by rw [upd_ne (fun z => p.1 vs (by rw [z, ha] at h; exact Option.some.inj h))]; exact h))
  · exact .inl (.inr ⟨o, by rw [upd_ne (fun z => p.2.1 o vs (by rw [z, ha] at h; exact Option.some.inj h))]; exact h⟩)
  · exact .inr h
theorem pl_scr (ha : H a = some u) (p : Pl u) (b : Addr) (vs : List V) (h : SqF K H b vs) : SqF K (upd H a v) b vs := by
  rcases h with ⟨o, h⟩ | h
  · exact .inl ⟨o, by rw [upd_ne (fun z => p.2.2.1 o vs (by rw [z, ha] at h; exact Option.some.inj h))]; exact h⟩
  · exact .inr h
theorem pl_tps (ha : H a = some u) (p : Pl u) (b : Addr) (vs : List V) (h : H b = some (.tup vs)) : upd H a v b = some (.tup vs) := by
  rw [upd_ne (fun z => p.1 vs (by rw [z, ha] at h; exact Option.some.inj h))]; exact h
theorem pl_xds (ha : H a = some u) (p : Pl u) (b : Addr) (vs : List (Str × V)) (h : H b = some (.xd vs)) : upd H a v b = some (.xd vs) := by
  rw [upd_ne (fun z => p.2.2.2 vs (by rw [z, ha] at h; exact Option.some.inj h))]; exact h
theorem RepS.swap {o : OB} (hs : RepS K H st) (ha : H a = some u) (p : Pl u) (ho : RepO K (upd H a v) a o) : RepS K (upd H a v) (put st a o) := fun b ob e => by
  by_cases hb : b = a
  · subst hb; rw [put_same] at e; cases e; exact ho
  · rw [put_ne hb] at e
    have q := hs b ob e
    have m1 := pl_tup (K := K) (v := v) ha p
    have m2 := pl_scr (K := K) (v := v) ha p
    have m3 := pl_tps (v := v) ha p
    cases ob with
    | lst ds => obtain ⟨vs, e1, r⟩ := q; exact ⟨vs, by rw [upd_ne hb]; exact e1, Reps.mono m1 m2 m3 ds vs r⟩
    | ins C fs => obtain ⟨dx, vs, e1, r⟩ := q; exact ⟨dx, vs, by rw [upd_ne hb]; exact e1, RepF.mono m1 m2 m3 fs vs r⟩
    | dk ds => obtain ⟨vs, e1, r⟩ := q; exact ⟨vs, by rw [upd_ne hb]; exact e1, RepK.mono m1 m2 m3 ds vs r⟩
    | dt ds => obtain ⟨vs, e1, r⟩ := q; exact ⟨vs, by rw [upd_ne hb]; exact e1, RepK.mono m1 m2 m3 ds vs r⟩
    | xd ds => obtain ⟨vs, e1, r⟩ := q; exact ⟨vs, by rw [upd_ne hb]; exact e1, RepF.mono m1 m2 m3 ds vs r⟩
    | lk ds => obtain ⟨o, vs, e1, r⟩ := q; exact ⟨o, vs, by rw [upd_ne hb]; exact e1, RepK.mono m1 m2 m3 ds vs r⟩
    | lt ds => obtain ⟨o, vs, e1, r⟩ := q; exact ⟨o, vs, by rw [upd_ne hb]; exact e1, RepK.mono m1 m2 m3 ds vs r⟩
/-- locked, run, unlocked -/
theorem Keep.locked {od : Obj} {o o1 : OB} (ha : H a = some u) (hu : Pl u) (hf : Pl (.frz od u)) (hn : ∀ o w, u ≠ .frz o w) (hst : ∃ o0, st a = some o0) (k : Keep K (upd H a (.frz od u)) (put st a o) H' st') : H' a = some (.frz od u) ∧ Keep K H st (upd H' a u) (put st' a o1) := by
  have e : H' a = some (.frz od u) := k.fzs a od u upd_same
  refine ⟨e, fun b vs h => pl_tup e hf b vs (k.tup b vs (pl_tup ha hu b vs h)), fun b vs h => pl_scr e hf b vs (k.scr b vs (pl_scr ha hu b vs h)), fun b vs h => pl_tps e hf b vs (k.tps b vs (pl_tps ha hu b vs h)), fun b w h n z => ?_, fun b vs h => pl_xds e hf b vs (k.xds b vs (pl_xds ha hu b vs h)), fun b o w h => ?_⟩
  · have hb : b ≠ a := fun q => by
      obtain ⟨o0, h0⟩ := hst
      rw [q, h0] at z; cases z
    rw [upd_ne hb, put_ne hb]
    exact k.oth b w (by rw [upd_ne hb]; exact h) n (by rw [put_ne hb]; exact z)
  · have hb : b ≠ a := fun q => hn o w (by rw [q, ha] at h; exact Option.some.inj h)
    rw [upd_ne hb]
    exact k.fzs b o w (by rw [upd_ne hb]; exact h)
theorem RepE.swap {ep : DE} {sg : L2.St} (h : RepE K H ep sg) (ha : H a = some u) (p : Pl u) : RepE K (upd H a v) ep sg :=
  ⟨h.1, fun i d e => let ⟨w, e1, r⟩ := h.2 i d e; ⟨w, e1, Rep.mono (pl_tup ha p) (pl_scr ha p) (pl_tps ha p) d w r⟩⟩
end
theorem pl_dk (vs : List (Key × V)) : Pl (.dK vs) := ⟨(fun _ z => by cases z), (fun _ _ z => by cases z), (fun _ _ z => by cases z), (fun _ z => by cases z)⟩
theorem pl_dt (vs : List (List Key × V)) : Pl (.dT vs) := ⟨(fun _ z => by cases z), (fun _ _ z => by cases z), (fun _ _ z => by cases z), (fun _ z => by cases z)⟩
theorem pl_fk (o : Obj) (vs : List (Key × V)) : Pl (.frz o (.dK vs)) := ⟨(fun _ z => by cases z), (fun _ _ z => by cases z), (fun _ _ z => by cases z), (fun _ z => by cases z)⟩
theorem pl_ft (o : Obj) (vs : List (List Key × V)) : Pl (.frz o (.dT vs)) := ⟨(fun _ z => by cases z), (fun _ _ z => by cases z), (fun _ _ z => by cases z), (fun _ z => by cases z)⟩
/-- the wish about exceptions is not used -/
theorem js_lock {X : Cx} {W : WX} {s : Stmt} {w : WS} (h : JS X W s w) : JS X W s (wLock w) := by
  refine (ps_lock h).weak ?_
  rintro Dn sg H ⟨ep, st, E, he, hs, ⟨a, hw⟩, ok⟩
  rcases hw with ⟨kvs, ea, hw⟩ | ⟨kvs, ea, hw⟩
  · obtain ⟨vs, e1, r⟩ := hs a _ ea
    refine ⟨a, .dK vs, e1, trivial, fun od => ?_⟩
    have rl : RepK X.K (upd H a (.frz od (.dK vs))) kvs vs := RepK.mono (pl_tup e1 (pl_dk vs)) (pl_scr e1 (pl_dk vs)) (pl_tps e1 (pl_dk vs)) kvs vs r
    have back : ∀ H' st', Keep X.K (upd H a (.frz od (.dK vs))) (put st a (.lk kvs)) H' st' → RepS X.K H' st' → H' a = some (.frz od (.dK vs)) ∧ Keep X.K H st (upd H' a (.dK vs)) (put st' a (.dk kvs)) ∧ RepS X.K (upd H' a (.dK vs)) (put st' a (.dk kvs)) := fun H' st' k s => by
      obtain ⟨e2, kk⟩ := k.locked (o1 := .dk kvs) e1 (pl_dk vs) (pl_fk od vs) (fun _ _ z => by cases z) ⟨_, ea⟩
      exact ⟨e2, kk, s.swap e2 (pl_fk od vs) ⟨vs, upd_same, RepK.mono kk.tup kk.scr kk.tps kvs vs r⟩⟩
    refine ⟨ep, put st a (.lk kvs), _, he.swap e1 (pl_dk vs), hs.swap e1 (pl_dk vs) ⟨od, vs, upd_same, rl⟩, hw, ⟨fun sg' H' ep' st' k s e q => ?_, fun v H' d st' k s e q => ?_, fun sg' H' ep' st' k s e q => ?_, fun sg' H' ep' st' k s e q => ?_, fun _ _ _ _ _ _ _ _ _ _ _ z => z.elim⟩⟩
    · obtain ⟨e2, kk, ss⟩ := back H' st' k s
      exact ⟨e2, ok.nx _ _ _ _ kk ss (e.swap e2 (pl_fk od vs)) q.2⟩
    · obtain ⟨e2, kk, ss⟩ := back H' st' k s
      exact ⟨e2, ok.rt _ _ _ _ kk ss (Rep.mono (pl_tup e2 (pl_fk od vs)) (pl_scr e2 (pl_fk od vs)) (pl_tps e2 (pl_fk od vs)) d v e) q.2⟩
    · obtain ⟨e2, kk, ss⟩ := back H' st' k s
      exact ⟨e2, ok.bk _ _ _ _ kk ss (e.swap e2 (pl_fk od vs)) q.2⟩
    · obtain ⟨e2, kk, ss⟩ := back H' st' k s
      exact ⟨e2, ok.ct _ _ _ _ kk ss (e.swap e2 (pl_fk od vs)) q.2⟩
  · obtain ⟨vs, e1, r⟩ := hs a _ ea
    refine ⟨a, .dT vs, e1, trivial, fun od => ?_⟩
    have rl : RepK X.K (upd H a (.frz od (.dT vs))) kvs vs := RepK.mono (pl_tup e1 (pl_dt vs)) (pl_scr e1 (pl_dt vs)) (pl_tps e1 (pl_dt vs)) kvs vs r
    have back : ∀ H' st', Keep X.K (upd H a (.frz od (.dT vs))) (put st a (.lt kvs)) H' st' → RepS X.K H' st' → H' a = some (.frz od (.dT vs)) ∧ Keep X.K H st (upd H' a (.dT vs)) (put st' a (.dt kvs)) ∧ RepS X.K (upd H' a (.dT vs)) (put st' a (.dt kvs)) := fun H' st' k s => by
      obtain ⟨e2, kk⟩ := k.locked (o1 := .dt kvs) e1 (pl_dt vs) (pl_ft od vs) (fun _ _ z => by cases z) ⟨_, ea⟩
      exact ⟨e2, kk, s.swap e2 (pl_ft od vs) ⟨vs, upd_same, RepK.mono kk.tup kk.scr kk.tps kvs vs r⟩⟩
    refine ⟨ep, put st a (.lt kvs), _, he.swap e1 (pl_dt vs), hs.swap e1 (pl_dt vs) ⟨od, vs, upd_same, rl⟩, hw, ⟨fun sg' H' ep' st' k s e q => ?_, fun v H' d st' k s e q => ?_, fun sg' H' ep' st' k s e q => ?_, fun sg' H' ep' st' k s e q => ?_, fun _ _ _ _ _ _ _ _ _ _ _ z => z.elim⟩⟩
    · obtain ⟨e2, kk, ss⟩ := back H' st' k s
      exact ⟨e2, ok.nx _ _ _ _ kk ss (e.swap e2 (pl_ft od vs)) q.2⟩
    · obtain ⟨e2, kk, ss⟩ := back H' st' k s
      exact ⟨e2, ok.rt _ _ _ _ kk ss (Rep.mono (pl_tup e2 (pl_ft od vs)) (pl_scr e2 (pl_ft od vs)) (pl_tps e2 (pl_ft od vs)) d v e) q.2⟩
    · obtain ⟨e2, kk, ss⟩ := back H' st' k s
      exact ⟨e2, ok.bk _ _ _ _ kk ss (e.swap e2 (pl_ft od vs)) q.2⟩
    · obtain ⟨e2, kk, ss⟩ := back H' st' k s
      exact ⟨e2, ok.ct _ _ _ _ kk ss (e.swap e2 (pl_ft od vs)) q.2⟩
/-- the keys of a locked dict -/
def keysD (d : D) (st : DS) (RR : List D → (DS → Prop) → DS → Prop) : Prop := match d with
  | .ref a => (∃ kvs, st a = some (.lk kvs) ∧ RR (kvs.map fun p => kD p.1) (fun s => s a = some (.lk kvs)) st) ∨ ∃ kvs, st a = some (.lt kvs) ∧ RR (kvs.map fun p => D.key p.1) (fun s => s a = some (.lt kvs)) st
  | _ => False
def wKeys (we : WE) : WI := fun ep st RR Rx => we ep st (fun d st' => keysD d st' RR) Rx
theorem repK_at {κ : Type} {K : PySem.W.Frag} {H : Hp} : ∀ {kvs : List (κ × D)} {vs : List (κ × V)} {i : Nat} {k : κ} {v : V}, RepK K H kvs vs → vs[i]? = some (k, v) → ∃ d, kvs[i]? = some (k, d)
  | [], _, i, k, v, h, e => by cases h; simp at e
  | (n, d) :: r, _, 0, k, v, ⟨w, t, e0, _, h2⟩, e => by
    subst e0
    simp at e
    exact ⟨d, by simp [e.1]⟩
  | (n, d) :: r, _, i + 1, k, v, ⟨w, t, e0, _, h2⟩, e => by
    subst e0
    simp at e
    obtain ⟨d', h⟩ := repK_at (i := i) h2 e
    exact ⟨d', by simpa using h⟩
theorem jikeys {X : Cx} {W : WX} {tg e : Expr} {we : WE} (h : JE X W e we) : JI X W tg e (wKeys we) := by
  refine (pi_keys h).weak ?_
  rintro sg H R ⟨ep, st, RR, Rx, he, hs, hw, hq, hx⟩
  refine ⟨ep, st, _, Rx, he, hs, hw, fun v H' d st' k s r h => ?_, hx⟩
  change keysD d st' RR at h
  by_cases hd : ∃ a, d = .ref a
  · obtain ⟨a, rfl⟩ := hd
    rcases h with ⟨kvs, ea, h⟩ | ⟨kvs, ea, h⟩
    · obtain ⟨o, vs, e1, rk⟩ := s a _ ea
      refine ⟨a, o, Rep_ref.mp r, .inl ⟨vs, e1, hq H' st' _ _ _ k s ⟨fun i H2 st2 hi k2 s2 g => ⟨k2.fzs _ _ _ e1, by rw [List.length_map] at hi; rw [← rk.len]; exact hi⟩, fun H2 st2 k2 s2 g => ⟨k2.fzs _ _ _ e1, by rw [List.length_map, rk.len]; exact Nat.le_refl _⟩, fun i H2 st2 x H3 d2 hd k2 s2 g y => ?_⟩ h⟩⟩
      obtain ⟨rfl, key, v2, e2, rfl⟩ := y
      obtain ⟨d3, e3⟩ := repK_at rk e2
      rw [List.getElem?_map, e3] at hd
      cases hd
      refine ⟨.refl, s2, ?_⟩
      cases key
      · exact Rep_int.mpr rfl
      · exact Rep_str.mpr rfl
    · obtain ⟨o, vs, e1, rk⟩ := s a _ ea
      refine ⟨a, o, Rep_ref.mp r, .inr ⟨vs, e1, hq H' st' _ _ _ k s ⟨fun i H2 st2 hi k2 s2 g => ⟨k2.fzs _ _ _ e1, by rw [List.length_map] at hi; rw [← rk.len]; exact hi⟩, fun H2 st2 k2 s2 g => ⟨k2.fzs _ _ _ e1, by rw [List.length_map, rk.len]; exact Nat.le_refl _⟩, fun i H2 st2 x H3 d2 hd k2 s2 g y => ?_⟩ h⟩⟩
      obtain ⟨rfl, key, v2, q, e2, rfl, eq⟩ := y
      obtain ⟨d3, e3⟩ := repK_at rk e2
      rw [List.getElem?_map, e3] at hd
      cases hd
      exact ⟨.refl, s2, Rep_key.mpr ⟨q, rfl, eq⟩⟩
  · cases d <;> first | exact h.elim | exact absurd ⟨_, rfl⟩ hd
end DL

/-! Dicts with pairs of ints as keys: sorted(d), {k: v}. -/
namespace DL
open PySem PySem.Spec PyProof.Rows L2
/-- sorted(d), the keys pairs of ints -/
def rSortDT : List V → Hp → VK → Prop := fun vs H Q => ∃ a kvs, vs = [.ref a] ∧ Rd H a (.dT kvs) ∧ (∀ p ∈ kvs, ∃ i j : Int, p.1 = [.inl i, .inl j]) ∧
  ∀ (bs ys : List Addr) (p : Addr), IsKeys H kvs bs → ys.Perm bs → (ys.Pairwise fun x y => ∀ i j i' j' : Int, H x = some (.tup [.int i, .int j]) → H y = some (.tup [.int i', .int j']) → i < i' ∨ (i = i' ∧ j ≤ j')) → H p = none → Q (.ref p) (upd H p (.lst (ys.map V.ref)))
section
variable {X : Cx}
theorem paired_right {α β : Type} {P : α → β → Prop} {l : List α} {m : List β} (h : Paired P l m) : ∀ b ∈ m, ∃ a ∈ l, P a b := by
  induction h with
  | nil => intro b hb; cases hb
  | cons h t ih =>
    intro b hb
    rcases List.mem_cons.mp hb with rfl | hb
    · exact ⟨_, List.mem_cons_self, h⟩
    · obtain ⟨a, m, p⟩ := ih b hb
      exact ⟨a, List.mem_cons_of_mem _ m, p⟩
theorem refs_list : ∀ {out : List Value}, (∀ u ∈ out, ∃ b, u = Value.ref b) → ∃ bs : List Addr, out = bs.map Value.ref
  | [], _ => ⟨[], rfl⟩
  | u :: r, h => by
    obtain ⟨b, rfl⟩ := h u List.mem_cons_self
    obtain ⟨bs, rfl⟩ := refs_list fun v hv => h v (List.mem_cons_of_mem _ hv)
    exact ⟨b :: bs, rfl⟩
theorem refs_perm {as bs : List Addr} (h : (as.map Value.ref).Perm (bs.map Value.ref)) : as.Perm bs := by
  have := h.map backV
  rw [List.map_map, List.map_map] at this
  have e : ∀ cs : List Addr, (cs.map fun x => backV (Value.ref x)) = cs.map V.ref := fun cs => rfl
  have h2 := this.map fun v => match v with | V.ref a => a | _ => 0
  rw [List.map_map, List.map_map] at h2
  have e2 : ∀ cs : List Addr, List.map ((fun v => match v with | V.ref a => a | _ => 0) ∘ backV ∘ Value.ref) cs = cs := fun cs => by
    induction cs with
    | nil => rfl
    | cons c r ih => rw [List.map_cons, ih]; rfl
  rw [e2, e2] at h2
  exact h2
theorem cr_sortDT (hc : X.calm = true) : CallR X (.builtin "sorted") rSortDT := by
  intro pins s sg H xs us Q I r h
  obtain ⟨d, kvs, rfl, hd, hint, q⟩ := h
  obtain ⟨u, rfl, rx⟩ := r.one
  cases rx
  obtain ⟨z, hs, ks, pr, o, es, ep, ho, hx, hdt, he, hn⟩ := (show ObjOk X.prog X.w H s.heap d (.dT kvs) from hd.ok I.hok)
  have l1 : es.size = ks.length := size_of_entries he
  have l2 : kvs.length = ks.length := Paired.length pr
  refine Calls.call_function_entry PyProof.Rows.kind_sorted PyProof.Rows.plain_sorted PyProof.Rows.entry_sorted (PyProof.Rows.args_sorted1 _) ?_
  unfold Builtin.«sorted»
  refine wpAny_bind (m := checkCount "sorted" 1 1 _) (wpAny_pure ?_)
  refine wpAny_bind (PySem.W.kdu_collect (A := X.A.in1) (kdl_raw hs hx hdt) (I.ok.hd hc) ho (by omega) fun h' tk acc' kp it => ?_)
  have ea : acc'.toList = ks.map fun x => Value.ref x.2.1 := by
    have hl : acc'.toList.length = ks.length := by rw [Array.length_toList, it.1]; exact l1
    apply List.ext_getElem?
    intro j
    rw [List.getElem?_map]
    cases hj : acc'.toList[j]? with
    | none =>
      have h1 := List.getElem?_eq_none_iff.mp hj
      rw [List.getElem?_eq_none (by omega)]
      all_goals rfl
    | some v =>
      obtain ⟨en, hen, hv⟩ := it.2 j v (by rw [← Array.getElem?_toList]; exact hj)
      have qe := entry_at he j
      rw [hen] at qe
      cases hb : ks[j]? with
      | none =>
        rw [hb] at qe
        exact nomatch (show some en = none from qe)
      | some b =>
        rw [hb] at qe
        have e2 : en = entryOfKey (tupleKind (mixKind X.prog X.w)) b := Option.some.inj qe
        rw [hv, e2]
        all_goals rfl
  have hk : IsKeys H kvs (ks.map fun x => x.2.1) := isKeys_of pr
  generalize hbs : (ks.map fun x => x.2.1) = bs at hk
  have ea : acc'.toList = bs.map Value.ref := by rw [ea, ← hbs, List.map_map]; rfl
  have hbl : bs.length = kvs.length := (Paired.length hk).symm
  have hal : acc'.toList.length ≤ sizeLine := by rw [ea, List.length_map, hbl]; exact z
  have I1 : Inv X pins sg H { s with heap := h', toks := tk } := I.kept kp
  have pairs : ∀ b ∈ bs, ∃ i j : Int, H b = some (.tup [.int i, .int j]) := fun b hb => by
    obtain ⟨p, m, e⟩ := paired_right hk b hb
    obtain ⟨i, j, ep⟩ := hint p m
    rw [ep] at e
    exact ⟨i, j, e⟩
  have pr1 : ∀ {b : Addr} {i j : Int}, H b = some (.tup [.int i, .int j]) → Srt.IsPair h' (.ref b) i j := fun {b i j} e => pair_of (s := { s with heap := h', toks := tk }) I1 (SqT.of e)
  have hp : ∀ v ∈ acc'.toList, Srt.IsPair h' v (pairAt h' v).1 (pairAt h' v).2 := fun v hv => by
    rw [ea] at hv
    obtain ⟨b, mb, rfl⟩ := List.mem_map.mp hv
    obtain ⟨i, j, e⟩ := pairs b mb
    exact (pairAt_of (pr1 e)).1
  have hoL : (h'.push (seqObj "list" acc'.toList.toArray 0)).get? h'.objs.size = some (seqObj "list" acc'.toList.toArray 0) := Heap.get?_push_size _ rfl
  refine wpAny_bind (wpAny_newList ?_ hal)
  show wpAny _ _ _ _ _ { s with heap := h'.push (seqObj "list" acc'.toList.toArray 0), toks := tk }
  refine wpAny_bind (wpAny_holding (wpAny_call_entry PyProof.Rows.slot_list_sort ⟨_, hoL, rfl⟩ PyProof.Rows.entry_list_sort
    (SrtO.list_sort_ord (s := { s with heap := h'.push (seqObj "list" acc'.toList.toArray 0), toks := tk }) (SrtO.swo_lex (pairAt h')) hoL hal (fun h2 => ?_) fun out g1 g2 => ⟨_, rfl, ?_⟩) (PyProof.Rows.args_list_sort _)))
  · refine SrtO.pairs_sortableO (by omega) (fun v hv => (hp v hv).keeps fun b o e _ => Heap.get?_push_of_some _ e) fun o e => ?_
    have e' : some o = some (seqObj "list" acc'.toList.toArray 0) := e.symm.trans hoL
    cases e'
    intro c
    exact absurd (Value.type.inj c) (by decide)
  · have pm : out.Perm acc'.toList := g2.perm
    obtain ⟨ys, rfl⟩ := refs_list (out := out) fun u hu => by
      have hu := pm.mem_iff.mp hu
      rw [ea] at hu
      obtain ⟨b, _, rfl⟩ := List.mem_map.mp hu
      exact ⟨b, rfl⟩
    have pm2 : ys.Perm bs := refs_perm (by rw [← ea]; exact pm)
    obtain ⟨e', he'⟩ := PyProof.Rows.sortedHeap_at (vs := acc'.toList) (out := (ys.map Value.ref).toArray) hoL
    have hlen : (ys.map V.ref).length ≤ sizeLine := by rw [List.length_map, pm2.length_eq, hbl]; exact z
    refine wpAny_pure ⟨_, rfl, .ref h'.objs.size, upd H h'.objs.size (.lst (ys.map V.ref)), I1.laid (t' := tk) (fun b u e => ?_) (Nat.le_refl _)
      (show ObjOk X.prog X.w _ _ _ (.lst (ys.map V.ref)) from ⟨hlen, ys.map Value.ref, e', vals_refs _, he'⟩), rfl, q bs ys _ hk pm2 ?_ (I1.hok.fresh (Nat.le_refl _))⟩
    · have hb : b < h'.objs.size := Heap.lt_size e
      rw [PyProof.Rows.sortedHeap_old (Nat.ne_of_lt hb) (by rw [size_push']; exact Nat.lt_succ_of_lt hb)]
      exact Heap.get?_push_of_some _ e
    · refine (List.pairwise_map.mp g1).imp_of_mem fun {x y} mx my hxy => ?_
      intro i j i' j' sx sy
      have k1 := (pairAt_of (pr1 sx)).2
      have k2 := (pairAt_of (pr1 sy)).2
      dsimp only at hxy
      rw [k1, k2] at hxy
      have zz := SrtO.lexB_no.mp hxy
      dsimp only at zz
      omega
end
/-- the order of pairs of ints -/
def lexK (x y : List Key) : Prop := ∀ i j i' j' : Int, x = [.inl i, .inl j] → y = [.inl i', .inl j'] → i < i' ∨ (i = i' ∧ j ≤ j')
def sortedKD : FC := fun ds st R => match ds with
  | [.ref a] => ∃ kvs, (st a = some (.dt kvs) ∨ st a = some (.lt kvs)) ∧ (∀ p ∈ kvs, ∃ i j : Int, p.1 = [.inl i, .inl j]) ∧
      ∀ (es : List (List Key)) (p : Addr), es.Perm (kvs.map fun p => p.1) → es.Pairwise lexK → st p = none → R (.ref p) (put st p (.lst (es.map D.key)))
  | _ => False
theorem perm_paired {α β : Type} {P : α → β → Prop} {ys bs : List β} (h : ys.Perm bs) : ∀ {l : List α}, Paired P l bs → ∃ es, es.Perm l ∧ Paired P es ys := by
  induction h with
  | nil => intro l p; cases p; exact ⟨[], .nil, .nil⟩
  | cons b _ ih =>
    intro l p
    cases p with
    | cons h t =>
      obtain ⟨es, q1, q2⟩ := ih t
      exact ⟨_ :: es, q1.cons _, .cons h q2⟩
  | swap b c l' =>
    intro l p
    cases p with
    | cons h t =>
      cases t with
      | cons h' t => exact ⟨_ :: _ :: _, .swap .., .cons h' (.cons h t)⟩
  | trans _ _ ih1 ih2 =>
    intro l p
    obtain ⟨es, q1, q2⟩ := ih2 p
    obtain ⟨fs, q3, q4⟩ := ih1 q2
    exact ⟨fs, q3.trans q1, q4⟩
theorem keys_reps {K : PySem.W.Frag} {H : Hp} {es : List (List Key)} {ys : List Addr} (h : Paired (fun k b => H b = some (.tup (k.map kV))) es ys) : Reps K H (es.map D.key) (ys.map V.ref) := by
  induction h with
  | nil => exact Reps.nil
  | cons h t ih => exact .cons (Rep_key.mpr ⟨_, rfl, h⟩) ih
theorem keys_pw {H : Hp} {es : List (List Key)} {ys : List Addr} (h : Paired (fun k b => H b = some (.tup (k.map kV))) es ys)
    (w : ys.Pairwise fun x y => ∀ i j i' j' : Int, H x = some (.tup [.int i, .int j]) → H y = some (.tup [.int i', .int j']) → i < i' ∨ (i = i' ∧ j ≤ j')) : es.Pairwise lexK := by
  induction h with
  | nil => exact .nil
  | @cons k b es ys h t ih =>
    obtain ⟨w1, w2⟩ := List.pairwise_cons.mp w
    refine List.pairwise_cons.mpr ⟨fun e he => ?_, ih w2⟩
    have : ∀ e ∈ es, ∃ y ∈ ys, H y = some (.tup (e.map kV)) := by
      clear ih w w1 w2 he e
      induction t with
      | nil => intro e he; cases he
      | cons h t ih =>
        intro e he
        rcases List.mem_cons.mp he with rfl | he
        · exact ⟨_, List.mem_cons_self, h⟩
        · obtain ⟨y, m, p⟩ := ih e he
          exact ⟨y, List.mem_cons_of_mem _ m, p⟩
    obtain ⟨y, my, hy⟩ := this e he
    intro i j i' j' ek ee
    subst ek ee
    exact w1 y my i j i' j' h hy
theorem sim_sortedK {K : PySem.W.Frag} : SimC K rSortDT sortedKD := by
  intro H st vs ds R Q hs rs hf hq
  match ds, hf with
  | [.ref a], ⟨kvs, e, hi, hf⟩ =>
    obtain ⟨v, t, rfl, r, r2⟩ := Reps_cons.mp rs
    rw [Reps_nil.mp r2, Rep_ref.mp r]
    obtain ⟨us, rd, rk⟩ := dt_rdD hs e
    have hkk := rk.keys
    refine ⟨a, us, rfl, rd, fun p hp => ?_, fun bs ys p hk pm pw hl => ?_⟩
    · have m : p.1 ∈ us.map (·.1) := List.mem_map.mpr ⟨p, hp, rfl⟩
      rw [← hkk] at m
      obtain ⟨p', m', e'⟩ := List.mem_map.mp m
      rw [← e']
      exact hi p' m'
    · have hk2 : Paired (fun k b => H b = some (.tup (k.map kV))) (kvs.map fun p => p.1) bs := by
        rw [hkk]
        clear hkk rk rd pm pw hl hq hf
        unfold IsKeys at hk
        induction hk with
        | nil => exact .nil
        | cons h t ih => exact .cons h ih
      obtain ⟨es, p1, p2⟩ := perm_paired pm hk2
      have k2 : Keep K H st (upd H p (.lst (ys.map V.ref))) (put st p (.lst (es.map D.key))) := Keep.told hl _ _
      exact hq _ _ _ _ k2 (hs.told hl ⟨ys.map V.ref, upd_same, (keys_reps p2).keep k2⟩) (Rep_ref.mpr rfl) (hf es p p1 (keys_pw p2 pw) (hs.free hl))
section
variable {X : Cx} {W : WX} {e : Expr} {wa : WA} {p pos : Pos} {n : Nat}
theorem j_sortedK (hm : X.mg "sorted" = none) (ha : JA X W n [e] wa) (hc : X.calm = true := by rfl) (hg : Gl X "sorted" := by rfl) (he : starEach [e] X.env = (false, eval e X.env) :: starEach [] X.env := by rfl) : JE X W (.Call (.Name "sorted" p) [e] [] pos) (wCB sortedKD wa) :=
  j_callB (cr_sortDT hc) sim_sortedK hm (by decide +kernel) ha hg (by decide) (by decide) he rfl
end
/-! ### {k: v} with a tuple as the key -/
def tDisp1 (tk tv : TE) : TE := fun σ H Q => ∀ p, H p = none → tPairs [(tk, tv)] σ (upd H p (.dT [])) fun ps H2 => H2 p = some (.dT []) ∧ ∃ (k : List Key) (b : Addr) (v : V), ps = [(.ref b, v)] ∧ H2 b = some (.tup (k.map kV)) ∧ Q (.ref p) (upd H2 p (.dT [(k, v)]))
theorem pe_disp1 {X : Cx} {pos : Pos} {k v : Expr} {tk tv : TE} (hu : X.A.units + 1 < cLine) (hk : PE X k tk) (hv : PE X v tv) : PE X (.Dict [some k] [v] pos) (tDisp1 tk tv) := by
  have h : PPs X pos [some k] [v] [(tk, tv)] := pps_cons hk hv pps_nil
  refine ⟨fun pins s σ H Q I q => ?_⟩
  have hn := I.hok.fresh (Nat.le_refl s.heap.objs.size)
  have I1 := I.laid (a := s.heap.objs.size) (o := .dT []) (h' := s.heap.push { cls := .type "dict", data := .dict #[] }) (t' := s.toks) (fun _ _ q => Heap.get?_push_of_some _ q) (Nat.le_refl _) (dt_empty s.heap I.big)
  refine wpAny_Dict_any rfl rfl (by simp) (by simp) (thn (h.run pins _ σ _ _ I1 (q _ hn)) fun ws s2 ⟨ps, H2, I2, rel, e, ks, b, y, ep, hb, q2⟩ => ?_)
  subst ep
  cases rel with
  | @cons a c as cs h1 t =>
    cases t
    obtain ⟨u, r⟩ := c
    obtain ⟨ru, rr⟩ := h1
    obtain rfl : u = Value.ref b := ru
    obtain ⟨z, hd, xs, r0, dd⟩ := dt_of I2.hok e
    cases r0
    unfold storeAll
    rw [List.forIn_cons]
    refine wpAny_bind (wpAny_bind (wpAny_dictSet_heap (knd := tupleKind (mixKind X.prog X.w)) (hsz := by decide) (show X.A.units < cLine by omega) (key_of I2.hok hb) dd fun h' dd' hs => wpAny_pure (wpAny_pure ?_)))
    obtain ⟨q, es, ep, hq, h2, h3, h4, _, h5⟩ := dd'
    refine ⟨.ref s.heap.objs.size, _, d_write I2 (by rw [e]; exact True.intro) hs ⟨q, hq⟩ (show ObjOk X.prog X.w (upd H2 s.heap.objs.size (.dT [(ks, y)])) h' s.heap.objs.size (.dT [(ks, y)]) from ⟨show 1 ≤ sizeLine by decide, hd, _, (KT.put (kvs := []) (xs := []) .nil ks hb rr).keeps fun c ys ec => ?_, q, es, ep, hq, h2, h3, h4, h5⟩), rfl, q2⟩
    rw [upd_ne (ne_of ec e (fun z => nomatch z))]
    exact ec
/-- {k: v}, one pair, a tuple as the key -/
def wDisp1 (wk wv : WE) : WE := fun ep st R Rx => ∀ p, st p = none → wk ep (put st p (.dt [])) (fun k st1 => wv ep st1 (fun v st2 => st2 p = some (.dt []) ∧ ∃ ks, k = .key ks ∧ R (.ref p) (put st2 p (.dt [(ks, v)]))) Rx) Rx
theorem j_disp1 {X : Cx} {W : WX} {a b : Expr} {wa wb : WE} {pos : Pos} {k : Nat} (hr : Room k X.A) (ha : JE X W a wa) (hb : JE X W b wb) : JE X W (.Dict [some a] [b] pos) (wDisp1 wa wb) := by
  refine (pe_disp1 (by have := hr.units; omega) ha hb).weak ?_
  rintro sg H Q ⟨ep, st, R, Rx, he, hs, hw, hq, hx⟩ p hp
  have k0 : Keep X.K H st (upd H p (.dT [])) (put st p (.dt [])) := Keep.told hp _ _
  have s0 : RepS X.K (upd H p (.dT [])) (put st p (.dt [])) := hs.told hp ⟨[], upd_same, rfl⟩
  refine ⟨ep, _, _, Rx, he.keep k0, s0, hw p (hs.free hp), fun x H1 d1 st1 k1 s1 r1 h1 => ?_, hx.keep k0⟩
  refine ⟨ep, st1, _, Rx, he.keep (k0.trans k1), s1, h1, fun y H2 d2 st2 k2 s2 r2 h2 => ?_, hx.keep (k0.trans k1)⟩
  obtain ⟨e, ks, rfl, h2⟩ := h2
  obtain ⟨c, rfl, ec⟩ := Rep_key.mp r1
  obtain ⟨vs, e1, r⟩ := s2 p _ e
  obtain rfl : vs = [] := r
  have ec2 := k2.tps _ _ ec
  have kw := s2.keepW e (HO.dT [(ks, y)]) (OB.dt [(ks, d2)])
  exact ⟨e1, ks, c, y, rfl, ec2, hq _ _ _ _ (((k0.trans k1).trans k2).trans kw) (s2.write e ⟨_, upd_same, ⟨y, [], rfl, r2.keep kw, rfl⟩⟩) (Rep_ref.mpr rfl) h2⟩
/-! ### a tuple that is a key -/
def keyK (R : RD) : List D → DS → Prop := fun ds st' => ∃ ks : List L2.Key, ds = ks.map kD ∧ R (.key ks) st'
def wKey (wa : WA) : WE := fun ep st R Rx => wa ep st (keyK R) Rx
theorem je_key {X : Cx} {W : WX} {es : List Expr} {ws : WA} {n : Nat} {pos : Pos} {x1} (h : JA X W n es ws) (hn : n ≤ sizeLine := by decide) : JE X W (.Tuple es x1 pos) (wKey ws) := by
  refine (pe_tup h).weak ?_
  rintro sg H Q ⟨ep, st, R, Rx, he, hs, hw, hq, hx⟩
  refine ⟨ep, st, _, Rx, he, hs, hw, fun vs H1 ds st1 hl k s r h => ⟨by rw [← r.length, hl]; exact hn, fun p hp => ?_⟩, hx⟩
  have k2 : Keep X.K H1 st1 (upd H1 p (.tup vs)) st1 := Keep.untold hp _
  obtain ⟨ks, rfl, h⟩ := h
  rw [reps_kD.mp r] at k2 ⊢
  exact hq _ _ _ _ (k.trans k2) (s.untold hp _) (Rep_key.mpr ⟨p, rfl, upd_same⟩) h
def wDNewT : WE := fun _ st R _ => ∀ p, st p = none → R (.ref p) (put st p (.dt []))
def wDNewK : WE := fun _ st R _ => ∀ p, st p = none → R (.ref p) (put st p (.dk []))
section
variable {X : Cx} {W : WX} {pos : Pos}
theorem j_dnewT : JE X W (.Dict [] [] pos) wDNewT := j_dnew.weak fun sg H Q h => let ⟨ep, st, R, Rx, he, hs, hw, hq, hx⟩ := h; ⟨ep, st, R, Rx, he, hs, .inr hw, hq, hx⟩
theorem j_dnewK : JE X W (.Dict [] [] pos) wDNewK := j_dnew.weak fun sg H Q h => let ⟨ep, st, R, Rx, he, hs, hw, hq, hx⟩ := h; ⟨ep, st, R, Rx, he, hs, .inl hw, hq, hx⟩
end
/-! ### steps -/
def gotK (R : RD) (st : DS) : Option D → Prop := fun o => ∃ d, o = some d ∧ R d st
section
variable {E : Ed} {ep : DE} {st : DS} {R : RD} {Rx : RX} {d x y v : D} {A B : Unit → Prop} {wa wb wc wv : WE} {as : WA} {RT : Bool → DS → Prop} {i j k : Int} {kvs : List (List Key × D)} {kk : List (Key × D)} {ks : List Key} {a : Addr} {q : DE → Prop} {qo : Option D → Prop} {qs : DS → Prop}
theorem s_key (h : as ep st (keyK R) Rx) : wKey as ep st R Rx := h
theorem s_kII (h : R (.key [.inl i, .inl j]) st) : keyK R [.int i, .int j] st := ⟨[.inl i, .inl j], rfl, h⟩
theorem s_kIII (h : R (.key [.inl i, .inl j, .inl k]) st) : keyK R [.int i, .int j, .int k] st := ⟨[.inl i, .inl j, .inl k], rfl, h⟩
theorem s_dget (h : wa ep st (fun x st1 => wb ep st1 (fun y st2 => dAt x y st2 (gotK R st2)) Rx) Rx) : wDGet wa wb ep st R Rx := h
theorem s_got {o : Option D} (e : o = some d) (h : R d st) : gotK R st o := ⟨d, e, h⟩
theorem s_atT (e : st a = some (.dt kvs)) (h : qo (valD kvs ks)) : dAt (.ref a) (.key ks) st qo := ⟨kvs, .inl e, h⟩
theorem s_atTl (e : st a = some (.lt kvs)) (h : qo (valD kvs ks)) : dAt (.ref a) (.key ks) st qo := ⟨kvs, .inr e, h⟩
theorem s_atI (e : st a = some (.dk kk)) (h : qo (valD kk (.inl i))) : dAt (.ref a) (.int i) st qo := ⟨kk, .inl e, h⟩
theorem s_atIl (e : st a = some (.lk kk)) (h : qo (valD kk (.inl i))) : dAt (.ref a) (.int i) st qo := ⟨kk, .inr e, h⟩
theorem s_din {neg : Bool} (h : wb ep st (fun y st1 => wa ep st1 (fun x st2 => dAt x y st2 fun o => R (.bl (if neg = true then !o.isSome else o.isSome)) st2) Rx) Rx) : wDIn neg wb wa ep st R Rx := h
theorem s_dinT {neg : Bool} (h : wb ep st (fun y st1 => wa ep st1 (fun x st2 => dAt x y st2 fun o => RT (if neg = true then !o.isSome else o.isSome) st2) Rx) Rx) : wDInT neg wb wa ep st RT Rx := h
theorem s_dgetor (h : wa ep st (fun x st1 => isDct x st1 ∧ wb ep st1 (fun y st2 => wc ep st2 (fun z st3 => dAt x y st3 fun o => R (o.getD z) st3) Rx) Rx) Rx) : wDGetOr wa wb wc ep st R Rx := h
theorem s_isDT (e : st a = some (.dt kvs)) : isDct (.ref a) st := ⟨_, e, trivial⟩
theorem s_isDK (e : st a = some (.dk kk)) : isDct (.ref a) st := ⟨_, e, trivial⟩
theorem s_dput {nx rt bk ct ex} (h : wv ep st (fun v st1 => wa ep st1 (fun x st2 => wb ep st2 (fun y st3 => dPut x y v st3 fun st4 => nx ep st4) (fun x st' => ex x ep st')) (fun x st' => ex x ep st')) (fun x st' => ex x ep st')) : wDPut wa wb wv { nx := nx, rt := rt, bk := bk, ct := ct, ex := ex } ep st := h
theorem s_putT (e : st a = some (.dt kvs)) (hl : kvs.length < sizeLine) (h : qs (put st a (.dt (putD kvs ks v)))) : dPut (.ref a) (.key ks) v st qs := ⟨kvs, e, hl, h⟩
theorem s_putI (e : st a = some (.dk kk)) (hl : kk.length < sizeLine) (h : qs (put st a (.dk (putD kk (.inl i) v)))) : dPut (.ref a) (.int i) v st qs := ⟨kk, e, hl, h⟩
theorem s_dnewT (h : ∀ p, st p = none → R (.ref p) (put st p (.dt []))) : wDNewT ep st R Rx := h
theorem s_dnewK (h : ∀ p, st p = none → R (.ref p) (put st p (.dk []))) : wDNewK ep st R Rx := h
theorem s_disp1 (h : ∀ p, st p = none → wa ep (put st p (.dt [])) (fun k st1 => wb ep st1 (fun v st2 => st2 p = some (.dt []) ∧ ∃ ks, k = .key ks ∧ R (.ref p) (put st2 p (.dt [(ks, v)]))) Rx) Rx) : wDisp1 wa wb ep st R Rx := h
theorem s_lockT {w : WS} {nx rt bk ct ex} (e : st a = some (.dt kvs)) (h : w { nx := fun ep' st' => st' a = some (.lt kvs) ∧ nx ep' (put st' a (.dt kvs)), rt := fun d st' => st' a = some (.lt kvs) ∧ rt d (put st' a (.dt kvs)), bk := fun ep' st' => st' a = some (.lt kvs) ∧ bk ep' (put st' a (.dt kvs)), ct := fun ep' st' => st' a = some (.lt kvs) ∧ ct ep' (put st' a (.dt kvs)), ex := fun _ _ _ => False } ep (put st a (.lt kvs))) : wLock w { nx := nx, rt := rt, bk := bk, ct := ct, ex := ex } ep st := ⟨a, .inr ⟨kvs, e, h⟩⟩
theorem s_lockK {w : WS} {nx rt bk ct ex} (e : st a = some (.dk kk)) (h : w { nx := fun ep' st' => st' a = some (.lk kk) ∧ nx ep' (put st' a (.dk kk)), rt := fun d st' => st' a = some (.lk kk) ∧ rt d (put st' a (.dk kk)), bk := fun ep' st' => st' a = some (.lk kk) ∧ bk ep' (put st' a (.dk kk)), ct := fun ep' st' => st' a = some (.lk kk) ∧ ct ep' (put st' a (.dk kk)), ex := fun _ _ _ => False } ep (put st a (.lk kk))) : wLock w { nx := nx, rt := rt, bk := bk, ct := ct, ex := ex } ep st := ⟨a, .inl ⟨kk, e, h⟩⟩
theorem s_keys {RR : List D → (DS → Prop) → DS → Prop} (h : wa ep st (fun d st' => keysD d st' RR) Rx) : wKeys wa ep st RR Rx := h
theorem s_keysT {RR : List D → (DS → Prop) → DS → Prop} (e : st a = some (.lt kvs)) (h : RR (kvs.map fun p => D.key p.1) (fun s => s a = some (.lt kvs)) st) : keysD (.ref a) st RR := .inr ⟨kvs, e, h⟩
theorem s_keysK {RR : List D → (DS → Prop) → DS → Prop} (e : st a = some (.lk kk)) (h : RR (kk.map fun p => kD p.1) (fun s => s a = some (.lk kk)) st) : keysD (.ref a) st RR := .inl ⟨kk, e, h⟩
theorem s_srtK (e : st a = some (.dt kvs)) (hi : ∀ p ∈ kvs, ∃ i j : Int, p.1 = [.inl i, .inl j]) (h : ∀ (es : List (List Key)) (p : Addr), es.Perm (kvs.map fun p => p.1) → es.Pairwise lexK → st p = none → R (.ref p) (put st p (.lst (es.map D.key)))) : sortedKD [.ref a] st R := ⟨kvs, .inl e, hi, h⟩
theorem s_ixK0 (h : R (.int i) st) : ixD (.key [.inl i, .inl j]) (.int 0) st R := h
theorem s_ixK1 (h : R (.int j) st) : ixD (.key [.inl i, .inl j]) (.int 1) st R := h
theorem s_bTK {is : List Nat} (h : bTn is [.int i, .int j] ep q) : bT is (.key [.inl i, .inl j]) ep q := h
theorem s_gTK {u : DGs} {q : DE → DS → Prop} (h : u [.int i, .int j] ep st q) : gT 2 u (.key [.inl i, .inl j]) ep st q := ⟨rfl, h⟩
end
end DL

/-! tuple * int. -/
namespace DL
open PySem PySem.Spec PyProof.Rows L2
theorem tuple_mul1 (l : Addr) (items : Array Value) (n : Nat) (dd : Option Addr) (sl : Array (Option Value)) (u : Tok) :
    Meets (Builtin.«tuple.__mul__» ⟨[.ref l, .int 1 u], []⟩) (fun _ R s => s.heap.get? l = some { cls := .type "tuple", dict := dd, data := .seq items n, slots := sl } ∧
      R (.ok (.ret (Value.ref l))) s) :=
  .of_wp fun prog w A R s h => by
    obtain ⟨hp, g, d, tk, os⟩ := s
    obtain ⟨hl, h⟩ := h
    have f1 := AutoSeq1.idx_int
    wp_walk using wpAny_loadPart' hl
    exact ⟨_, rfl, h⟩
def rRep1 (K : PySem.W.Frag) : R2 := fun x y H Q => ∃ l xs, x = .ref l ∧ y = .int 1 ∧ SqT K H l xs ∧ Q (.ref l) H
theorem op_rep1 {X : Cx} : OpR X (binaryOp .Mult) (rRep1 X.K) := by
  intro pins s σ H x y v u Q I rx ry h
  obtain ⟨l, xs, rfl, rfl, hT, q⟩ := h
  cases rx
  obtain ⟨t, rfl⟩ := ry
  obtain ⟨its, r, ⟨⟨cls, dd, data, sl⟩, ho, hc, n, hd⟩, hs⟩ := I.tuple hT
  simp only at hc hd
  subst hc hd
  refine wpAny_binaryOp_repeat_ref (T := "tuple") (U := "int") (by decide) ⟨_, ho, rfl⟩ (fun s' => typeIs_int s' 1 t) noFill_tuple_mul F.fills_int_mul F.slot_int_rmul repeat_tuple F.slot_int_index.lookup
    (call_meets F.slot_int_rmul (typeIs_int s 1 t) F.entry_int_rmul (F.args_int_rmul_2 _ _) (int_rmul_tuple 1 t l its.toArray n dd sl)
      ⟨ho, rfl, ⟨_, ho, rfl⟩, call_meets F.slot_tuple_mul ⟨_, ho, rfl⟩ F.entry_tuple_mul (F.args_tuple_mul_2 _ _) (tuple_mul1 l its.toArray n dd sl t) ⟨ho, ?_⟩⟩)
  exact ⟨.ref l, H, I, rfl, q⟩
/-- a tuple, k times -/
def mulTD : F2 := fun x y st R => match x, y with
  | .tup ds, .int k => ds ≠ [] ∧ 1 ≤ k ∧ k ≤ 1000 ∧ ds.length ≤ 1000 ∧ R (.tup (List.replicate k.toNat ds).flatten) st
  | _, _ => False
theorem reps_app {K : PySem.W.Frag} {H : Hp} : ∀ {as : List D} {va : List V} {bs : List D} {vb : List V}, Reps K H as va → Reps K H bs vb → Reps K H (as ++ bs) (va ++ vb)
  | [], va, bs, vb, h, g => by rw [Reps_nil.mp h]; exact g
  | a :: as, va, bs, vb, h, g => by
    obtain ⟨v, t, rfl, r1, r2⟩ := Reps_cons.mp h
    exact .cons r1 (reps_app r2 g)
theorem reps_flat {K : PySem.W.Frag} {H : Hp} {ds : List D} {vs : List V} (h : Reps K H ds vs) : ∀ n : Nat, Reps K H (List.replicate n ds).flatten (List.replicate n vs).flatten
  | 0 => Reps.nil
  | n + 1 => by
    rw [List.replicate_succ, List.replicate_succ, List.flatten_cons, List.flatten_cons]
    exact reps_app h (reps_flat h n)
theorem sim_mulT {K : PySem.W.Frag} : Sim2 K (fun x y H Q => rRepT K x y H Q ∨ rRep1 K x y H Q) mulTD := by
  intro H st x y dx dy R Q hs rx ry hf hq
  match dx, dy, hf with
  | .tup ds, .int k, ⟨h1, h2, h3, h4, hf⟩ =>
    obtain ⟨a, va, rfl, ta, ra⟩ := Rep_tup.mp rx
    have la := ra.length
    by_cases hk : k = 1
    · subst hk
      refine .inr ⟨a, va, rfl, Rep_int.mp ry, ta, ?_⟩
      have e : (List.replicate (1 : Int).toNat ds).flatten = ds := by
        show (List.replicate 1 ds).flatten = ds
        simp
      rw [e] at hf
      exact hq _ _ _ _ .refl hs (Rep_tup.mpr ⟨a, va, rfl, ta, ra⟩) hf
    · refine .inl ⟨a, k, va, rfl, Rep_int.mp ry, ta, fun e => h1 (by
        subst e
        cases ds with
        | nil => rfl
        | cons d ds => simp at la), by omega, h3, by omega, fun p hp => ?_⟩
      have k2 : Keep K H st (upd H p (.tup (List.replicate k.toNat va).flatten)) st := Keep.untold hp _
      exact hq _ _ _ _ k2 (hs.untold hp _) (Rep_tup.mpr ⟨p, _, rfl, .inl (.inl upd_same), (reps_flat ra k.toNat).keep k2⟩) hf
theorem j_mulT {X : Cx} {W : WX} {a b : Expr} {wa wb : WE} {pos : Pos} (ha : JE X W a wa) (hb : JE X W b wb) : JE X W (.BinOp a .Mult b pos) (wBin mulTD wa wb) := j_op (OpR.or op_repT op_rep1) sim_mulT ha hb
theorem s_mulT {ds : List D} {k : Int} {st : DS} {R : RD} (h0 : ds ≠ []) (h1 : 1 ≤ k) (h2 : k ≤ 1000) (h3 : ds.length ≤ 1000) (h : R (.tup (List.replicate k.toNat ds).flatten) st) : mulTD (.tup ds) (.int k) st R := ⟨h0, h1, h2, h3, h⟩
end DL

namespace DL
namespace C
open PySem L2
/-- _law_gcd(a, b): slots 0=a 1=b -/
def wb_law_gcd : WS :=
    (wSeq (wPar 0 1 (wCB absD (wACons (wVar 0) wANil)) (wCB absD (wACons (wVar 1) wANil)))
    (wSeq (wWhile (wBinT neD (wVar 1) (wC (.int 0))) (wPar 0 1 (wVar 1) (wBin modD (wCB intD (wACons (wVar 0) wANil)) (wVar 1))))
    (wRet (wVar 0))))
/-- _law_frac(n, d): slots 0=n 1=d 2=common -/
def wb_law_frac (sp_law_gcd : SpD) : WS :=
    (wSeq (wIf (wBinT ltD (wVar 1) (wC (.int 0))) (wPar 0 1 (wNeg (wVar 0)) (wNeg (wVar 1))) wNext)
    (wSeq (wSet 2 (wCall sp_law_gcd (wACons (wVar 0) (wACons (wVar 1) wANil))))
    (wRet (wTup (wACons (wBin divD (wVar 0) (wVar 2)) (wACons (wBin divD (wVar 1) (wVar 2)) wANil))))))
/-- _law_minus(a, b): slots 0=a 1=b -/
def wb_law_minus (sp_law_frac : SpD) : WS :=
    (wRet (wCall sp_law_frac (wACons (wBin subD (wBin mulD (wBin ixD (wVar 0) (wC (.int 0))) (wBin ixD (wVar 1) (wC (.int 1)))) (wBin mulD (wBin ixD (wVar 1) (wC (.int 0))) (wBin ixD (wVar 0) (wC (.int 1))))) (wACons (wBin mulD (wBin ixD (wVar 0) (wC (.int 1))) (wBin ixD (wVar 1) (wC (.int 1)))) wANil))))
/-- _law_plus(a, b): slots 0=a 1=b -/
def wb_law_plus (sp_law_frac : SpD) : WS :=
    (wRet (wCall sp_law_frac (wACons (wBin addD (wBin mulD (wBin ixD (wVar 0) (wC (.int 0))) (wBin ixD (wVar 1) (wC (.int 1)))) (wBin mulD (wBin ixD (wVar 1) (wC (.int 0))) (wBin ixD (wVar 0) (wC (.int 1))))) (wACons (wBin mulD (wBin ixD (wVar 0) (wC (.int 1))) (wBin ixD (wVar 1) (wC (.int 1)))) wANil))))
/-- _law_draw(d, many): slots 0=d 1=many 2=found 3=size 4=cell -/
def wb_law_draw : WS :=
    (wSeq (wIf (wBinT gtD (wBin ixD (wVar 0) (wC (.int 2))) (wC (.int 0))) (wSeq (wSet 2 (wBin ixD (wVar 0) (wC (.int 2))))
    (wSeq (wAsg (wBin divD (wVar 2) (wVar 1)) (gIx setD (wVar 0) (wC (.int 2))))
    (wRet (wBin modD (wCB intD (wACons (wVar 2) wANil)) (wVar 1))))) wNext)
    (wSeq (wSet 3 (wC (.int 0)))
    (wSeq (wIf (wBinT ltD (wBin ixD (wVar 0) (wC (.int 1))) (wCB lenD (wACons (wBin ixD (wVar 0) (wC (.int 0))) wANil))) (wSeq (wSet 4 (wBin ixD (wBin ixD (wVar 0) (wC (.int 0))) (wBin ixD (wVar 0) (wC (.int 1)))))
    (wSet 3 (wBin addD (wBin mulD (wC (.int 2)) (wCB absD (wACons (wVar 4) wANil))) (wCB intD (wACons (wBin ltD (wVar 4) (wC (.int 0))) wANil))))) wNext)
    (wSeq (wAugIx iaddD (wVar 0) (wC (.int 1)) (wC (.int 1)))
    (wSeq (wIf (wBinT geD (wVar 3) (wBin mulD (wC (.int 2)) (wBin powD (wC (.int 10)) (wC (.int 18))))) (wSeq (wSet 2 (wBin modD (wCB intD (wACons (wBin divD (wVar 3) (wC (.int 2))) wANil)) (wBin shlD (wC (.int 1)) (wC (.int 6000)))))
    (wSeq (wAsg (wBin divD (wVar 2) (wVar 1)) (gIx setD (wVar 0) (wC (.int 2))))
    (wRet (wBin modD (wCB intD (wACons (wVar 2) wANil)) (wVar 1))))) wNext)
    (wSeq (wAsg (wBin modD (wCB intD (wACons (wBin addD (wBin addD (wBin addD (wBin mulD (wBin ixD (wVar 0) (wC (.int 3))) (wC (.int 48271))) (wBin mulD (wBin modD (wCB intD (wACons (wVar 3) wANil)) (wC (.int 2147483629))) (wC (.int 16807)))) (wBin mulD (wBin ixD (wVar 0) (wC (.int 1))) (wC (.int 69621)))) (wC (.int 11))) wANil)) (wC (.int 2147483647))) (gIx setD (wVar 0) (wC (.int 3))))
    (wRet (wBin modD (wCB intD (wACons (wBin divD (wBin ixD (wVar 0) (wC (.int 3))) (wC (.int 16))) wANil)) (wVar 1)))))))))
/-- _law_above_zero(d, bottom): slots 0=d 1=bottom 2=under -/
def wb_law_above_zero (sp_law_draw : SpD) (sp_law_frac : SpD) : WS :=
    (wSeq (wSet 2 (wBin addD (wC (.int 1)) (wCall sp_law_draw (wACons (wVar 0) (wACons (wVar 1) wANil)))))
    (wRet (wCall sp_law_frac (wACons (wBin addD (wC (.int 1)) (wCall sp_law_draw (wACons (wVar 0) (wACons (wVar 2) wANil)))) (wACons (wVar 2) wANil)))))
/-- _law_is_int(thing): slots 0=thing -/
def wb_law_is_int : WS :=
    (wRet (wAndV (wIsi .int (wVar 0)) (wNotV (wIsi .bool (wVar 0)))))
/-- _law_all_rows(letters, many): slots 0=letters 1=many 2=found 3=k 4=longer 5=row 6=letter -/
def wb_law_all_rows : WS :=
    (wSeq (wSet 2 (wLst (wACons (wTup wANil) wANil)))
    (wSeq (wFor (wRng (wACons (wVar 1) wANil)) (gN 3) (wSeq (wSet 4 (wLst wANil))
    (wSeq (wFor (wIt (wVar 2)) (gN 5) (wDrop (wM extendD (wVar 4) (wACons (wLc (wRng (wACons (wVar 0) wANil)) (bN 6) [6] wYes (wBin addD (wVar 5) (wTup (wACons (wVar 6) wANil)))) wANil))))
    (wSet 2 (wVar 4)))))
    (wRet (wVar 2))))
/-- _law_pick(d, row): slots 0=d 1=row -/
def wb_law_pick (sp_law_draw : SpD) : WS :=
    (wRet (wBin ixD (wVar 1) (wCall sp_law_draw (wACons (wVar 0) (wACons (wCB lenD (wACons (wVar 1) wANil)) wANil)))))
/-- _law_rare(d, many): slots 0=d 1=many -/
def wb_law_rare (sp_law_draw : SpD) : WS :=
    (wRet (wBin eqD (wCall sp_law_draw (wACons (wVar 0) (wACons (wVar 1) wANil))) (wBin divD (wVar 1) (wC (.int 2)))))
/-- _law_shuffled(d, row): slots 0=d 1=row 2=left 3=found 4=k -/
def wb_law_shuffled (sp_law_draw : SpD) : WS :=
    (wSeq (wSet 2 (wCB listD (wACons (wVar 1) wANil)))
    (wSeq (wSet 3 (wLst wANil))
    (wSeq (wFor (wRng (wACons (wCB lenD (wACons (wVar 2) wANil)) wANil)) (gN 4) (wDrop (wM appendD (wVar 3) (wACons (wM popD (wVar 2) (wACons (wCall sp_law_draw (wACons (wVar 0) (wACons (wCB lenD (wACons (wVar 2) wANil)) wANil))) wANil)) wANil))))
    (wRet (wVar 3)))))
/-- _law_times(a, b): slots 0=a 1=b -/
def wb_law_times (sp_law_frac : SpD) : WS :=
    (wRet (wCall sp_law_frac (wACons (wBin mulD (wBin ixD (wVar 0) (wC (.int 0))) (wBin ixD (wVar 1) (wC (.int 0)))) (wACons (wBin mulD (wBin ixD (wVar 0) (wC (.int 1))) (wBin ixD (wVar 1) (wC (.int 1)))) wANil))))
/-- _law_weight(d): slots 0=d -/
def wb_law_weight (sp_law_rare : SpD) (sp_law_draw : SpD) : WS :=
    (wSeq (wIf (wB (wCall sp_law_rare (wACons (wVar 0) (wACons (wC (.int 23)) wANil)))) (wRet (wBin addD (wC (.int 1)) (wCall sp_law_draw (wACons (wVar 0) (wACons (wC (.int 1000)) wANil))))) wNext)
    (wRet (wBin addD (wC (.int 1)) (wCall sp_law_draw (wACons (wVar 0) (wACons (wC (.int 4)) wANil))))))
/-- _law_corner(d, letters, nodes, most): slots 0=d 1=letters 2=nodes 3=most 4=pairs 5=letter 6=ends 7=end 8=after -/
def wb_law_corner (sp_law_shuffled : SpD) (sp_law_draw : SpD) (sp_law_weight : SpD) : WS :=
    (wSeq (wSet 4 (wLst wANil))
    (wSeq (wFor (wRng (wACons (wVar 1) wANil)) (gN 5) (wDrop (wM extendD (wVar 4) (wACons (wLc (wRng (wACons (wVar 2) wANil)) (bN 8) [8] wYes (wTup (wACons (wVar 5) (wACons (wVar 8) wANil)))) wANil))))
    (wSeq (wSet 6 (wSl (wCall sp_law_shuffled (wACons (wVar 0) (wACons (wVar 4) wANil))) wONone (wOSome (wCB min2D (wACons (wCB lenD (wACons (wVar 4) wANil)) (wACons (wBin addD (wC (.int 1)) (wCall sp_law_draw (wACons (wVar 0) (wACons (wVar 3) wANil)))) wANil))))))
    (wRet (wCB tupleD (wACons (wLc (wIt (wCB sortedD (wACons (wVar 6) wANil))) (bN 7) [7] wYes (wTup (wACons (wCall sp_law_weight (wACons (wVar 0) wANil)) (wACons (wBin ixD (wVar 7) (wC (.int 0))) (wACons (wBin ixD (wVar 7) (wC (.int 1))) wANil))))) wANil))))))
/-- _law_web(d, letters, nodes, corners, most): slots 0=d 1=letters 2=nodes 3=corners 4=most 5=found 6=node 7=k -/
def wb_law_web (sp_law_draw : SpD) (sp_law_corner : SpD) : WS :=
    (wSeq (wSet 5 (wLst wANil))
    (wSeq (wFor (wRng (wACons (wVar 2) wANil)) (gN 6) (wIf (wAnd (wBinT gtD (wVar 6) (wC (.int 0))) (wBinT eqD (wCall sp_law_draw (wACons (wVar 0) (wACons (wC (.int 5)) wANil))) (wC (.int 2)))) (wDrop (wM appendD (wVar 5) (wACons (wTup wANil) wANil))) (wDrop (wM appendD (wVar 5) (wACons (wCB tupleD (wACons (wLc (wRng (wACons (wBin addD (wC (.int 1)) (wCall sp_law_draw (wACons (wVar 0) (wACons (wVar 3) wANil)))) wANil)) (bN 7) [7] wYes (wCall sp_law_corner (wACons (wVar 0) (wACons (wVar 1) (wACons (wVar 2) (wACons (wVar 4) wANil)))))) wANil)) wANil)))))
    (wRet (wCB tupleD (wACons (wVar 5) wANil)))))
/-- _law_is_frac(thing): slots 0=thing -/
def wb_law_is_frac (sp_law_is_int : SpD) (sp_law_gcd : SpD) : WS :=
    (wSeq (wIf (wOr (wNot (wB (wIsi .tup (wVar 0)))) (wBinT neD (wCB lenD (wACons (wVar 0) wANil)) (wC (.int 2)))) (wRet (wC (.bl false))) wNext)
    (wSeq (wIf (wNot (wAnd (wB (wCall sp_law_is_int (wACons (wBin ixD (wVar 0) (wC (.int 0))) wANil))) (wB (wCall sp_law_is_int (wACons (wBin ixD (wVar 0) (wC (.int 1))) wANil))))) (wRet (wC (.bl false))) wNext)
    (wRet (wAndV (wBin geD (wBin ixD (wVar 0) (wC (.int 1))) (wC (.int 1))) (wBin eqD (wCall sp_law_gcd (wACons (wBin ixD (wVar 0) (wC (.int 0))) (wACons (wBin ixD (wVar 0) (wC (.int 1))) wANil))) (wC (.int 1)))))))
/-- _law_less(a, b): slots 0=a 1=b -/
def wb_law_less : WS :=
    (wRet (wBin ltD (wBin mulD (wBin ixD (wVar 0) (wC (.int 0))) (wBin ixD (wVar 1) (wC (.int 1)))) (wBin mulD (wBin ixD (wVar 1) (wC (.int 0))) (wBin ixD (wVar 0) (wC (.int 1))))))
/-- _law_over(a, b): slots 0=a 1=b -/
def wb_law_over (sp_law_frac : SpD) : WS :=
    (wRet (wCall sp_law_frac (wACons (wBin mulD (wBin ixD (wVar 0) (wC (.int 0))) (wBin ixD (wVar 1) (wC (.int 1)))) (wACons (wBin mulD (wBin ixD (wVar 0) (wC (.int 1))) (wBin ixD (wVar 1) (wC (.int 0)))) wANil))))
/-- _law_sum(row): slots 0=row 1=top 2=bottom 3=n 4=d 5=common -/
def wb_law_sum (sp_law_gcd : SpD) (sp_law_frac : SpD) : WS :=
    (wSeq (wAsg (wTup (wACons (wC (.int 0)) (wACons (wC (.int 1)) wANil))) (gT 2 (gsCons (gN 1) (gsCons (gN 2) gsNil))))
    (wSeq (wFor (wIt (wVar 0)) (gT 2 (gsCons (gN 3) (gsCons (gN 4) gsNil))) (wSeq (wSet 5 (wCall sp_law_gcd (wACons (wVar 2) (wACons (wVar 4) wANil))))
    (wPar 1 2 (wBin addD (wBin mulD (wVar 1) (wBin divD (wVar 4) (wVar 5))) (wBin mulD (wVar 3) (wBin divD (wVar 2) (wVar 5)))) (wBin mulD (wVar 2) (wBin divD (wVar 4) (wVar 5))))))
    (wRet (wCall sp_law_frac (wACons (wVar 1) (wACons (wVar 2) wANil))))))
/-- _law_weight_sum(corner): slots 0=corner 1=move -/
def wb_law_weight_sum : WS :=
    (wRet (wCB sumA (wACons (wLc (wIt (wVar 0)) (bN 1) [1] wYes (wBin ixD (wVar 1) (wC (.int 0)))) wANil)))
/-- _law_is_line(letters, web, other, pair, line): slots 0=letters 1=web 2=other 3=pair 4=line 5=corners 6=lots 7=k -/
def wb_law_is_line (sp_law_is_int : SpD) (sp_law_is_mixture : SpD) : WS :=
    (wSeq (wIf (wOr (wNot (wB (wIsi .tup (wVar 4)))) (wOr (wBinT neD (wCB lenD (wACons (wVar 4) wANil)) (wC (.int 3))) (wOr (wNot (wB (wCall sp_law_is_int (wACons (wBin ixD (wVar 4) (wC (.int 0))) wANil)))) (wNot (wB (wCall sp_law_is_int (wACons (wBin ixD (wVar 4) (wC (.int 1))) wANil))))))) (wRet (wC (.bl false))) wNext)
    (wSeq (wSet 5 (wBin ixD (wVar 1) (wBin ixD (wVar 3) (wC (.int 0)))))
    (wSeq (wSet 6 (wIfE (wBinT geD (wBin ixD (wVar 3) (wC (.int 1))) (wC (.int 0))) (wBin ixD (wVar 2) (wBin ixD (wVar 3) (wC (.int 1)))) (wTup wANil)))
    (wSeq (wIf (wOr (wBinT neD (wSl (wVar 4) wONone (wOSome (wC (.int 2)))) (wVar 3)) (wOr (wNot (wB (wIsi .tup (wBin ixD (wVar 4) (wC (.int 2)))))) (wBinT neD (wCB lenD (wACons (wBin ixD (wVar 4) (wC (.int 2))) wANil)) (wCB lenD (wACons (wVar 5) wANil))))) (wRet (wC (.bl false))) wNext)
    (wRet (wCB allD (wACons (wLc (wRng (wACons (wCB lenD (wACons (wVar 5) wANil)) wANil)) (bN 7) [7] wYes (wCall sp_law_is_mixture (wACons (wVar 0) (wACons (wBin ixD (wVar 5) (wVar 7)) (wACons (wVar 6) (wACons (wBin ixD (wBin ixD (wVar 4) (wC (.int 2))) (wVar 7)) wANil)))))) wANil)))))))
/-- _law_greatest(row): slots 0=row 1=best 2=one -/
def wb_law_greatest (sp_law_less : SpD) : WS :=
    (wSeq (wSet 1 (wBin ixD (wVar 0) (wC (.int 0))))
    (wSeq (wFor (wIt (wVar 0)) (gN 2) (wIf (wB (wCall sp_law_less (wACons (wVar 1) (wACons (wVar 2) wANil)))) (wSet 1 (wVar 2)) wNext))
    (wRet (wVar 1))))
/-- _law_begin(script): slots 0=script 1=cell -/
def wb_law_begin : WS :=
    (wRet (wLst (wACons (wLc (wIt (wVar 0)) (bN 1) [1] wYes (wCB intD (wACons (wVar 1) wANil))) (wACons (wC (.int 0)) (wACons (wC (.int 0)) (wACons (wC (.int 5)) wANil))))))
/-- _law_fraction(d, top, bottom): slots 0=d 1=top 2=bottom -/
def wb_law_fraction (sp_law_frac : SpD) (sp_law_draw : SpD) : WS :=
    (wRet (wCall sp_law_frac (wACons (wCall sp_law_draw (wACons (wVar 0) (wACons (wBin addD (wVar 1) (wC (.int 1))) wANil))) (wACons (wBin addD (wC (.int 1)) (wCall sp_law_draw (wACons (wVar 0) (wACons (wVar 2) wANil)))) wANil))))
/-- _law_rows_of_states(d, letters, states): slots 0=d 1=letters 2=states 3=state 4=letter -/
def wb_law_rows_of_states (sp_law_draw : SpD) : WS :=
    (wRet (wCB tupleD (wACons (wLc (wRng (wACons (wVar 2) wANil)) (bN 3) [3] wYes (wCB tupleD (wACons (wLc (wRng (wACons (wVar 1) wANil)) (bN 4) [4] wYes (wCall sp_law_draw (wACons (wVar 0) (wACons (wVar 2) wANil)))) wANil))) wANil)))
/-- _law_mean(corner, row, table): slots 0=corner 1=row 2=table 3=whole 4=move -/
def wb_law_mean (sp_law_weight_sum : SpD) (sp_law_over : SpD) (sp_law_sum : SpD) (sp_law_times : SpD) : WS :=
    (wSeq (wSet 3 (wCall sp_law_weight_sum (wACons (wVar 0) wANil)))
    (wRet (wCall sp_law_over (wACons (wCall sp_law_sum (wACons (wLc (wIt (wVar 0)) (bN 4) [4] wYes (wCall sp_law_times (wACons (wTup (wACons (wBin ixD (wVar 4) (wC (.int 0))) (wACons (wC (.int 1)) wANil))) (wACons (wBin ixD (wBin ixD (wVar 2) (wBin ixD (wVar 1) (wBin ixD (wVar 4) (wC (.int 1))))) (wBin ixD (wVar 4) (wC (.int 2)))) wANil)))) wANil)) (wACons (wTup (wACons (wVar 3) (wACons (wC (.int 1)) wANil))) wANil)))))
/-- _law_gauge(d, letters, states): slots 0=d 1=letters 2=states 3=shows 4=state -/
def wb_law_gauge (sp_law_draw : SpD) (sp_law_fraction : SpD) (sp_law_rows_of_states : SpD) : WS :=
    (wSeq (wSet 3 (wLc (wRng (wACons (wVar 2) wANil)) (bN 4) [4] wYes (wIfE (wBinT eqD (wCall sp_law_draw (wACons (wVar 0) (wACons (wC (.int 2)) wANil))) (wC (.int 1))) (wCall sp_law_fraction (wACons (wVar 0) (wACons (wC (.int 6)) (wACons (wC (.int 4)) wANil)))) (wTup (wACons (wC (.int 0)) (wACons (wC (.int 1)) wANil))))))
    (wRet (wTup (wACons (wC (.str (PySem.Str.ofString "gauge"))) (wACons (wVar 1) (wACons (wCall sp_law_rows_of_states (wACons (wVar 0) (wACons (wVar 1) (wACons (wVar 2) wANil)))) (wACons (wCB tupleD (wACons (wVar 3) wANil)) wANil)))))))
/-- _law_gauge_on(d, rows, letters): slots 0=d 1=rows 2=letters 3=shows 4=state -/
def wb_law_gauge_on (sp_law_draw : SpD) (sp_law_fraction : SpD) : WS :=
    (wSeq (wSet 3 (wLc (wIt (wVar 1)) (bN 4) [4] wYes (wIfE (wBinT eqD (wCall sp_law_draw (wACons (wVar 0) (wACons (wC (.int 2)) wANil))) (wC (.int 1))) (wCall sp_law_fraction (wACons (wVar 0) (wACons (wC (.int 6)) (wACons (wC (.int 4)) wANil)))) (wTup (wACons (wC (.int 0)) (wACons (wC (.int 1)) wANil))))))
    (wRet (wTup (wACons (wC (.str (PySem.Str.ofString "gauge"))) (wACons (wVar 2) (wACons (wVar 1) (wACons (wCB tupleD (wACons (wVar 3) wANil)) wANil)))))))
/-- is_grid(thing, states, nodes): slots 0=thing 1=states 2=nodes 3=row -/
def wb_is_grid : WS :=
    (wSeq (wIf (wOr (wNot (wB (wIsi .tup (wVar 0)))) (wBinT neD (wCB lenD (wACons (wVar 0) wANil)) (wVar 1))) (wRet (wC (.bl false))) wNext)
    (wRet (wCB allD (wACons (wLc (wIt (wVar 0)) (bN 3) [3] wYes (wAndV (wIsi .tup (wVar 3)) (wBin eqD (wCB lenD (wACons (wVar 3) wANil)) (wVar 2)))) wANil))))
/-- is_whole(thing): slots 0=thing -/
def wb_is_whole : WS :=
    (wRet (wAndV (wIsi .int (wVar 0)) (wNotV (wIsi .bool (wVar 0)))))
/-- is_fraction(thing): slots 0=thing -/
def wb_is_fraction (sp_is_whole : SpD) : WS :=
    (wSeq (wIf (wOr (wNot (wB (wIsi .tup (wVar 0)))) (wBinT neD (wCB lenD (wACons (wVar 0) wANil)) (wC (.int 2)))) (wRet (wC (.bl false))) wNext)
    (wSeq (wIf (wOr (wNot (wB (wCall sp_is_whole (wACons (wBin ixD (wVar 0) (wC (.int 0))) wANil)))) (wNot (wB (wCall sp_is_whole (wACons (wBin ixD (wVar 0) (wC (.int 1))) wANil))))) (wRet (wC (.bl false))) wNext)
    (wRet (wAndV (wBin geD (wBin ixD (wVar 0) (wC (.int 1))) (wC (.int 1))) (wBin eqD (wCB gcdD (wACons (wBin ixD (wVar 0) (wC (.int 0))) (wACons (wBin ixD (wVar 0) (wC (.int 1))) wANil))) (wC (.int 1)))))))
/-- is_table(thing, states, nodes): slots 0=thing 1=states 2=nodes 3=row 4=entry -/
def wb_is_table (sp_is_grid : SpD) (sp_is_fraction : SpD) : WS :=
    (wSeq (wIf (wNot (wB (wCall sp_is_grid (wACons (wVar 0) (wACons (wVar 1) (wACons (wVar 2) wANil)))))) (wRet (wC (.bl false))) wNext)
    (wRet (wCB allD (wACons (wLc2 (wIt (wVar 0)) (bN 3) [3, 4] wYes (wIt (wVar 3)) (bN 4) [4] wYes (wCall sp_is_fraction (wACons (wVar 4) wANil))) wANil))))
/-- less(a, b): slots 0=a 1=b -/
def wb_less : WS :=
    (wRet (wBin ltD (wBin mulD (wBin ixD (wVar 0) (wC (.int 0))) (wBin ixD (wVar 1) (wC (.int 1)))) (wBin mulD (wBin ixD (wVar 1) (wC (.int 0))) (wBin ixD (wVar 0) (wC (.int 1))))))
/-- at_most(a, b): slots 0=a 1=b -/
def wb_at_most : WS :=
    (wRet (wBin leD (wBin mulD (wBin ixD (wVar 0) (wC (.int 0))) (wBin ixD (wVar 1) (wC (.int 1)))) (wBin mulD (wBin ixD (wVar 1) (wC (.int 0))) (wBin ixD (wVar 0) (wC (.int 1))))))
/-- shared(row): slots 0=row 1=bottom 2=top 3=under -/
def wb_shared : WS :=
    (wSeq (wSet 1 (wC (.int 1)))
    (wSeq (wFor (wIt (wVar 0)) (gT 2 (gsCons (gN 2) (gsCons (gN 3) gsNil))) (wSet 1 (wBin mulD (wBin divD (wVar 1) (wCB gcdD (wACons (wVar 1) (wACons (wVar 3) wANil)))) (wVar 3))))
    (wRet (wTup (wACons (wCB tupleD (wACons (wLc (wIt (wVar 0)) (bT [2, 3]) [2, 3] wYes (wBin mulD (wVar 2) (wBin divD (wVar 1) (wVar 3)))) wANil)) (wACons (wVar 1) wANil))))))
/-- fraction(n, d): slots 0=n 1=d 2=common -/
def wb_fraction : WS :=
    (wSeq (wIf (wBinT eqD (wVar 1) (wC (.int 0))) wNever wNext)
    (wSeq (wIf (wBinT ltD (wVar 1) (wC (.int 0))) (wPar 0 1 (wNeg (wVar 0)) (wNeg (wVar 1))) wNext)
    (wSeq (wSet 2 (wCB gcdD (wACons (wVar 0) (wACons (wVar 1) wANil))))
    (wRet (wTup (wACons (wBin divD (wVar 0) (wVar 2)) (wACons (wBin divD (wVar 1) (wVar 2)) wANil)))))))
/-- total(row): slots 0=row 1=tops 2=bottom -/
def wb_total (sp_shared : SpD) (sp_fraction : SpD) : WS :=
    (wSeq (wAsg (wCall sp_shared (wACons (wVar 0) wANil)) (gT 2 (gsCons (gN 1) (gsCons (gN 2) gsNil))))
    (wRet (wCall sp_fraction (wACons (wCB sumA (wACons (wVar 1) wANil)) (wACons (wVar 2) wANil)))))
/-- times(a, b): slots 0=a 1=b -/
def wb_times (sp_fraction : SpD) : WS :=
    (wRet (wCall sp_fraction (wACons (wBin mulD (wBin ixD (wVar 0) (wC (.int 0))) (wBin ixD (wVar 1) (wC (.int 0)))) (wACons (wBin mulD (wBin ixD (wVar 0) (wC (.int 1))) (wBin ixD (wVar 1) (wC (.int 1)))) wANil))))
/-- weighed_entries(corner, row, table): slots 0=corner 1=row 2=table 3=weight 4=letter 5=after -/
def wb_weighed_entries (sp_total : SpD) (sp_times : SpD) : WS :=
    (wRet (wCall sp_total (wACons (wLc (wIt (wVar 0)) (bT [3, 4, 5]) [3, 4, 5] wYes (wCall sp_times (wACons (wTup (wACons (wVar 3) (wACons (wC (.int 1)) wANil))) (wACons (wBin ixD (wBin ixD (wVar 2) (wBin ixD (wVar 1) (wVar 4))) (wVar 5)) wANil)))) wANil)))
/-- corner_total(corner): slots 0=corner 1=weight 2=letter 3=after -/
def wb_corner_total : WS :=
    (wRet (wTup (wACons (wCB sumA (wACons (wLc (wIt (wVar 0)) (bT [1, 2, 3]) [1, 2, 3] wYes (wVar 1)) wANil)) (wACons (wC (.int 1)) wANil))))
/-- is_growing_by(corner, row, table, entry): slots 0=corner 1=row 2=table 3=entry -/
def wb_is_growing_by (sp_at_most : SpD) (sp_weighed_entries : SpD) (sp_times : SpD) (sp_corner_total : SpD) : WS :=
    (wRet (wNotV (wCall sp_at_most (wACons (wCall sp_weighed_entries (wACons (wVar 0) (wACons (wVar 1) (wACons (wVar 2) wANil)))) (wACons (wCall sp_times (wACons (wCall sp_corner_total (wACons (wVar 0) wANil)) (wACons (wVar 3) wANil))) wANil)))))
/-- _law_light(web): slots 0=web 1=found 2=node 3=corner 4=move -/
def wb_law_light : WS :=
    (wSeq (wSet 1 (wLst wANil))
    (wSeq (wFor (wIt (wVar 0)) (gN 2) (wDrop (wM appendD (wVar 1) (wACons (wCB tupleD (wACons (wLc (wIt (wVar 2)) (bN 3) [3] wYes (wCB tupleD (wACons (wLc (wIt (wVar 3)) (bN 4) [4] wYes (wTup (wACons (wBin addD (wC (.int 1)) (wBin modD (wCB intD (wACons (wBin ixD (wVar 4) (wC (.int 0))) wANil)) (wC (.int 2)))) (wACons (wBin ixD (wVar 4) (wC (.int 1))) (wACons (wBin ixD (wVar 4) (wC (.int 2))) wANil))))) wANil))) wANil)) wANil))))
    (wRet (wCB tupleD (wACons (wVar 1) wANil)))))
/-- _law_pick_at(d, node, often): slots 0=d 1=node 2=often 3=found -/
def wb_law_pick_at (sp_law_draw : SpD) : WS :=
    (wSeq (wSet 3 (wCall sp_law_draw (wACons (wVar 0) (wACons (wBin addD (wC (.int 1)) (wBin mulD (wVar 2) (wCB lenD (wACons (wVar 1) wANil)))) wANil))))
    (wRet (wIfE (wBinT ltD (wVar 3) (wBin mulD (wVar 2) (wCB lenD (wACons (wVar 1) wANil)))) (wBin divD (wVar 3) (wVar 2)) (wNeg (wC (.int 1))))))
/-- _law_plan(d, gauge, web, many, often): slots 0=d 1=gauge 2=web 3=many 4=often 5=found 6=k 7=row 8=node -/
def wb_law_plan (sp_law_pick_at : SpD) : WS :=
    (wSeq (wSet 5 (wLst wANil))
    (wSeq (wFor (wRng (wACons (wVar 3) wANil)) (gN 6) (wDrop (wM appendD (wVar 5) (wACons (wCB tupleD (wACons (wLc (wIt (wBin ixD (wVar 1) (wC (.int 2)))) (bN 7) [7] wYes (wCB tupleD (wACons (wLc (wIt (wVar 2)) (bN 8) [8] wYes (wCall sp_law_pick_at (wACons (wVar 0) (wACons (wVar 8) (wACons (wVar 4) wANil))))) wANil))) wANil)) wANil))))
    (wRet (wCB tupleD (wACons (wVar 5) wANil)))))
/-- plus(a, b): slots 0=a 1=b -/
def wb_plus (sp_fraction : SpD) : WS :=
    (wRet (wCall sp_fraction (wACons (wBin addD (wBin mulD (wBin ixD (wVar 0) (wC (.int 0))) (wBin ixD (wVar 1) (wC (.int 1)))) (wBin mulD (wBin ixD (wVar 1) (wC (.int 0))) (wBin ixD (wVar 0) (wC (.int 1))))) (wACons (wBin mulD (wBin ixD (wVar 0) (wC (.int 1))) (wBin ixD (wVar 1) (wC (.int 1)))) wANil))))
/-- added(table, key, amount): slots 0=table 1=key 2=amount -/
def wb_added (sp_plus : SpD) : WS :=
    (wIf (wDInT false (wVar 1) (wVar 0)) (wDPut (wVar 0) (wVar 1) (wCall sp_plus (wACons (wDGet (wVar 0) (wVar 1)) (wACons (wVar 2) wANil)))) (wDPut (wVar 0) (wVar 1) (wVar 2)))
/-- over(a, b): slots 0=a 1=b -/
def wb_over (sp_fraction : SpD) : WS :=
    (wRet (wCall sp_fraction (wACons (wBin mulD (wBin ixD (wVar 0) (wC (.int 0))) (wBin ixD (wVar 1) (wC (.int 1)))) (wACons (wBin mulD (wBin ixD (wVar 0) (wC (.int 1))) (wBin ixD (wVar 1) (wC (.int 0)))) wANil))))
/-- minus(a, b): slots 0=a 1=b -/
def wb_minus (sp_fraction : SpD) : WS :=
    (wRet (wCall sp_fraction (wACons (wBin subD (wBin mulD (wBin ixD (wVar 0) (wC (.int 0))) (wBin ixD (wVar 1) (wC (.int 1)))) (wBin mulD (wBin ixD (wVar 1) (wC (.int 0))) (wBin ixD (wVar 0) (wC (.int 1))))) (wACons (wBin mulD (wBin ixD (wVar 0) (wC (.int 1))) (wBin ixD (wVar 1) (wC (.int 1)))) wANil))))
/-- listed(chances): slots 0=chances 1=state 2=node -/
def wb_listed : WS :=
    (wRet (wCB tupleD (wACons (wLc (wIt (wCB sortedKD (wACons (wVar 0) wANil))) (bT [1, 2]) [1, 2] wYes (wTup (wACons (wVar 1) (wACons (wVar 2) (wACons (wDGet (wVar 0) (wKey (wACons (wVar 1) (wACons (wVar 2) wANil)))) wANil))))) wANil)))
/-- part_of(weight, corner): slots 0=weight 1=corner 2=move -/
def wb_part_of (sp_fraction : SpD) : WS :=
    (wRet (wCall sp_fraction (wACons (wVar 0) (wACons (wCB sumA (wACons (wLc (wIt (wVar 1)) (bN 2) [2] wYes (wBin ixD (wVar 2) (wC (.int 0)))) wANil)) wANil))))
/-- run_plan(gauge, web, plan): slots 0=gauge 1=web 2=plan 3=rows 4=shows 5=now 6=parts 7=going 8=choice 9=later 10=state 11=node 12=chance 13=corner 14=weight 15=letter 16=after -/
def wb_run_plan (sp_listed : SpD) (sp_times : SpD) (sp_added : SpD) (sp_part_of : SpD) (sp_total : SpD) : WS :=
    (wSeq (wPar 3 4 (wBin ixD (wVar 0) (wC (.int 2))) (wBin ixD (wVar 0) (wC (.int 3))))
    (wSeq (wSet 5 (wDisp1 (wKey (wACons (wC (.int 0)) (wACons (wC (.int 0)) wANil))) (wC (.tup [(.int 1), (.int 1)]))))
    (wSeq (wSet 6 (wLst wANil))
    (wSeq (wSet 7 (wLst (wACons (wCall sp_listed (wACons (wVar 5) wANil)) wANil)))
    (wSeq (wFor (wIt (wVar 2)) (gN 8) (wSeq (wSet 9 wDNewT)
    (wSeq (wLock (wFor (wKeys (wVar 5)) (gT 2 (gsCons (gN 10) (gsCons (gN 11) gsNil))) (wSeq (wSet 12 (wDGet (wVar 5) (wKey (wACons (wVar 10) (wACons (wVar 11) wANil)))))
    (wIf (wBinT ltD (wBin ixD (wBin ixD (wVar 8) (wVar 10)) (wVar 11)) (wC (.int 0))) (wDrop (wM appendD (wVar 6) (wACons (wCall sp_times (wACons (wVar 12) (wACons (wBin ixD (wVar 4) (wVar 10)) wANil))) wANil))) (wSeq (wSet 13 (wBin ixD (wBin ixD (wVar 1) (wVar 11)) (wBin ixD (wBin ixD (wVar 8) (wVar 10)) (wVar 11))))
    (wFor (wIt (wVar 13)) (gT 3 (gsCons (gN 14) (gsCons (gN 15) (gsCons (gN 16) gsNil)))) (wDrop (wCall sp_added (wACons (wVar 9) (wACons (wKey (wACons (wBin ixD (wBin ixD (wVar 3) (wVar 10)) (wVar 15)) (wACons (wVar 16) wANil))) (wACons (wCall sp_times (wACons (wVar 12) (wACons (wCall sp_part_of (wACons (wVar 14) (wACons (wVar 13) wANil))) wANil))) wANil)))))))))))
    (wSeq (wSet 5 (wVar 9))
    (wDrop (wM appendD (wVar 7) (wACons (wCall sp_listed (wACons (wVar 5) wANil)) wANil)))))))
    (wSeq (wLock (wFor (wKeys (wVar 5)) (gT 2 (gsCons (gN 10) (gsCons (gN 11) gsNil))) (wDrop (wM appendD (wVar 6) (wACons (wCall sp_times (wACons (wDGet (wVar 5) (wKey (wACons (wVar 10) (wACons (wVar 11) wANil)))) (wACons (wBin ixD (wVar 4) (wVar 10)) wANil))) wANil)))))
    (wRet (wTup (wACons (wCall sp_total (wACons (wVar 6) wANil)) (wACons (wCB tupleD (wACons (wVar 7) wANil)) wANil))))))))))
end C
end DL

namespace DL
namespace K25
open PySem L2 C
/-- _law_case(d): slots 0=d 1=kind 2=many 3=web 4=letters -/
def wb_law_case (sp_law_draw : SpD) (sp_law_gauge : SpD) (sp_law_web : SpD) (sp_law_light : SpD) : WS :=
    (wSeq (wSet 1 (wCall sp_law_draw (wACons (wVar 0) (wACons (wC (.int 24)) wANil))))
    (wSeq (wIf (wBinT eqD (wVar 1) (wC (.int 7))) (wRet (wTup (wACons (wCall sp_law_gauge (wACons (wVar 0) (wACons (wC (.int 8)) (wACons (wBin addD (wC (.int 1)) (wCall sp_law_draw (wACons (wVar 0) (wACons (wC (.int 3)) wANil)))) wANil)))) (wACons (wCall sp_law_web (wACons (wVar 0) (wACons (wC (.int 8)) (wACons (wC (.int 2)) (wACons (wC (.int 16)) (wACons (wC (.int 16)) wANil)))))) (wACons (wBin addD (wC (.int 1)) (wCall sp_law_draw (wACons (wVar 0) (wACons (wC (.int 3)) wANil)))) (wACons (wC (.int 2)) wANil)))))) wNext)
    (wSeq (wIf (wBinT eqD (wVar 1) (wC (.int 11))) (wSeq (wSet 2 (wBin addD (wC (.int 2)) (wCall sp_law_draw (wACons (wVar 0) (wACons (wBin addD (wC (.int 1)) (wCall sp_law_draw (wACons (wVar 0) (wACons (wC (.int 23)) wANil)))) wANil)))))
    (wRet (wTup (wACons (wCall sp_law_gauge (wACons (wVar 0) (wACons (wC (.int 2)) (wACons (wC (.int 40)) wANil)))) (wACons (wCall sp_law_web (wACons (wVar 0) (wACons (wC (.int 2)) (wACons (wVar 2) (wACons (wC (.int 2)) (wACons (wC (.int 2)) wANil)))))) (wACons (wBin addD (wC (.int 1)) (wCall sp_law_draw (wACons (wVar 0) (wACons (wC (.int 5)) wANil)))) (wACons (wC (.int 2)) wANil))))))) wNext)
    (wSeq (wIf (wBinT eqD (wVar 1) (wC (.int 13))) (wSeq (wSet 3 (wCall sp_law_light (wACons (wCall sp_law_web (wACons (wVar 0) (wACons (wC (.int 2)) (wACons (wBin addD (wC (.int 1)) (wCall sp_law_draw (wACons (wVar 0) (wACons (wC (.int 2)) wANil)))) (wACons (wC (.int 2)) (wACons (wC (.int 2)) wANil)))))) wANil)))
    (wRet (wTup (wACons (wCall sp_law_gauge (wACons (wVar 0) (wACons (wC (.int 2)) (wACons (wBin addD (wC (.int 1)) (wCall sp_law_draw (wACons (wVar 0) (wACons (wC (.int 3)) wANil)))) wANil)))) (wACons (wVar 3) (wACons (wBin addD (wC (.int 41)) (wCall sp_law_draw (wACons (wVar 0) (wACons (wC (.int 8)) wANil)))) (wACons (wC (.int 9)) wANil))))))) wNext)
    (wSeq (wSet 4 (wBin addD (wC (.int 1)) (wCall sp_law_draw (wACons (wVar 0) (wACons (wC (.int 3)) wANil)))))
    (wSeq (wSet 3 (wCall sp_law_web (wACons (wVar 0) (wACons (wVar 4) (wACons (wBin addD (wC (.int 1)) (wCall sp_law_draw (wACons (wVar 0) (wACons (wC (.int 4)) wANil)))) (wACons (wC (.int 3)) (wACons (wC (.int 3)) wANil)))))))
    (wSeq (wIf (wBinT eqD (wVar 1) (wC (.int 17))) (wSet 3 (wBin addD (wTup (wACons (wTup wANil) wANil)) (wSl (wVar 3) (wOSome (wC (.int 1))) wONone))) wNext)
    (wRet (wTup (wACons (wCall sp_law_gauge (wACons (wVar 0) (wACons (wVar 4) (wACons (wBin addD (wC (.int 1)) (wCall sp_law_draw (wACons (wVar 0) (wACons (wC (.int 4)) wANil)))) wANil)))) (wACons (wVar 3) (wACons (wCall sp_law_draw (wACons (wVar 0) (wACons (wC (.int 6)) wANil))) (wACons (wC (.int 2)) wANil)))))))))))))
/-- _law_lines(gauge, web, plan): slots 0=gauge 1=web 2=plan 3=now 4=found 5=choice 6=later 7=pair 8=pick 9=corner 10=move 11=after 12=come 13=key -/
def wb_law_lines (sp_law_times : SpD) (sp_law_weight_sum : SpD) (sp_law_plus : SpD) : WS :=
    (wSeq (wSet 3 (wDisp1 (wKey (wACons (wC (.int 0)) (wACons (wC (.int 0)) wANil))) (wTup (wACons (wC (.int 1)) (wACons (wC (.int 1)) wANil)))))
    (wSeq (wSet 4 (wLst (wACons (wTup (wACons (wTup (wACons (wC (.int 0)) (wACons (wC (.int 0)) (wACons (wTup (wACons (wC (.int 1)) (wACons (wC (.int 1)) wANil))) wANil)))) wANil)) wANil)))
    (wSeq (wFor (wIt (wVar 2)) (gN 5) (wSeq (wSet 6 wDNewT)
    (wSeq (wLock (wFor (wKeys (wVar 3)) (gN 7) (wSeq (wSet 8 (wBin ixD (wBin ixD (wVar 5) (wBin ixD (wVar 7) (wC (.int 0)))) (wBin ixD (wVar 7) (wC (.int 1)))))
    (wIf (wBinT geD (wVar 8) (wC (.int 0))) (wSeq (wSet 9 (wBin ixD (wBin ixD (wVar 1) (wBin ixD (wVar 7) (wC (.int 1)))) (wVar 8)))
    (wFor (wIt (wVar 9)) (gN 10) (wSeq (wSet 11 (wKey (wACons (wBin ixD (wBin ixD (wBin ixD (wVar 0) (wC (.int 2))) (wBin ixD (wVar 7) (wC (.int 0)))) (wBin ixD (wVar 10) (wC (.int 1)))) (wACons (wBin ixD (wVar 10) (wC (.int 2))) wANil))))
    (wSeq (wSet 12 (wCall sp_law_times (wACons (wDGet (wVar 3) (wVar 7)) (wACons (wTup (wACons (wBin ixD (wVar 10) (wC (.int 0))) (wACons (wCall sp_law_weight_sum (wACons (wVar 9) wANil)) wANil))) wANil))))
    (wDPut (wVar 6) (wVar 11) (wCall sp_law_plus (wACons (wDGetOr (wVar 6) (wVar 11) (wTup (wACons (wC (.int 0)) (wACons (wC (.int 1)) wANil)))) (wACons (wVar 12) wANil)))))))) wNext))))
    (wSeq (wSet 3 (wVar 6))
    (wDrop (wM appendD (wVar 4) (wACons (wCB tupleD (wACons (wLc (wIt (wCB sortedKD (wACons (wVar 3) wANil))) (bN 13) [13] wYes (wTup (wACons (wBin ixD (wVar 13) (wC (.int 0))) (wACons (wBin ixD (wVar 13) (wC (.int 1))) (wACons (wDGet (wVar 3) (wVar 13)) wANil))))) wANil)) wANil)))))))
    (wRet (wCB tupleD (wACons (wVar 4) wANil))))))
/-- _law_mean_back(gauge, web, plan, lines): slots 0=gauge 1=web 2=plan 3=lines 4=behind 5=line 6=step 7=here 8=pick 9=corner 10=row 11=parts 12=move -/
def wb_law_mean_back (sp_law_times : SpD) (sp_law_over : SpD) (sp_law_sum : SpD) (sp_law_weight_sum : SpD) : WS :=
    (wSeq (wSet 4 wDNewT)
    (wSeq (wFor (wIt (wBin ixD (wVar 3) (wCB lenD (wACons (wVar 2) wANil)))) (gN 5) (wDPut (wVar 4) (wKey (wACons (wBin ixD (wVar 5) (wC (.int 0))) (wACons (wBin ixD (wVar 5) (wC (.int 1))) wANil))) (wBin ixD (wBin ixD (wVar 0) (wC (.int 3))) (wBin ixD (wVar 5) (wC (.int 0))))))
    (wSeq (wFor (wRng (wACons (wBin subD (wCB lenD (wACons (wVar 2) wANil)) (wC (.int 1))) (wACons (wNeg (wC (.int 1))) (wACons (wNeg (wC (.int 1))) wANil)))) (gN 6) (wSeq (wSet 7 wDNewT)
    (wSeq (wFor (wIt (wBin ixD (wVar 3) (wVar 6))) (gN 5) (wSeq (wSet 8 (wBin ixD (wBin ixD (wBin ixD (wVar 2) (wVar 6)) (wBin ixD (wVar 5) (wC (.int 0)))) (wBin ixD (wVar 5) (wC (.int 1)))))
    (wSeq (wDPut (wVar 7) (wKey (wACons (wBin ixD (wVar 5) (wC (.int 0))) (wACons (wBin ixD (wVar 5) (wC (.int 1))) wANil))) (wBin ixD (wBin ixD (wVar 0) (wC (.int 3))) (wBin ixD (wVar 5) (wC (.int 0)))))
    (wIf (wBinT geD (wVar 8) (wC (.int 0))) (wSeq (wSet 9 (wBin ixD (wBin ixD (wVar 1) (wBin ixD (wVar 5) (wC (.int 1)))) (wVar 8)))
    (wSeq (wSet 10 (wBin ixD (wBin ixD (wVar 0) (wC (.int 2))) (wBin ixD (wVar 5) (wC (.int 0)))))
    (wSeq (wSet 11 (wLc (wIt (wVar 9)) (bN 12) [12] wYes (wCall sp_law_times (wACons (wTup (wACons (wBin ixD (wVar 12) (wC (.int 0))) (wACons (wC (.int 1)) wANil))) (wACons (wDGet (wVar 4) (wKey (wACons (wBin ixD (wVar 10) (wBin ixD (wVar 12) (wC (.int 1)))) (wACons (wBin ixD (wVar 12) (wC (.int 2))) wANil)))) wANil)))))
    (wDPut (wVar 7) (wKey (wACons (wBin ixD (wVar 5) (wC (.int 0))) (wACons (wBin ixD (wVar 5) (wC (.int 1))) wANil))) (wCall sp_law_over (wACons (wCall sp_law_sum (wACons (wVar 11) wANil)) (wACons (wTup (wACons (wCall sp_law_weight_sum (wACons (wVar 9) wANil)) (wACons (wC (.int 1)) wANil))) wANil))))))) wNext))))
    (wSet 4 (wVar 7)))))
    (wRet (wDGet (wVar 4) (wKey (wACons (wC (.int 0)) (wACons (wC (.int 0)) wANil))))))))
/-- _law_is_line(line): slots 0=line -/
def wb_law_is_line (sp_law_is_int : SpD) (sp_law_is_frac : SpD) : WS :=
    (wSeq (wIf (wOr (wNot (wB (wIsi .tup (wVar 0)))) (wBinT neD (wCB lenD (wACons (wVar 0) wANil)) (wC (.int 3)))) (wRet (wC (.bl false))) wNext)
    (wRet (wAndV (wCall sp_law_is_int (wACons (wBin ixD (wVar 0) (wC (.int 0))) wANil)) (wAndV (wCall sp_law_is_int (wACons (wBin ixD (wVar 0) (wC (.int 1))) wANil)) (wCall sp_law_is_frac (wACons (wBin ixD (wVar 0) (wC (.int 2))) wANil))))))
/-- _law_is_run(told, mean, lines): slots 0=told 1=mean 2=lines 3=k 4=line -/
def wb_law_is_run (sp_law_is_frac : SpD) (sp_law_is_line : SpD) : WS :=
    (wSeq (wIf (wOr (wNot (wB (wIsi .tup (wVar 0)))) (wOr (wBinT neD (wCB lenD (wACons (wVar 0) wANil)) (wC (.int 2))) (wOr (wNot (wB (wCall sp_law_is_frac (wACons (wBin ixD (wVar 0) (wC (.int 0))) wANil)))) (wBinT neD (wBin ixD (wVar 0) (wC (.int 0))) (wVar 1))))) (wRet (wC (.bl false))) wNext)
    (wSeq (wIf (wOr (wNot (wB (wIsi .tup (wBin ixD (wVar 0) (wC (.int 1)))))) (wBinT neD (wCB lenD (wACons (wBin ixD (wVar 0) (wC (.int 1))) wANil)) (wCB lenD (wACons (wVar 2) wANil)))) (wRet (wC (.bl false))) wNext)
    (wSeq (wFor (wRng (wACons (wCB lenD (wACons (wVar 2) wANil)) wANil)) (gN 3) (wSeq (wIf (wOr (wNot (wB (wIsi .tup (wBin ixD (wBin ixD (wVar 0) (wC (.int 1))) (wVar 3))))) (wNot (wB (wCB allD (wACons (wLc (wIt (wBin ixD (wBin ixD (wVar 0) (wC (.int 1))) (wVar 3))) (bN 4) [4] wYes (wCall sp_law_is_line (wACons (wVar 4) wANil))) wANil))))) (wRet (wC (.bl false))) wNext)
    (wIf (wBinT neD (wBin ixD (wBin ixD (wVar 0) (wC (.int 1))) (wVar 3)) (wBin ixD (wVar 2) (wVar 3))) (wRet (wC (.bl false))) wNext)))
    (wRet (wC (.bl true))))))
/-- law(script): slots 0=script 1=d 2=case 3=gauge 4=web 5=plan 6=lines 7=mean 8=part 9=due 10=other 11=ways 12=halted 13=row 14=node -/
def wb_law (sp_law_begin : SpD) (sp_law_case : SpD) (sp_law_plan : SpD) (sp_law_lines : SpD) (sp_law_mean_back : SpD) (sp_law_is_run : SpD) (sp_run_plan : SpD) (sp_law_draw : SpD) : WS :=
    (wSeq (wSet 1 (wCall sp_law_begin (wACons (wVar 0) wANil)))
    (wSeq (wSet 2 (wCall sp_law_case (wACons (wVar 1) wANil)))
    (wSeq (wAsg (wTup (wACons (wBin ixD (wVar 2) (wC (.int 0))) (wACons (wBin ixD (wVar 2) (wC (.int 1))) wANil))) (gT 2 (gsCons (gN 3) (gsCons (gN 4) gsNil))))
    (wSeq (wSet 5 (wCall sp_law_plan (wACons (wVar 1) (wACons (wVar 3) (wACons (wVar 4) (wACons (wBin ixD (wVar 2) (wC (.int 2))) (wACons (wBin ixD (wVar 2) (wC (.int 3))) wANil)))))))
    (wSeq (wSet 6 (wCall sp_law_lines (wACons (wVar 3) (wACons (wVar 4) (wACons (wVar 5) wANil)))))
    (wSeq (wSet 7 (wCall sp_law_mean_back (wACons (wVar 3) (wACons (wVar 4) (wACons (wVar 5) (wACons (wVar 6) wANil))))))
    (wSeq (wIf (wNot (wB (wCall sp_law_is_run (wACons (wCall sp_run_plan (wACons (wVar 3) (wACons (wVar 4) (wACons (wVar 5) wANil)))) (wACons (wVar 7) (wACons (wVar 6) wANil)))))) (wRet (wC (.bl false))) wNext)
    (wSeq (wSet 8 (wSl (wVar 5) wONone (wOSome (wCall sp_law_draw (wACons (wVar 1) (wACons (wBin addD (wCB lenD (wACons (wVar 5) wANil)) (wC (.int 1))) wANil))))))
    (wSeq (wSet 9 (wCall sp_law_mean_back (wACons (wVar 3) (wACons (wVar 4) (wACons (wVar 8) (wACons (wVar 6) wANil))))))
    (wSeq (wIf (wNot (wB (wCall sp_law_is_run (wACons (wCall sp_run_plan (wACons (wVar 3) (wACons (wVar 4) (wACons (wVar 8) wANil)))) (wACons (wVar 9) (wACons (wSl (wVar 6) wONone (wOSome (wBin addD (wCB lenD (wACons (wVar 8) wANil)) (wC (.int 1))))) wANil)))))) (wRet (wC (.bl false))) wNext)
    (wSeq (wSet 10 (wCall sp_law_plan (wACons (wVar 1) (wACons (wVar 3) (wACons (wVar 4) (wACons (wCall sp_law_draw (wACons (wVar 1) (wACons (wC (.int 3)) wANil))) (wACons (wC (.int 2)) wANil)))))))
    (wSeq (wSet 11 (wCall sp_law_lines (wACons (wVar 3) (wACons (wVar 4) (wACons (wVar 10) wANil)))))
    (wSeq (wIf (wNot (wB (wCall sp_law_is_run (wACons (wCall sp_run_plan (wACons (wVar 3) (wACons (wVar 4) (wACons (wVar 10) wANil)))) (wACons (wCall sp_law_mean_back (wACons (wVar 3) (wACons (wVar 4) (wACons (wVar 10) (wACons (wVar 11) wANil))))) (wACons (wVar 11) wANil)))))) (wRet (wC (.bl false))) wNext)
    (wSeq (wIf (wNot (wB (wCall sp_law_is_run (wACons (wCall sp_run_plan (wACons (wVar 3) (wACons (wVar 4) (wACons (wTup wANil) wANil)))) (wACons (wBin ixD (wBin ixD (wVar 3) (wC (.int 3))) (wC (.int 0))) (wACons (wSl (wVar 6) wONone (wOSome (wC (.int 1)))) wANil)))))) (wRet (wC (.bl false))) wNext)
    (wSeq (wSet 12 (wBin addD (wTup (wACons (wCB tupleD (wACons (wLc (wIt (wBin ixD (wVar 3) (wC (.int 2)))) (bN 13) [13] wYes (wCB tupleD (wACons (wLc (wIt (wVar 4)) (bN 14) [14] wYes (wNeg (wC (.int 1)))) wANil))) wANil)) wANil)) (wSl (wVar 5) wONone (wOSome (wC (.int 3))))))
    (wSeq (wIf (wNot (wB (wCall sp_law_is_run (wACons (wCall sp_run_plan (wACons (wVar 3) (wACons (wVar 4) (wACons (wVar 12) wANil)))) (wACons (wBin ixD (wBin ixD (wVar 3) (wC (.int 3))) (wC (.int 0))) (wACons (wBin addD (wSl (wVar 6) wONone (wOSome (wC (.int 1)))) (wBin mulTD (wTup (wACons (wTup wANil) wANil)) (wCB lenD (wACons (wVar 12) wANil)))) wANil)))))) (wRet (wC (.bl false))) wNext)
    (wRet (wCall sp_law_is_run (wACons (wCall sp_run_plan (wACons (wVar 3) (wACons (wVar 4) (wACons (wVar 5) wANil)))) (wACons (wVar 7) (wACons (wVar 6) wANil)))))))))))))))))))))
end K25
end DL

namespace DL
namespace K25
open PySem PySem.Spec PyProof.Rows L2 C
def topS (i : Nat) : Stmt := PySem.Challenge.pw_carriedstakes_k25_plans_run.main.body.getD i (.Pass ⟨0, 0, 0, 0⟩)
abbrev s_fraction : Stmt := topS 6
abbrev s_plus : Stmt := topS 7
abbrev s_times : Stmt := topS 8
abbrev s_shared : Stmt := topS 9
abbrev s_total : Stmt := topS 10
abbrev s_added : Stmt := topS 12
abbrev s_part_of : Stmt := topS 13
abbrev s_listed : Stmt := topS 15
abbrev s_run_plan : Stmt := topS 16
abbrev s_law_begin : Stmt := topS 18
abbrev s_law_draw : Stmt := topS 19
abbrev s_law_rare : Stmt := topS 20
abbrev s_law_shuffled : Stmt := topS 21
abbrev s_law_is_int : Stmt := topS 22
abbrev s_law_gcd : Stmt := topS 23
abbrev s_law_frac : Stmt := topS 24
abbrev s_law_is_frac : Stmt := topS 25
abbrev s_law_plus : Stmt := topS 26
abbrev s_law_times : Stmt := topS 27
abbrev s_law_over : Stmt := topS 28
abbrev s_law_sum : Stmt := topS 29
abbrev s_law_fraction : Stmt := topS 30
abbrev s_law_weight : Stmt := topS 31
abbrev s_law_corner : Stmt := topS 32
abbrev s_law_web : Stmt := topS 33
abbrev s_law_rows_of_states : Stmt := topS 34
abbrev s_law_gauge : Stmt := topS 35
abbrev s_law_weight_sum : Stmt := topS 36
abbrev s_law_pick_at : Stmt := topS 37
abbrev s_law_plan : Stmt := topS 38
abbrev s_law_light : Stmt := topS 39
abbrev s_law_case : Stmt := topS 40
abbrev s_law_lines : Stmt := topS 41
abbrev s_law_mean_back : Stmt := topS 42
abbrev s_law_is_line : Stmt := topS 43
abbrev s_law_is_run : Stmt := topS 44
abbrev s_law : Stmt := topS 45
structure Txt (P : Program) (K : PySem.W.Frag) (mg : Str → Option Value) where
  f_fraction : Addr
  fd_fraction : FuncData
  F_fraction : Fun K "fraction" "fraction" s_fraction f_fraction fd_fraction
  m_fraction : mg "fraction" = some (.ref f_fraction)
  b_fraction : Binds K fd_fraction ["n", "d"] []
  f_plus : Addr
  fd_plus : FuncData
  F_plus : Fun K "plus" "plus" s_plus f_plus fd_plus
  m_plus : mg "plus" = some (.ref f_plus)
  b_plus : Binds K fd_plus ["a", "b"] []
  f_times : Addr
  fd_times : FuncData
  F_times : Fun K "times" "times" s_times f_times fd_times
  m_times : mg "times" = some (.ref f_times)
  b_times : Binds K fd_times ["a", "b"] []
  f_shared : Addr
  fd_shared : FuncData
  F_shared : Fun K "shared" "shared" s_shared f_shared fd_shared
  m_shared : mg "shared" = some (.ref f_shared)
  b_shared : Binds K fd_shared ["row"] []
  f_total : Addr
  fd_total : FuncData
  F_total : Fun K "total" "total" s_total f_total fd_total
  m_total : mg "total" = some (.ref f_total)
  b_total : Binds K fd_total ["row"] []
  f_added : Addr
  fd_added : FuncData
  F_added : Fun K "added" "added" s_added f_added fd_added
  m_added : mg "added" = some (.ref f_added)
  b_added : Binds K fd_added ["table", "key", "amount"] []
  f_part_of : Addr
  fd_part_of : FuncData
  F_part_of : Fun K "part_of" "part_of" s_part_of f_part_of fd_part_of
  m_part_of : mg "part_of" = some (.ref f_part_of)
  b_part_of : Binds K fd_part_of ["weight", "corner"] []
  f_listed : Addr
  fd_listed : FuncData
  F_listed : Fun K "listed" "listed" s_listed f_listed fd_listed
  m_listed : mg "listed" = some (.ref f_listed)
  b_listed : Binds K fd_listed ["chances"] []
  f_run_plan : Addr
  fd_run_plan : FuncData
  F_run_plan : Fun K "run_plan" "run_plan" s_run_plan f_run_plan fd_run_plan
  m_run_plan : mg "run_plan" = some (.ref f_run_plan)
  b_run_plan : Binds K fd_run_plan ["gauge", "web", "plan"] []
  f_law_begin : Addr
  fd_law_begin : FuncData
  F_law_begin : Fun K "_law_begin" "_law_begin" s_law_begin f_law_begin fd_law_begin
  m_law_begin : mg "_law_begin" = some (.ref f_law_begin)
  b_law_begin : Binds K fd_law_begin ["script"] []
  f_law_draw : Addr
  fd_law_draw : FuncData
  F_law_draw : Fun K "_law_draw" "_law_draw" s_law_draw f_law_draw fd_law_draw
  m_law_draw : mg "_law_draw" = some (.ref f_law_draw)
  b_law_draw : Binds K fd_law_draw ["d", "many"] []
  f_law_rare : Addr
  fd_law_rare : FuncData
  F_law_rare : Fun K "_law_rare" "_law_rare" s_law_rare f_law_rare fd_law_rare
  m_law_rare : mg "_law_rare" = some (.ref f_law_rare)
  b_law_rare : Binds K fd_law_rare ["d", "many"] []
  f_law_shuffled : Addr
  fd_law_shuffled : FuncData
  F_law_shuffled : Fun K "_law_shuffled" "_law_shuffled" s_law_shuffled f_law_shuffled fd_law_shuffled
  m_law_shuffled : mg "_law_shuffled" = some (.ref f_law_shuffled)
  b_law_shuffled : Binds K fd_law_shuffled ["d", "row"] []
  f_law_is_int : Addr
  fd_law_is_int : FuncData
  F_law_is_int : Fun K "_law_is_int" "_law_is_int" s_law_is_int f_law_is_int fd_law_is_int
  m_law_is_int : mg "_law_is_int" = some (.ref f_law_is_int)
  b_law_is_int : Binds K fd_law_is_int ["thing"] []
  f_law_gcd : Addr
  fd_law_gcd : FuncData
  F_law_gcd : Fun K "_law_gcd" "_law_gcd" s_law_gcd f_law_gcd fd_law_gcd
  m_law_gcd : mg "_law_gcd" = some (.ref f_law_gcd)
  b_law_gcd : Binds K fd_law_gcd ["a", "b"] []
  f_law_frac : Addr
  fd_law_frac : FuncData
  F_law_frac : Fun K "_law_frac" "_law_frac" s_law_frac f_law_frac fd_law_frac
  m_law_frac : mg "_law_frac" = some (.ref f_law_frac)
  b_law_frac : Binds K fd_law_frac ["n", "d"] []
  f_law_is_frac : Addr
  fd_law_is_frac : FuncData
  F_law_is_frac : Fun K "_law_is_frac" "_law_is_frac" s_law_is_frac f_law_is_frac fd_law_is_frac
  m_law_is_frac : mg "_law_is_frac" = some (.ref f_law_is_frac)
  b_law_is_frac : Binds K fd_law_is_frac ["thing"] []
  f_law_plus : Addr
  fd_law_plus : FuncData
  F_law_plus : Fun K "_law_plus" "_law_plus" s_law_plus f_law_plus fd_law_plus
  m_law_plus : mg "_law_plus" = some (.ref f_law_plus)
  b_law_plus : Binds K fd_law_plus ["a", "b"] []
  f_law_times : Addr
  fd_law_times : FuncData
  F_law_times : Fun K "_law_times" "_law_times" s_law_times f_law_times fd_law_times
  m_law_times : mg "_law_times" = some (.ref f_law_times)
  b_law_times : Binds K fd_law_times ["a", "b"] []
  f_law_over : Addr
  fd_law_over : FuncData
  F_law_over : Fun K "_law_over" "_law_over" s_law_over f_law_over fd_law_over
  m_law_over : mg "_law_over" = some (.ref f_law_over)
  b_law_over : Binds K fd_law_over ["a", "b"] []
  f_law_sum : Addr
  fd_law_sum : FuncData
  F_law_sum : Fun K "_law_sum" "_law_sum" s_law_sum f_law_sum fd_law_sum
  m_law_sum : mg "_law_sum" = some (.ref f_law_sum)
  b_law_sum : Binds K fd_law_sum ["row"] []
  f_law_fraction : Addr
  fd_law_fraction : FuncData
  F_law_fraction : Fun K "_law_fraction" "_law_fraction" s_law_fraction f_law_fraction fd_law_fraction
  m_law_fraction : mg "_law_fraction" = some (.ref f_law_fraction)
  b_law_fraction : Binds K fd_law_fraction ["d", "top", "bottom"] []
  f_law_weight : Addr
  fd_law_weight : FuncData
  F_law_weight : Fun K "_law_weight" "_law_weight" s_law_weight f_law_weight fd_law_weight
  m_law_weight : mg "_law_weight" = some (.ref f_law_weight)
  b_law_weight : Binds K fd_law_weight ["d"] []
  f_law_corner : Addr
  fd_law_corner : FuncData
  F_law_corner : Fun K "_law_corner" "_law_corner" s_law_corner f_law_corner fd_law_corner
  m_law_corner : mg "_law_corner" = some (.ref f_law_corner)
  b_law_corner : Binds K fd_law_corner ["d", "letters", "nodes", "most"] []
  f_law_web : Addr
  fd_law_web : FuncData
  F_law_web : Fun K "_law_web" "_law_web" s_law_web f_law_web fd_law_web
  m_law_web : mg "_law_web" = some (.ref f_law_web)
  b_law_web : Binds K fd_law_web ["d", "letters", "nodes", "corners", "most"] []
  f_law_rows_of_states : Addr
  fd_law_rows_of_states : FuncData
  F_law_rows_of_states : Fun K "_law_rows_of_states" "_law_rows_of_states" s_law_rows_of_states f_law_rows_of_states fd_law_rows_of_states
  m_law_rows_of_states : mg "_law_rows_of_states" = some (.ref f_law_rows_of_states)
  b_law_rows_of_states : Binds K fd_law_rows_of_states ["d", "letters", "states"] []
  f_law_gauge : Addr
  fd_law_gauge : FuncData
  F_law_gauge : Fun K "_law_gauge" "_law_gauge" s_law_gauge f_law_gauge fd_law_gauge
  m_law_gauge : mg "_law_gauge" = some (.ref f_law_gauge)
  b_law_gauge : Binds K fd_law_gauge ["d", "letters", "states"] []
  f_law_weight_sum : Addr
  fd_law_weight_sum : FuncData
  F_law_weight_sum : Fun K "_law_weight_sum" "_law_weight_sum" s_law_weight_sum f_law_weight_sum fd_law_weight_sum
  m_law_weight_sum : mg "_law_weight_sum" = some (.ref f_law_weight_sum)
  b_law_weight_sum : Binds K fd_law_weight_sum ["corner"] []
  f_law_pick_at : Addr
  fd_law_pick_at : FuncData
  F_law_pick_at : Fun K "_law_pick_at" "_law_pick_at" s_law_pick_at f_law_pick_at fd_law_pick_at
  m_law_pick_at : mg "_law_pick_at" = some (.ref f_law_pick_at)
  b_law_pick_at : Binds K fd_law_pick_at ["d", "node", "often"] []
  f_law_plan : Addr
  fd_law_plan : FuncData
  F_law_plan : Fun K "_law_plan" "_law_plan" s_law_plan f_law_plan fd_law_plan
  m_law_plan : mg "_law_plan" = some (.ref f_law_plan)
  b_law_plan : Binds K fd_law_plan ["d", "gauge", "web", "many", "often"] []
  f_law_light : Addr
  fd_law_light : FuncData
  F_law_light : Fun K "_law_light" "_law_light" s_law_light f_law_light fd_law_light
  m_law_light : mg "_law_light" = some (.ref f_law_light)
  b_law_light : Binds K fd_law_light ["web"] []
  f_law_case : Addr
  fd_law_case : FuncData
  F_law_case : Fun K "_law_case" "_law_case" s_law_case f_law_case fd_law_case
  m_law_case : mg "_law_case" = some (.ref f_law_case)
  b_law_case : Binds K fd_law_case ["d"] []
  f_law_lines : Addr
  fd_law_lines : FuncData
  F_law_lines : Fun K "_law_lines" "_law_lines" s_law_lines f_law_lines fd_law_lines
  m_law_lines : mg "_law_lines" = some (.ref f_law_lines)
  b_law_lines : Binds K fd_law_lines ["gauge", "web", "plan"] []
  f_law_mean_back : Addr
  fd_law_mean_back : FuncData
  F_law_mean_back : Fun K "_law_mean_back" "_law_mean_back" s_law_mean_back f_law_mean_back fd_law_mean_back
  m_law_mean_back : mg "_law_mean_back" = some (.ref f_law_mean_back)
  b_law_mean_back : Binds K fd_law_mean_back ["gauge", "web", "plan", "lines"] []
  f_law_is_line : Addr
  fd_law_is_line : FuncData
  F_law_is_line : Fun K "_law_is_line" "_law_is_line" s_law_is_line f_law_is_line fd_law_is_line
  m_law_is_line : mg "_law_is_line" = some (.ref f_law_is_line)
  b_law_is_line : Binds K fd_law_is_line ["line"] []
  f_law_is_run : Addr
  fd_law_is_run : FuncData
  F_law_is_run : Fun K "_law_is_run" "_law_is_run" s_law_is_run f_law_is_run fd_law_is_run
  m_law_is_run : mg "_law_is_run" = some (.ref f_law_is_run)
  b_law_is_run : Binds K fd_law_is_run ["told", "mean", "lines"] []
  f_law : Addr
  fd_law : FuncData
  F_law : Fun K "law" "law" s_law f_law fd_law
  m_law : mg "law" = some (.ref f_law)
  b_law : Binds K fd_law ["script"] []
  z_abs : mg "abs" = none
  z_all : mg "all" = none
  z_bool : mg "bool" = none
  g_gcd : mg "gcd" = some (.builtin "math.gcd")
  z_int : mg "int" = none
  z_isinstance : mg "isinstance" = none
  z_len : mg "len" = none
  z_list : mg "list" = none
  z_min : mg "min" = none
  z_range : mg "range" = none
  z_sorted : mg "sorted" = none
  z_sum : mg "sum" = none
  z_tuple : mg "tuple" = none
  a_ONE : Addr
  m_ONE : mg "ONE" = some (.ref a_ONE)
  r_ONE : ∀ H, Rep K H (.tup [(.int 1), (.int 1)]) (.ref a_ONE)
section
variable {P : Program} {w : World} {K : PySem.W.Frag} {mg : Str → Option Value} {base : Heap}
theorem sc_fraction : FnScope ["n", "d", "common"] ["n", "d"] (defScope s_fraction) := ⟨rfl, rfl, rfl, by decide +kernel, rfl, by decide +kernel, by decide +kernel⟩
theorem ok_fraction (T : Txt P K mg) {S : SpD} (len : ∀ ds st R Rx, S ds st R Rx → ds.length = 2) (read : ∀ ds st R Rx, S ds st R Rx → wb_fraction (bodyEd R Rx) (startD 3 ds) st) : FnD P w K mg base 1 T.f_fraction T.fd_fraction ["n", "d"] S :=
  fn_D T.F_fraction sc_fraction len (fun cdv A outer s H E hr tk hp => have nd : (["n", "d", "common"] : List Str).Nodup := sc_fraction.nd
    (jss_cons (js_if (jt_eq hr (jv 1) ji) (jss_one js_never) jss_nil)
    (jss_cons (js_if (jt_lt (jv 1) ji) (jss_one (js_par (i := 0) (j := 1) nd (je_neg (jv 0)) (je_neg (jv 1)))) jss_nil)
    (jss_cons (js_set (i := 2) nd (j_gcd T.g_gcd (ja_cons (jv 0) (ja_cons (jv 1) ja_nil))))
    (jss_one (js_ret (je_tup (ja_cons (j_div (jv 0) (jv 2)) (ja_cons (j_div (jv 1) (jv 2)) ja_nil))))))))) read
theorem sc_plus : FnScope ["a", "b"] ["a", "b"] (defScope s_plus) := ⟨rfl, rfl, rfl, by decide +kernel, rfl, by decide +kernel, by decide +kernel⟩
theorem ok_plus (T : Txt P K mg) {sp_fraction : SpD} (h_fraction : FnD P w K mg base 1 T.f_fraction T.fd_fraction ["n", "d"] sp_fraction) {S : SpD} (len : ∀ ds st R Rx, S ds st R Rx → ds.length = 2) (read : ∀ ds st R Rx, S ds st R Rx → wb_plus sp_fraction (bodyEd R Rx) (startD 2 ds) st) : FnD P w K mg base 2 T.f_plus T.fd_plus ["a", "b"] S :=
  fn_D T.F_plus sc_plus len (fun cdv A outer s H E hr tk hp => have nd : (["a", "b"] : List Str).Nodup := sc_plus.nd
    (jss_one (js_ret (j_call h_fraction (hr.mono (by decide)) T.m_fraction T.F_fraction.kp T.b_fraction tk (ja_cons (j_add (j_mul (j_ix (jv 0) ji) (j_ix (jv 1) ji)) (j_mul (j_ix (jv 1) ji) (j_ix (jv 0) ji))) (ja_cons (j_mul (j_ix (jv 0) ji) (j_ix (jv 1) ji)) ja_nil)))))) read
theorem sc_times : FnScope ["a", "b"] ["a", "b"] (defScope s_times) := ⟨rfl, rfl, rfl, by decide +kernel, rfl, by decide +kernel, by decide +kernel⟩
theorem ok_times (T : Txt P K mg) {sp_fraction : SpD} (h_fraction : FnD P w K mg base 1 T.f_fraction T.fd_fraction ["n", "d"] sp_fraction) {S : SpD} (len : ∀ ds st R Rx, S ds st R Rx → ds.length = 2) (read : ∀ ds st R Rx, S ds st R Rx → wb_times sp_fraction (bodyEd R Rx) (startD 2 ds) st) : FnD P w K mg base 2 T.f_times T.fd_times ["a", "b"] S :=
  fn_D T.F_times sc_times len (fun cdv A outer s H E hr tk hp => have nd : (["a", "b"] : List Str).Nodup := sc_times.nd
    (jss_one (js_ret (j_call h_fraction (hr.mono (by decide)) T.m_fraction T.F_fraction.kp T.b_fraction tk (ja_cons (j_mul (j_ix (jv 0) ji) (j_ix (jv 1) ji)) (ja_cons (j_mul (j_ix (jv 0) ji) (j_ix (jv 1) ji)) ja_nil)))))) read
theorem sc_shared : FnScope ["row", "bottom", "top", "under"] ["row"] (defScope s_shared) := ⟨rfl, rfl, rfl, by decide +kernel, rfl, by decide +kernel, by decide +kernel⟩
theorem ok_shared (T : Txt P K mg) {S : SpD} (len : ∀ ds st R Rx, S ds st R Rx → ds.length = 1) (read : ∀ ds st R Rx, S ds st R Rx → wb_shared (bodyEd R Rx) (startD 4 ds) st) : FnD P w K mg base 1 T.f_shared T.fd_shared ["row"] S :=
  fn_D T.F_shared sc_shared len (fun cdv A outer s H E hr tk hp => have nd : (["row", "bottom", "top", "under"] : List Str).Nodup := sc_shared.nd
    (jss_cons (js_set (i := 1) nd ji)
    (jss_cons (js_for hp (jit (jv 0)) (jg_tup (jgs_cons (jg_name (i := 2) nd) (jgs_cons (jg_name (i := 3) nd) jgs_nil))) (jss_one (js_set (i := 1) nd (j_mul (j_div (jv 1) (j_gcd T.g_gcd (ja_cons (jv 1) (ja_cons (jv 3) ja_nil)))) (jv 3)))))
    (jss_one (js_ret (je_tup (ja_cons (j_tuple T.z_tuple (ja_cons (je_lc (own := [("top", 2), ("under", 3)]) nd (jit (jv 0)) (by kernel_rfl) (bind_tup (is := [2, 3]) (by decide)) (fun _ _ _ _ _ => pg_tup rfl (pgs_cons (pg_name (i := 2) nd rfl (by first | exact Or.inl rfl | exact Or.inr rfl)) (pgs_cons (pg_name (i := 3) nd rfl (by first | exact Or.inl rfl | exact Or.inr rfl)) pgs_nil))) (fun _ _ _ _ _ => jts_nil) (fun _ _ _ _ _ => (j_mul (jv 2) (j_div (jv 1) (jv 3))))) ja_nil)) (ja_cons (jv 1) ja_nil)))))))) read
theorem sc_total : FnScope ["row", "tops", "bottom"] ["row"] (defScope s_total) := ⟨rfl, rfl, rfl, by decide +kernel, rfl, by decide +kernel, by decide +kernel⟩
theorem ok_total (T : Txt P K mg) {sp_shared : SpD} (h_shared : FnD P w K mg base 1 T.f_shared T.fd_shared ["row"] sp_shared) {sp_fraction : SpD} (h_fraction : FnD P w K mg base 1 T.f_fraction T.fd_fraction ["n", "d"] sp_fraction) {S : SpD} (len : ∀ ds st R Rx, S ds st R Rx → ds.length = 1) (read : ∀ ds st R Rx, S ds st R Rx → wb_total sp_shared sp_fraction (bodyEd R Rx) (startD 3 ds) st) : FnD P w K mg base 2 T.f_total T.fd_total ["row"] S :=
  fn_D T.F_total sc_total len (fun cdv A outer s H E hr tk hp => have nd : (["row", "tops", "bottom"] : List Str).Nodup := sc_total.nd
    (jss_cons (js_asg (j_call h_shared (hr.mono (by decide)) T.m_shared T.F_shared.kp T.b_shared tk (ja_cons (jv 0) ja_nil)) (jg_tup (jgs_cons (jg_name (i := 1) nd) (jgs_cons (jg_name (i := 2) nd) jgs_nil))))
    (jss_one (js_ret (j_call h_fraction (hr.mono (by decide)) T.m_fraction T.F_fraction.kp T.b_fraction tk (ja_cons (j_sumA T.z_sum (ja_cons (jv 1) ja_nil)) (ja_cons (jv 2) ja_nil))))))) read
theorem sc_added : FnScope ["table", "key", "amount"] ["table", "key", "amount"] (defScope s_added) := ⟨rfl, rfl, rfl, by decide +kernel, rfl, by decide +kernel, by decide +kernel⟩
theorem ok_added (T : Txt P K mg) {sp_plus : SpD} (h_plus : FnD P w K mg base 2 T.f_plus T.fd_plus ["a", "b"] sp_plus) {S : SpD} (len : ∀ ds st R Rx, S ds st R Rx → ds.length = 3) (read : ∀ ds st R Rx, S ds st R Rx → wb_added sp_plus (bodyEd R Rx) (startD 3 ds) st) : FnD P w K mg base 3 T.f_added T.fd_added ["table", "key", "amount"] S :=
  fn_D T.F_added sc_added len (fun cdv A outer s H E hr tk hp => have nd : (["table", "key", "amount"] : List Str).Nodup := sc_added.nd
    (jss_one (js_if (jt_din hr (jv 1) (jv 0)) (jss_one (js_dput hr (jv 0) (jv 1) (j_call h_plus (hr.mono (by decide)) T.m_plus T.F_plus.kp T.b_plus tk (ja_cons (j_dget hr (jv 0) (jv 1)) (ja_cons (jv 2) ja_nil))))) (jss_one (js_dput hr (jv 0) (jv 1) (jv 2)))))) read
theorem sc_part_of : FnScope ["weight", "corner", "move"] ["weight", "corner"] (defScope s_part_of) := ⟨rfl, rfl, rfl, by decide +kernel, rfl, by decide +kernel, by decide +kernel⟩
theorem ok_part_of (T : Txt P K mg) {sp_fraction : SpD} (h_fraction : FnD P w K mg base 1 T.f_fraction T.fd_fraction ["n", "d"] sp_fraction) {S : SpD} (len : ∀ ds st R Rx, S ds st R Rx → ds.length = 2) (read : ∀ ds st R Rx, S ds st R Rx → wb_part_of sp_fraction (bodyEd R Rx) (startD 3 ds) st) : FnD P w K mg base 2 T.f_part_of T.fd_part_of ["weight", "corner"] S :=
  fn_D T.F_part_of sc_part_of len (fun cdv A outer s H E hr tk hp => have nd : (["weight", "corner", "move"] : List Str).Nodup := sc_part_of.nd
    (jss_one (js_ret (j_call h_fraction (hr.mono (by decide)) T.m_fraction T.F_fraction.kp T.b_fraction tk (ja_cons (jv 0) (ja_cons (j_sumA T.z_sum (ja_cons (je_lc (own := [("move", 2)]) nd (jit (jv 1)) (by kernel_rfl) (bind_name (i := 2) (by decide)) (fun _ _ _ _ _ => pg_name (i := 2) nd rfl (by first | exact Or.inl rfl | exact Or.inr rfl)) (fun _ _ _ _ _ => jts_nil) (fun _ _ _ _ _ => (j_ix (jv 2) ji))) ja_nil)) ja_nil)))))) read
theorem sc_listed : FnScope ["chances", "state", "node"] ["chances"] (defScope s_listed) := ⟨rfl, rfl, rfl, by decide +kernel, rfl, by decide +kernel, by decide +kernel⟩
theorem ok_listed (T : Txt P K mg) {S : SpD} (len : ∀ ds st R Rx, S ds st R Rx → ds.length = 1) (read : ∀ ds st R Rx, S ds st R Rx → wb_listed (bodyEd R Rx) (startD 3 ds) st) : FnD P w K mg base 1 T.f_listed T.fd_listed ["chances"] S :=
  fn_D T.F_listed sc_listed len (fun cdv A outer s H E hr tk hp => have nd : (["chances", "state", "node"] : List Str).Nodup := sc_listed.nd
    (jss_one (js_ret (j_tuple T.z_tuple (ja_cons (je_lc (own := [("state", 1), ("node", 2)]) nd (jit (j_sortedK T.z_sorted (ja_cons (jv 0) ja_nil))) (by kernel_rfl) (bind_tup (is := [1, 2]) (by decide)) (fun _ _ _ _ _ => pg_tup rfl (pgs_cons (pg_name (i := 1) nd rfl (by first | exact Or.inl rfl | exact Or.inr rfl)) (pgs_cons (pg_name (i := 2) nd rfl (by first | exact Or.inl rfl | exact Or.inr rfl)) pgs_nil))) (fun _ _ _ _ _ => jts_nil) (fun _ _ _ _ _ => (je_tup (ja_cons (jv 1) (ja_cons (jv 2) (ja_cons (j_dget hr (jv 0) (je_key (ja_cons (jv 1) (ja_cons (jv 2) ja_nil)))) ja_nil)))))) ja_nil))))) read
theorem sc_run_plan : FnScope ["gauge", "web", "plan", "rows", "shows", "now", "parts", "going", "choice", "later", "state", "node", "chance", "corner", "weight", "letter", "after"] ["gauge", "web", "plan"] (defScope s_run_plan) := ⟨rfl, rfl, rfl, by decide +kernel, rfl, by decide +kernel, by decide +kernel⟩
theorem ok_run_plan (T : Txt P K mg) {sp_listed : SpD} (h_listed : FnD P w K mg base 1 T.f_listed T.fd_listed ["chances"] sp_listed) {sp_times : SpD} (h_times : FnD P w K mg base 2 T.f_times T.fd_times ["a", "b"] sp_times) {sp_added : SpD} (h_added : FnD P w K mg base 3 T.f_added T.fd_added ["table", "key", "amount"] sp_added) {sp_part_of : SpD} (h_part_of : FnD P w K mg base 2 T.f_part_of T.fd_part_of ["weight", "corner"] sp_part_of) {sp_total : SpD} (h_total : FnD P w K mg base 2 T.f_total T.fd_total ["row"] sp_total) {S : SpD} (len : ∀ ds st R Rx, S ds st R Rx → ds.length = 3) (read : ∀ ds st R Rx, S ds st R Rx → wb_run_plan sp_listed sp_times sp_added sp_part_of sp_total (bodyEd R Rx) (startD 17 ds) st) : FnD P w K mg base 4 T.f_run_plan T.fd_run_plan ["gauge", "web", "plan"] S :=
  fn_D T.F_run_plan sc_run_plan len (fun cdv A outer s H E hr tk hp => have nd : (["gauge", "web", "plan", "rows", "shows", "now", "parts", "going", "choice", "later", "state", "node", "chance", "corner", "weight", "letter", "after"] : List Str).Nodup := sc_run_plan.nd
    (jss_cons (js_par (i := 3) (j := 4) nd (j_ix (jv 0) ji) (j_ix (jv 0) ji))
    (jss_cons (js_set (i := 5) nd (j_disp1 hr (je_key (ja_cons ji (ja_cons ji ja_nil))) (jk T.m_ONE T.r_ONE)))
    (jss_cons (js_set (i := 6) nd (je_lst ja_nil))
    (jss_cons (js_set (i := 7) nd (je_lst (ja_cons (j_call h_listed (hr.mono (by decide)) T.m_listed T.F_listed.kp T.b_listed tk (ja_cons (jv 5) ja_nil)) ja_nil)))
    (jss_cons (js_for hp (jit (jv 2)) (jg_name (i := 8) nd) (jss_cons (js_set (i := 9) nd j_dnewT)
    (jss_cons (js_lock (js_for hp (jikeys (jv 5)) (jg_tup (jgs_cons (jg_name (i := 10) nd) (jgs_cons (jg_name (i := 11) nd) jgs_nil))) (jss_cons (js_set (i := 12) nd (j_dget hr (jv 5) (je_key (ja_cons (jv 10) (ja_cons (jv 11) ja_nil)))))
    (jss_one (js_if (jt_lt (j_ix (j_ix (jv 8) (jv 10)) (jv 11)) ji) (jss_one (js_expr (j_append (jv 6) (ja_cons (j_call h_times (hr.mono (by decide)) T.m_times T.F_times.kp T.b_times tk (ja_cons (jv 12) (ja_cons (j_ix (jv 4) (jv 10)) ja_nil))) ja_nil)))) (jss_cons (js_set (i := 13) nd (j_ix (j_ix (jv 1) (jv 11)) (j_ix (j_ix (jv 8) (jv 10)) (jv 11))))
    (jss_one (js_for hp (jit (jv 13)) (jg_tup (jgs_cons (jg_name (i := 14) nd) (jgs_cons (jg_name (i := 15) nd) (jgs_cons (jg_name (i := 16) nd) jgs_nil)))) (jss_one (js_expr (j_call h_added (hr.mono (by decide)) T.m_added T.F_added.kp T.b_added tk (ja_cons (jv 9) (ja_cons (je_key (ja_cons (j_ix (j_ix (jv 3) (jv 10)) (jv 15)) (ja_cons (jv 16) ja_nil))) (ja_cons (j_call h_times (hr.mono (by decide)) T.m_times T.F_times.kp T.b_times tk (ja_cons (jv 12) (ja_cons (j_call h_part_of (hr.mono (by decide)) T.m_part_of T.F_part_of.kp T.b_part_of tk (ja_cons (jv 14) (ja_cons (jv 13) ja_nil))) ja_nil))) ja_nil))))))))))))))
    (jss_cons (js_set (i := 5) nd (jv 9))
    (jss_one (js_expr (j_append (jv 7) (ja_cons (j_call h_listed (hr.mono (by decide)) T.m_listed T.F_listed.kp T.b_listed tk (ja_cons (jv 5) ja_nil)) ja_nil))))))))
    (jss_cons (js_lock (js_for hp (jikeys (jv 5)) (jg_tup (jgs_cons (jg_name (i := 10) nd) (jgs_cons (jg_name (i := 11) nd) jgs_nil))) (jss_one (js_expr (j_append (jv 6) (ja_cons (j_call h_times (hr.mono (by decide)) T.m_times T.F_times.kp T.b_times tk (ja_cons (j_dget hr (jv 5) (je_key (ja_cons (jv 10) (ja_cons (jv 11) ja_nil)))) (ja_cons (j_ix (jv 4) (jv 10)) ja_nil))) ja_nil))))))
    (jss_one (js_ret (je_tup (ja_cons (j_call h_total (hr.mono (by decide)) T.m_total T.F_total.kp T.b_total tk (ja_cons (jv 6) ja_nil)) (ja_cons (j_tuple T.z_tuple (ja_cons (jv 7) ja_nil)) ja_nil)))))))))))) read
theorem sc_law_begin : FnScope ["script", "cell"] ["script"] (defScope s_law_begin) := ⟨rfl, rfl, rfl, by decide +kernel, rfl, by decide +kernel, by decide +kernel⟩
theorem ok_law_begin (T : Txt P K mg) {S : SpD} (len : ∀ ds st R Rx, S ds st R Rx → ds.length = 1) (read : ∀ ds st R Rx, S ds st R Rx → wb_law_begin (bodyEd R Rx) (startD 2 ds) st) : FnD P w K mg base 1 T.f_law_begin T.fd_law_begin ["script"] S :=
  fn_D T.F_law_begin sc_law_begin len (fun cdv A outer s H E hr tk hp => have nd : (["script", "cell"] : List Str).Nodup := sc_law_begin.nd
    (jss_one (js_ret (je_lst (ja_cons (je_lc (own := [("cell", 1)]) nd (jit (jv 0)) (by kernel_rfl) (bind_name (i := 1) (by decide)) (fun _ _ _ _ _ => pg_name (i := 1) nd rfl (by first | exact Or.inl rfl | exact Or.inr rfl)) (fun _ _ _ _ _ => jts_nil) (fun _ _ _ _ _ => (j_int T.z_int (ja_cons (jv 1) ja_nil)))) (ja_cons ji (ja_cons ji (ja_cons ji ja_nil)))))))) read
theorem sc_law_draw : FnScope ["d", "many", "found", "size", "cell"] ["d", "many"] (defScope s_law_draw) := ⟨rfl, rfl, rfl, by decide +kernel, rfl, by decide +kernel, by decide +kernel⟩
theorem ok_law_draw (T : Txt P K mg) {S : SpD} (len : ∀ ds st R Rx, S ds st R Rx → ds.length = 2) (read : ∀ ds st R Rx, S ds st R Rx → wb_law_draw (bodyEd R Rx) (startD 5 ds) st) : FnD P w K mg base 1 T.f_law_draw T.fd_law_draw ["d", "many"] S :=
  fn_D T.F_law_draw sc_law_draw len (fun cdv A outer s H E hr tk hp => have nd : (["d", "many", "found", "size", "cell"] : List Str).Nodup := sc_law_draw.nd
    (jss_cons (js_if (jt_gt (j_ix (jv 0) ji) ji) (jss_cons (js_set (i := 2) nd (j_ix (jv 0) ji))
    (jss_cons (js_asg (j_div (jv 2) (jv 1)) (jg_ix (jv 0) ji))
    (jss_one (js_ret (j_mod (j_int T.z_int (ja_cons (jv 2) ja_nil)) (jv 1)))))) jss_nil)
    (jss_cons (js_set (i := 3) nd ji)
    (jss_cons (js_if (jt_lt (j_ix (jv 0) ji) (j_len T.z_len (ja_cons (j_ix (jv 0) ji) ja_nil))) (jss_cons (js_set (i := 4) nd (j_ix (j_ix (jv 0) ji) (j_ix (jv 0) ji)))
    (jss_one (js_set (i := 3) nd (j_add (j_mul ji (j_abs T.z_abs (ja_cons (jv 4) ja_nil))) (j_int T.z_int (ja_cons (jc_lt (jv 4) ji) ja_nil)))))) jss_nil)
    (jss_cons (js_augix (jv 0) ji iop_addA sim_iadd ji)
    (jss_cons (js_if (jt_ge (jv 3) (j_mul ji (j_pow ji ji))) (jss_cons (js_set (i := 2) nd (j_mod (j_int T.z_int (ja_cons (j_div (jv 3) ji) ja_nil)) (j_shl ji ji)))
    (jss_cons (js_asg (j_div (jv 2) (jv 1)) (jg_ix (jv 0) ji))
    (jss_one (js_ret (j_mod (j_int T.z_int (ja_cons (jv 2) ja_nil)) (jv 1)))))) jss_nil)
    (jss_cons (js_asg (j_mod (j_int T.z_int (ja_cons (j_add (j_add (j_add (j_mul (j_ix (jv 0) ji) ji) (j_mul (j_mod (j_int T.z_int (ja_cons (jv 3) ja_nil)) ji) ji)) (j_mul (j_ix (jv 0) ji) ji)) ji) ja_nil)) ji) (jg_ix (jv 0) ji))
    (jss_one (js_ret (j_mod (j_int T.z_int (ja_cons (j_div (j_ix (jv 0) ji) ji) ja_nil)) (jv 1))))))))))) read
theorem sc_law_rare : FnScope ["d", "many"] ["d", "many"] (defScope s_law_rare) := ⟨rfl, rfl, rfl, by decide +kernel, rfl, by decide +kernel, by decide +kernel⟩
theorem ok_law_rare (T : Txt P K mg) {sp_law_draw : SpD} (h_law_draw : FnD P w K mg base 1 T.f_law_draw T.fd_law_draw ["d", "many"] sp_law_draw) {S : SpD} (len : ∀ ds st R Rx, S ds st R Rx → ds.length = 2) (read : ∀ ds st R Rx, S ds st R Rx → wb_law_rare sp_law_draw (bodyEd R Rx) (startD 2 ds) st) : FnD P w K mg base 2 T.f_law_rare T.fd_law_rare ["d", "many"] S :=
  fn_D T.F_law_rare sc_law_rare len (fun cdv A outer s H E hr tk hp => have nd : (["d", "many"] : List Str).Nodup := sc_law_rare.nd
    (jss_one (js_ret (jc_eq hr (j_call h_law_draw (hr.mono (by decide)) T.m_law_draw T.F_law_draw.kp T.b_law_draw tk (ja_cons (jv 0) (ja_cons (jv 1) ja_nil))) (j_div (jv 1) ji))))) read
theorem sc_law_shuffled : FnScope ["d", "row", "left", "found", "k"] ["d", "row"] (defScope s_law_shuffled) := ⟨rfl, rfl, rfl, by decide +kernel, rfl, by decide +kernel, by decide +kernel⟩
theorem ok_law_shuffled (T : Txt P K mg) {sp_law_draw : SpD} (h_law_draw : FnD P w K mg base 1 T.f_law_draw T.fd_law_draw ["d", "many"] sp_law_draw) {S : SpD} (len : ∀ ds st R Rx, S ds st R Rx → ds.length = 2) (read : ∀ ds st R Rx, S ds st R Rx → wb_law_shuffled sp_law_draw (bodyEd R Rx) (startD 5 ds) st) : FnD P w K mg base 2 T.f_law_shuffled T.fd_law_shuffled ["d", "row"] S :=
  fn_D T.F_law_shuffled sc_law_shuffled len (fun cdv A outer s H E hr tk hp => have nd : (["d", "row", "left", "found", "k"] : List Str).Nodup := sc_law_shuffled.nd
    (jss_cons (js_set (i := 2) nd (j_list T.z_list (ja_cons (jv 1) ja_nil)))
    (jss_cons (js_set (i := 3) nd (je_lst ja_nil))
    (jss_cons (js_for hp (jir1 T.z_range (ja_cons (j_len T.z_len (ja_cons (jv 2) ja_nil)) ja_nil)) (jg_name (i := 4) nd) (jss_one (js_expr (j_append (jv 3) (ja_cons (j_popAt (jv 2) (ja_cons (j_call h_law_draw (hr.mono (by decide)) T.m_law_draw T.F_law_draw.kp T.b_law_draw tk (ja_cons (jv 0) (ja_cons (j_len T.z_len (ja_cons (jv 2) ja_nil)) ja_nil))) ja_nil)) ja_nil)))))
    (jss_one (js_ret (jv 3))))))) read
theorem sc_law_is_int : FnScope ["thing"] ["thing"] (defScope s_law_is_int) := ⟨rfl, rfl, rfl, by decide +kernel, rfl, by decide +kernel, by decide +kernel⟩
theorem ok_law_is_int (T : Txt P K mg) {S : SpD} (len : ∀ ds st R Rx, S ds st R Rx → ds.length = 1) (read : ∀ ds st R Rx, S ds st R Rx → wb_law_is_int (bodyEd R Rx) (startD 1 ds) st) : FnD P w K mg base 1 T.f_law_is_int T.fd_law_is_int ["thing"] S :=
  fn_D T.F_law_is_int sc_law_is_int len (fun cdv A outer s H E hr tk hp => have nd : (["thing"] : List Str).Nodup := sc_law_is_int.nd
    (jss_one (js_ret (je_and (j_isi .int T.z_isinstance T.z_int (by decide +kernel) (jv 0)) (je_one (je_not (j_isi .bool T.z_isinstance T.z_bool (by decide +kernel) (jv 0)))))))) read
theorem sc_law_gcd : FnScope ["a", "b"] ["a", "b"] (defScope s_law_gcd) := ⟨rfl, rfl, rfl, by decide +kernel, rfl, by decide +kernel, by decide +kernel⟩
theorem ok_law_gcd (T : Txt P K mg) {S : SpD} (len : ∀ ds st R Rx, S ds st R Rx → ds.length = 2) (read : ∀ ds st R Rx, S ds st R Rx → wb_law_gcd (bodyEd R Rx) (startD 2 ds) st) : FnD P w K mg base 1 T.f_law_gcd T.fd_law_gcd ["a", "b"] S :=
  fn_D T.F_law_gcd sc_law_gcd len (fun cdv A outer s H E hr tk hp => have nd : (["a", "b"] : List Str).Nodup := sc_law_gcd.nd
    (jss_cons (js_par (i := 0) (j := 1) nd (j_abs T.z_abs (ja_cons (jv 0) ja_nil)) (j_abs T.z_abs (ja_cons (jv 1) ja_nil)))
    (jss_cons (js_while hp (jt_ne hr (jv 1) ji) (jss_one (js_par (i := 0) (j := 1) nd (jv 1) (j_mod (j_int T.z_int (ja_cons (jv 0) ja_nil)) (jv 1)))))
    (jss_one (js_ret (jv 0)))))) read
theorem sc_law_frac : FnScope ["n", "d", "common"] ["n", "d"] (defScope s_law_frac) := ⟨rfl, rfl, rfl, by decide +kernel, rfl, by decide +kernel, by decide +kernel⟩
theorem ok_law_frac (T : Txt P K mg) {sp_law_gcd : SpD} (h_law_gcd : FnD P w K mg base 1 T.f_law_gcd T.fd_law_gcd ["a", "b"] sp_law_gcd) {S : SpD} (len : ∀ ds st R Rx, S ds st R Rx → ds.length = 2) (read : ∀ ds st R Rx, S ds st R Rx → wb_law_frac sp_law_gcd (bodyEd R Rx) (startD 3 ds) st) : FnD P w K mg base 2 T.f_law_frac T.fd_law_frac ["n", "d"] S :=
  fn_D T.F_law_frac sc_law_frac len (fun cdv A outer s H E hr tk hp => have nd : (["n", "d", "common"] : List Str).Nodup := sc_law_frac.nd
    (jss_cons (js_if (jt_lt (jv 1) ji) (jss_one (js_par (i := 0) (j := 1) nd (je_neg (jv 0)) (je_neg (jv 1)))) jss_nil)
    (jss_cons (js_set (i := 2) nd (j_call h_law_gcd (hr.mono (by decide)) T.m_law_gcd T.F_law_gcd.kp T.b_law_gcd tk (ja_cons (jv 0) (ja_cons (jv 1) ja_nil))))
    (jss_one (js_ret (je_tup (ja_cons (j_div (jv 0) (jv 2)) (ja_cons (j_div (jv 1) (jv 2)) ja_nil)))))))) read
theorem sc_law_is_frac : FnScope ["thing"] ["thing"] (defScope s_law_is_frac) := ⟨rfl, rfl, rfl, by decide +kernel, rfl, by decide +kernel, by decide +kernel⟩
theorem ok_law_is_frac (T : Txt P K mg) {sp_law_is_int : SpD} (h_law_is_int : FnD P w K mg base 1 T.f_law_is_int T.fd_law_is_int ["thing"] sp_law_is_int) {sp_law_gcd : SpD} (h_law_gcd : FnD P w K mg base 1 T.f_law_gcd T.fd_law_gcd ["a", "b"] sp_law_gcd) {S : SpD} (len : ∀ ds st R Rx, S ds st R Rx → ds.length = 1) (read : ∀ ds st R Rx, S ds st R Rx → wb_law_is_frac sp_law_is_int sp_law_gcd (bodyEd R Rx) (startD 1 ds) st) : FnD P w K mg base 2 T.f_law_is_frac T.fd_law_is_frac ["thing"] S :=
  fn_D T.F_law_is_frac sc_law_is_frac len (fun cdv A outer s H E hr tk hp => have nd : (["thing"] : List Str).Nodup := sc_law_is_frac.nd
    (jss_cons (js_if (jw_t (jw_or (jt_not (jt_val (j_isi .tup T.z_isinstance T.z_tuple (by decide +kernel) (jv 0)))) (jw_or1 (jt_ne hr (j_len T.z_len (ja_cons (jv 0) ja_nil)) ji)))) (jss_one (js_ret jb)) jss_nil)
    (jss_cons (js_if (jt_not (jw_t (jw_and (jt_val (j_call h_law_is_int (hr.mono (by decide)) T.m_law_is_int T.F_law_is_int.kp T.b_law_is_int tk (ja_cons (j_ix (jv 0) ji) ja_nil))) (jw_and1 (jt_val (j_call h_law_is_int (hr.mono (by decide)) T.m_law_is_int T.F_law_is_int.kp T.b_law_is_int tk (ja_cons (j_ix (jv 0) ji) ja_nil))))))) (jss_one (js_ret jb)) jss_nil)
    (jss_one (js_ret (je_and (jc_ge (j_ix (jv 0) ji) ji) (je_one (jc_eq hr (j_call h_law_gcd (hr.mono (by decide)) T.m_law_gcd T.F_law_gcd.kp T.b_law_gcd tk (ja_cons (j_ix (jv 0) ji) (ja_cons (j_ix (jv 0) ji) ja_nil))) ji)))))))) read
theorem sc_law_plus : FnScope ["a", "b"] ["a", "b"] (defScope s_law_plus) := ⟨rfl, rfl, rfl, by decide +kernel, rfl, by decide +kernel, by decide +kernel⟩
theorem ok_law_plus (T : Txt P K mg) {sp_law_frac : SpD} (h_law_frac : FnD P w K mg base 2 T.f_law_frac T.fd_law_frac ["n", "d"] sp_law_frac) {S : SpD} (len : ∀ ds st R Rx, S ds st R Rx → ds.length = 2) (read : ∀ ds st R Rx, S ds st R Rx → wb_law_plus sp_law_frac (bodyEd R Rx) (startD 2 ds) st) : FnD P w K mg base 3 T.f_law_plus T.fd_law_plus ["a", "b"] S :=
  fn_D T.F_law_plus sc_law_plus len (fun cdv A outer s H E hr tk hp => have nd : (["a", "b"] : List Str).Nodup := sc_law_plus.nd
    (jss_one (js_ret (j_call h_law_frac (hr.mono (by decide)) T.m_law_frac T.F_law_frac.kp T.b_law_frac tk (ja_cons (j_add (j_mul (j_ix (jv 0) ji) (j_ix (jv 1) ji)) (j_mul (j_ix (jv 1) ji) (j_ix (jv 0) ji))) (ja_cons (j_mul (j_ix (jv 0) ji) (j_ix (jv 1) ji)) ja_nil)))))) read
theorem sc_law_times : FnScope ["a", "b"] ["a", "b"] (defScope s_law_times) := ⟨rfl, rfl, rfl, by decide +kernel, rfl, by decide +kernel, by decide +kernel⟩
theorem ok_law_times (T : Txt P K mg) {sp_law_frac : SpD} (h_law_frac : FnD P w K mg base 2 T.f_law_frac T.fd_law_frac ["n", "d"] sp_law_frac) {S : SpD} (len : ∀ ds st R Rx, S ds st R Rx → ds.length = 2) (read : ∀ ds st R Rx, S ds st R Rx → wb_law_times sp_law_frac (bodyEd R Rx) (startD 2 ds) st) : FnD P w K mg base 3 T.f_law_times T.fd_law_times ["a", "b"] S :=
  fn_D T.F_law_times sc_law_times len (fun cdv A outer s H E hr tk hp => have nd : (["a", "b"] : List Str).Nodup := sc_law_times.nd
    (jss_one (js_ret (j_call h_law_frac (hr.mono (by decide)) T.m_law_frac T.F_law_frac.kp T.b_law_frac tk (ja_cons (j_mul (j_ix (jv 0) ji) (j_ix (jv 1) ji)) (ja_cons (j_mul (j_ix (jv 0) ji) (j_ix (jv 1) ji)) ja_nil)))))) read
theorem sc_law_over : FnScope ["a", "b"] ["a", "b"] (defScope s_law_over) := ⟨rfl, rfl, rfl, by decide +kernel, rfl, by decide +kernel, by decide +kernel⟩
theorem ok_law_over (T : Txt P K mg) {sp_law_frac : SpD} (h_law_frac : FnD P w K mg base 2 T.f_law_frac T.fd_law_frac ["n", "d"] sp_law_frac) {S : SpD} (len : ∀ ds st R Rx, S ds st R Rx → ds.length = 2) (read : ∀ ds st R Rx, S ds st R Rx → wb_law_over sp_law_frac (bodyEd R Rx) (startD 2 ds) st) : FnD P w K mg base 3 T.f_law_over T.fd_law_over ["a", "b"] S :=
  fn_D T.F_law_over sc_law_over len (fun cdv A outer s H E hr tk hp => have nd : (["a", "b"] : List Str).Nodup := sc_law_over.nd
    (jss_one (js_ret (j_call h_law_frac (hr.mono (by decide)) T.m_law_frac T.F_law_frac.kp T.b_law_frac tk (ja_cons (j_mul (j_ix (jv 0) ji) (j_ix (jv 1) ji)) (ja_cons (j_mul (j_ix (jv 0) ji) (j_ix (jv 1) ji)) ja_nil)))))) read
theorem sc_law_sum : FnScope ["row", "top", "bottom", "n", "d", "common"] ["row"] (defScope s_law_sum) := ⟨rfl, rfl, rfl, by decide +kernel, rfl, by decide +kernel, by decide +kernel⟩
theorem ok_law_sum (T : Txt P K mg) {sp_law_gcd : SpD} (h_law_gcd : FnD P w K mg base 1 T.f_law_gcd T.fd_law_gcd ["a", "b"] sp_law_gcd) {sp_law_frac : SpD} (h_law_frac : FnD P w K mg base 2 T.f_law_frac T.fd_law_frac ["n", "d"] sp_law_frac) {S : SpD} (len : ∀ ds st R Rx, S ds st R Rx → ds.length = 1) (read : ∀ ds st R Rx, S ds st R Rx → wb_law_sum sp_law_gcd sp_law_frac (bodyEd R Rx) (startD 6 ds) st) : FnD P w K mg base 3 T.f_law_sum T.fd_law_sum ["row"] S :=
  fn_D T.F_law_sum sc_law_sum len (fun cdv A outer s H E hr tk hp => have nd : (["row", "top", "bottom", "n", "d", "common"] : List Str).Nodup := sc_law_sum.nd
    (jss_cons (js_asg (je_tup (ja_cons ji (ja_cons ji ja_nil))) (jg_tup (jgs_cons (jg_name (i := 1) nd) (jgs_cons (jg_name (i := 2) nd) jgs_nil))))
    (jss_cons (js_for hp (jit (jv 0)) (jg_tup (jgs_cons (jg_name (i := 3) nd) (jgs_cons (jg_name (i := 4) nd) jgs_nil))) (jss_cons (js_set (i := 5) nd (j_call h_law_gcd (hr.mono (by decide)) T.m_law_gcd T.F_law_gcd.kp T.b_law_gcd tk (ja_cons (jv 2) (ja_cons (jv 4) ja_nil))))
    (jss_one (js_par (i := 1) (j := 2) nd (j_add (j_mul (jv 1) (j_div (jv 4) (jv 5))) (j_mul (jv 3) (j_div (jv 2) (jv 5)))) (j_mul (jv 2) (j_div (jv 4) (jv 5)))))))
    (jss_one (js_ret (j_call h_law_frac (hr.mono (by decide)) T.m_law_frac T.F_law_frac.kp T.b_law_frac tk (ja_cons (jv 1) (ja_cons (jv 2) ja_nil)))))))) read
theorem sc_law_fraction : FnScope ["d", "top", "bottom"] ["d", "top", "bottom"] (defScope s_law_fraction) := ⟨rfl, rfl, rfl, by decide +kernel, rfl, by decide +kernel, by decide +kernel⟩
theorem ok_law_fraction (T : Txt P K mg) {sp_law_frac : SpD} (h_law_frac : FnD P w K mg base 2 T.f_law_frac T.fd_law_frac ["n", "d"] sp_law_frac) {sp_law_draw : SpD} (h_law_draw : FnD P w K mg base 1 T.f_law_draw T.fd_law_draw ["d", "many"] sp_law_draw) {S : SpD} (len : ∀ ds st R Rx, S ds st R Rx → ds.length = 3) (read : ∀ ds st R Rx, S ds st R Rx → wb_law_fraction sp_law_frac sp_law_draw (bodyEd R Rx) (startD 3 ds) st) : FnD P w K mg base 3 T.f_law_fraction T.fd_law_fraction ["d", "top", "bottom"] S :=
  fn_D T.F_law_fraction sc_law_fraction len (fun cdv A outer s H E hr tk hp => have nd : (["d", "top", "bottom"] : List Str).Nodup := sc_law_fraction.nd
    (jss_one (js_ret (j_call h_law_frac (hr.mono (by decide)) T.m_law_frac T.F_law_frac.kp T.b_law_frac tk (ja_cons (j_call h_law_draw (hr.mono (by decide)) T.m_law_draw T.F_law_draw.kp T.b_law_draw tk (ja_cons (jv 0) (ja_cons (j_add (jv 1) ji) ja_nil))) (ja_cons (j_add ji (j_call h_law_draw (hr.mono (by decide)) T.m_law_draw T.F_law_draw.kp T.b_law_draw tk (ja_cons (jv 0) (ja_cons (jv 2) ja_nil)))) ja_nil)))))) read
theorem sc_law_weight : FnScope ["d"] ["d"] (defScope s_law_weight) := ⟨rfl, rfl, rfl, by decide +kernel, rfl, by decide +kernel, by decide +kernel⟩
theorem ok_law_weight (T : Txt P K mg) {sp_law_rare : SpD} (h_law_rare : FnD P w K mg base 2 T.f_law_rare T.fd_law_rare ["d", "many"] sp_law_rare) {sp_law_draw : SpD} (h_law_draw : FnD P w K mg base 1 T.f_law_draw T.fd_law_draw ["d", "many"] sp_law_draw) {S : SpD} (len : ∀ ds st R Rx, S ds st R Rx → ds.length = 1) (read : ∀ ds st R Rx, S ds st R Rx → wb_law_weight sp_law_rare sp_law_draw (bodyEd R Rx) (startD 1 ds) st) : FnD P w K mg base 3 T.f_law_weight T.fd_law_weight ["d"] S :=
  fn_D T.F_law_weight sc_law_weight len (fun cdv A outer s H E hr tk hp => have nd : (["d"] : List Str).Nodup := sc_law_weight.nd
    (jss_cons (js_if (jt_val (j_call h_law_rare (hr.mono (by decide)) T.m_law_rare T.F_law_rare.kp T.b_law_rare tk (ja_cons (jv 0) (ja_cons ji ja_nil)))) (jss_one (js_ret (j_add ji (j_call h_law_draw (hr.mono (by decide)) T.m_law_draw T.F_law_draw.kp T.b_law_draw tk (ja_cons (jv 0) (ja_cons ji ja_nil)))))) jss_nil)
    (jss_one (js_ret (j_add ji (j_call h_law_draw (hr.mono (by decide)) T.m_law_draw T.F_law_draw.kp T.b_law_draw tk (ja_cons (jv 0) (ja_cons ji ja_nil)))))))) read
theorem sc_law_corner : FnScope ["d", "letters", "nodes", "most", "pairs", "letter", "ends", "end", "after"] ["d", "letters", "nodes", "most"] (defScope s_law_corner) := ⟨rfl, rfl, rfl, by decide +kernel, rfl, by decide +kernel, by decide +kernel⟩
theorem ok_law_corner (T : Txt P K mg) {sp_law_shuffled : SpD} (h_law_shuffled : FnD P w K mg base 2 T.f_law_shuffled T.fd_law_shuffled ["d", "row"] sp_law_shuffled) {sp_law_draw : SpD} (h_law_draw : FnD P w K mg base 1 T.f_law_draw T.fd_law_draw ["d", "many"] sp_law_draw) {sp_law_weight : SpD} (h_law_weight : FnD P w K mg base 3 T.f_law_weight T.fd_law_weight ["d"] sp_law_weight) {S : SpD} (len : ∀ ds st R Rx, S ds st R Rx → ds.length = 4) (read : ∀ ds st R Rx, S ds st R Rx → wb_law_corner sp_law_shuffled sp_law_draw sp_law_weight (bodyEd R Rx) (startD 9 ds) st) : FnD P w K mg base 4 T.f_law_corner T.fd_law_corner ["d", "letters", "nodes", "most"] S :=
  fn_D T.F_law_corner sc_law_corner len (fun cdv A outer s H E hr tk hp => have nd : (["d", "letters", "nodes", "most", "pairs", "letter", "ends", "end", "after"] : List Str).Nodup := sc_law_corner.nd
    (jss_cons (js_set (i := 4) nd (je_lst ja_nil))
    (jss_cons (js_for hp (jir1 T.z_range (ja_cons (jv 1) ja_nil)) (jg_name (i := 5) nd) (jss_one (js_expr (j_extend (jv 4) (ja_cons (je_lc (own := [("after", 8)]) nd (jir1 T.z_range (ja_cons (jv 2) ja_nil)) (by kernel_rfl) (bind_name (i := 8) (by decide)) (fun _ _ _ _ _ => pg_name (i := 8) nd rfl (by first | exact Or.inl rfl | exact Or.inr rfl)) (fun _ _ _ _ _ => jts_nil) (fun _ _ _ _ _ => (je_tup (ja_cons (jv 5) (ja_cons (jv 8) ja_nil))))) ja_nil)))))
    (jss_cons (js_set (i := 6) nd (j_sl (j_call h_law_shuffled (hr.mono (by decide)) T.m_law_shuffled T.F_law_shuffled.kp T.b_law_shuffled tk (ja_cons (jv 0) (ja_cons (jv 4) ja_nil))) jo_none (jo_some (j_min2 T.z_min (ja_cons (j_len T.z_len (ja_cons (jv 4) ja_nil)) (ja_cons (j_add ji (j_call h_law_draw (hr.mono (by decide)) T.m_law_draw T.F_law_draw.kp T.b_law_draw tk (ja_cons (jv 0) (ja_cons (jv 3) ja_nil)))) ja_nil))))))
    (jss_one (js_ret (j_tuple T.z_tuple (ja_cons (je_lc (own := [("end", 7)]) nd (jit (j_sorted T.z_sorted (ja_cons (jv 6) ja_nil))) (by kernel_rfl) (bind_name (i := 7) (by decide)) (fun _ _ _ _ _ => pg_name (i := 7) nd rfl (by first | exact Or.inl rfl | exact Or.inr rfl)) (fun _ _ _ _ _ => jts_nil) (fun _ _ _ _ _ => (je_tup (ja_cons (j_call h_law_weight (hr.mono (by decide)) T.m_law_weight T.F_law_weight.kp T.b_law_weight takes_no (ja_cons (jv 0) ja_nil)) (ja_cons (j_ix (jv 7) ji) (ja_cons (j_ix (jv 7) ji) ja_nil)))))) ja_nil)))))))) read
theorem sc_law_web : FnScope ["d", "letters", "nodes", "corners", "most", "found", "node", "k"] ["d", "letters", "nodes", "corners", "most"] (defScope s_law_web) := ⟨rfl, rfl, rfl, by decide +kernel, rfl, by decide +kernel, by decide +kernel⟩
theorem ok_law_web (T : Txt P K mg) {sp_law_draw : SpD} (h_law_draw : FnD P w K mg base 1 T.f_law_draw T.fd_law_draw ["d", "many"] sp_law_draw) {sp_law_corner : SpD} (h_law_corner : FnD P w K mg base 4 T.f_law_corner T.fd_law_corner ["d", "letters", "nodes", "most"] sp_law_corner) {S : SpD} (len : ∀ ds st R Rx, S ds st R Rx → ds.length = 5) (read : ∀ ds st R Rx, S ds st R Rx → wb_law_web sp_law_draw sp_law_corner (bodyEd R Rx) (startD 8 ds) st) : FnD P w K mg base 5 T.f_law_web T.fd_law_web ["d", "letters", "nodes", "corners", "most"] S :=
  fn_D T.F_law_web sc_law_web len (fun cdv A outer s H E hr tk hp => have nd : (["d", "letters", "nodes", "corners", "most", "found", "node", "k"] : List Str).Nodup := sc_law_web.nd
    (jss_cons (js_set (i := 5) nd (je_lst ja_nil))
    (jss_cons (js_for hp (jir1 T.z_range (ja_cons (jv 2) ja_nil)) (jg_name (i := 6) nd) (jss_one (js_if (jw_t (jw_and (jt_gt (jv 6) ji) (jw_and1 (jt_eq hr (j_call h_law_draw (hr.mono (by decide)) T.m_law_draw T.F_law_draw.kp T.b_law_draw tk (ja_cons (jv 0) (ja_cons ji ja_nil))) ji)))) (jss_one (js_expr (j_append (jv 5) (ja_cons (je_tup ja_nil) ja_nil)))) (jss_one (js_expr (j_append (jv 5) (ja_cons (j_tuple T.z_tuple (ja_cons (je_lc (own := [("k", 7)]) nd (jir1 T.z_range (ja_cons (j_add ji (j_call h_law_draw (hr.mono (by decide)) T.m_law_draw T.F_law_draw.kp T.b_law_draw tk (ja_cons (jv 0) (ja_cons (jv 3) ja_nil)))) ja_nil)) (by kernel_rfl) (bind_name (i := 7) (by decide)) (fun _ _ _ _ _ => pg_name (i := 7) nd rfl (by first | exact Or.inl rfl | exact Or.inr rfl)) (fun _ _ _ _ _ => jts_nil) (fun _ _ _ _ _ => (j_call h_law_corner (hr.mono (by decide)) T.m_law_corner T.F_law_corner.kp T.b_law_corner takes_no (ja_cons (jv 0) (ja_cons (jv 1) (ja_cons (jv 2) (ja_cons (jv 4) ja_nil))))))) ja_nil)) ja_nil)))))))
    (jss_one (js_ret (j_tuple T.z_tuple (ja_cons (jv 5) ja_nil))))))) read
theorem sc_law_rows_of_states : FnScope ["d", "letters", "states", "state", "letter"] ["d", "letters", "states"] (defScope s_law_rows_of_states) := ⟨rfl, rfl, rfl, by decide +kernel, rfl, by decide +kernel, by decide +kernel⟩
theorem ok_law_rows_of_states (T : Txt P K mg) {sp_law_draw : SpD} (h_law_draw : FnD P w K mg base 1 T.f_law_draw T.fd_law_draw ["d", "many"] sp_law_draw) {S : SpD} (len : ∀ ds st R Rx, S ds st R Rx → ds.length = 3) (read : ∀ ds st R Rx, S ds st R Rx → wb_law_rows_of_states sp_law_draw (bodyEd R Rx) (startD 5 ds) st) : FnD P w K mg base 2 T.f_law_rows_of_states T.fd_law_rows_of_states ["d", "letters", "states"] S :=
  fn_D T.F_law_rows_of_states sc_law_rows_of_states len (fun cdv A outer s H E hr tk hp => have nd : (["d", "letters", "states", "state", "letter"] : List Str).Nodup := sc_law_rows_of_states.nd
    (jss_one (js_ret (j_tuple T.z_tuple (ja_cons (je_lc (own := [("state", 3)]) nd (jir1 T.z_range (ja_cons (jv 2) ja_nil)) (by kernel_rfl) (bind_name (i := 3) (by decide)) (fun _ _ _ _ _ => pg_name (i := 3) nd rfl (by first | exact Or.inl rfl | exact Or.inr rfl)) (fun _ _ _ _ _ => jts_nil) (fun _ _ _ _ _ => (j_tuple T.z_tuple (ja_cons (je_lc (own := [("letter", 4)]) nd (jir1 T.z_range (ja_cons (jv 1) ja_nil)) (by kernel_rfl) (bind_name (i := 4) (by decide)) (fun _ _ _ _ _ => pg_name (i := 4) nd rfl (by first | exact Or.inl rfl | exact Or.inr rfl)) (fun _ _ _ _ _ => jts_nil) (fun _ _ _ _ _ => (j_call h_law_draw (hr.mono (by decide)) T.m_law_draw T.F_law_draw.kp T.b_law_draw takes_no (ja_cons (jv 0) (ja_cons (jv 2) ja_nil))))) ja_nil)))) ja_nil))))) read
theorem sc_law_gauge : FnScope ["d", "letters", "states", "shows", "state"] ["d", "letters", "states"] (defScope s_law_gauge) := ⟨rfl, rfl, rfl, by decide +kernel, rfl, by decide +kernel, by decide +kernel⟩
theorem ok_law_gauge (T : Txt P K mg) {sp_law_draw : SpD} (h_law_draw : FnD P w K mg base 1 T.f_law_draw T.fd_law_draw ["d", "many"] sp_law_draw) {sp_law_fraction : SpD} (h_law_fraction : FnD P w K mg base 3 T.f_law_fraction T.fd_law_fraction ["d", "top", "bottom"] sp_law_fraction) {sp_law_rows_of_states : SpD} (h_law_rows_of_states : FnD P w K mg base 2 T.f_law_rows_of_states T.fd_law_rows_of_states ["d", "letters", "states"] sp_law_rows_of_states) {S : SpD} (len : ∀ ds st R Rx, S ds st R Rx → ds.length = 3) (read : ∀ ds st R Rx, S ds st R Rx → wb_law_gauge sp_law_draw sp_law_fraction sp_law_rows_of_states (bodyEd R Rx) (startD 5 ds) st) : FnD P w K mg base 4 T.f_law_gauge T.fd_law_gauge ["d", "letters", "states"] S :=
  fn_D T.F_law_gauge sc_law_gauge len (fun cdv A outer s H E hr tk hp => have nd : (["d", "letters", "states", "shows", "state"] : List Str).Nodup := sc_law_gauge.nd
    (jss_cons (js_setlc (i := 3) (own := [("state", 4)]) nd (jir1 T.z_range (ja_cons (jv 2) ja_nil)) (by kernel_rfl) (bind_name (i := 4) (by decide)) (fun _ _ _ _ _ => pg_name (i := 4) nd rfl (by first | exact Or.inl rfl | exact Or.inr rfl)) (fun _ _ _ _ _ => jts_nil) (fun _ _ _ _ _ => (je_if (jt_eq hr (j_call h_law_draw (hr.mono (by decide)) T.m_law_draw T.F_law_draw.kp T.b_law_draw takes_no (ja_cons (jv 0) (ja_cons ji ja_nil))) ji) (j_call h_law_fraction (hr.mono (by decide)) T.m_law_fraction T.F_law_fraction.kp T.b_law_fraction takes_no (ja_cons (jv 0) (ja_cons ji (ja_cons ji ja_nil)))) (je_tup (ja_cons ji (ja_cons ji ja_nil))))) (sw_true rfl rfl rfl (by decide +kernel)))
    (jss_one (js_ret (je_tup (ja_cons jstr (ja_cons (jv 1) (ja_cons (j_call h_law_rows_of_states (hr.mono (by decide)) T.m_law_rows_of_states T.F_law_rows_of_states.kp T.b_law_rows_of_states tk (ja_cons (jv 0) (ja_cons (jv 1) (ja_cons (jv 2) ja_nil)))) (ja_cons (j_tuple T.z_tuple (ja_cons (jv 3) ja_nil)) ja_nil))))))))) read
theorem sc_law_weight_sum : FnScope ["corner", "move"] ["corner"] (defScope s_law_weight_sum) := ⟨rfl, rfl, rfl, by decide +kernel, rfl, by decide +kernel, by decide +kernel⟩
theorem ok_law_weight_sum (T : Txt P K mg) {S : SpD} (len : ∀ ds st R Rx, S ds st R Rx → ds.length = 1) (read : ∀ ds st R Rx, S ds st R Rx → wb_law_weight_sum (bodyEd R Rx) (startD 2 ds) st) : FnD P w K mg base 1 T.f_law_weight_sum T.fd_law_weight_sum ["corner"] S :=
  fn_D T.F_law_weight_sum sc_law_weight_sum len (fun cdv A outer s H E hr tk hp => have nd : (["corner", "move"] : List Str).Nodup := sc_law_weight_sum.nd
    (jss_one (js_ret (j_sumA T.z_sum (ja_cons (je_lc (own := [("move", 1)]) nd (jit (jv 0)) (by kernel_rfl) (bind_name (i := 1) (by decide)) (fun _ _ _ _ _ => pg_name (i := 1) nd rfl (by first | exact Or.inl rfl | exact Or.inr rfl)) (fun _ _ _ _ _ => jts_nil) (fun _ _ _ _ _ => (j_ix (jv 1) ji))) ja_nil))))) read
theorem sc_law_pick_at : FnScope ["d", "node", "often", "found"] ["d", "node", "often"] (defScope s_law_pick_at) := ⟨rfl, rfl, rfl, by decide +kernel, rfl, by decide +kernel, by decide +kernel⟩
theorem ok_law_pick_at (T : Txt P K mg) {sp_law_draw : SpD} (h_law_draw : FnD P w K mg base 1 T.f_law_draw T.fd_law_draw ["d", "many"] sp_law_draw) {S : SpD} (len : ∀ ds st R Rx, S ds st R Rx → ds.length = 3) (read : ∀ ds st R Rx, S ds st R Rx → wb_law_pick_at sp_law_draw (bodyEd R Rx) (startD 4 ds) st) : FnD P w K mg base 2 T.f_law_pick_at T.fd_law_pick_at ["d", "node", "often"] S :=
  fn_D T.F_law_pick_at sc_law_pick_at len (fun cdv A outer s H E hr tk hp => have nd : (["d", "node", "often", "found"] : List Str).Nodup := sc_law_pick_at.nd
    (jss_cons (js_set (i := 3) nd (j_call h_law_draw (hr.mono (by decide)) T.m_law_draw T.F_law_draw.kp T.b_law_draw tk (ja_cons (jv 0) (ja_cons (j_add ji (j_mul (jv 2) (j_len T.z_len (ja_cons (jv 1) ja_nil)))) ja_nil))))
    (jss_one (js_ret (je_if (jt_lt (jv 3) (j_mul (jv 2) (j_len T.z_len (ja_cons (jv 1) ja_nil)))) (j_div (jv 3) (jv 2)) (je_neg ji)))))) read
theorem sc_law_plan : FnScope ["d", "gauge", "web", "many", "often", "found", "k", "row", "node"] ["d", "gauge", "web", "many", "often"] (defScope s_law_plan) := ⟨rfl, rfl, rfl, by decide +kernel, rfl, by decide +kernel, by decide +kernel⟩
theorem ok_law_plan (T : Txt P K mg) {sp_law_pick_at : SpD} (h_law_pick_at : FnD P w K mg base 2 T.f_law_pick_at T.fd_law_pick_at ["d", "node", "often"] sp_law_pick_at) {S : SpD} (len : ∀ ds st R Rx, S ds st R Rx → ds.length = 5) (read : ∀ ds st R Rx, S ds st R Rx → wb_law_plan sp_law_pick_at (bodyEd R Rx) (startD 9 ds) st) : FnD P w K mg base 3 T.f_law_plan T.fd_law_plan ["d", "gauge", "web", "many", "often"] S :=
  fn_D T.F_law_plan sc_law_plan len (fun cdv A outer s H E hr tk hp => have nd : (["d", "gauge", "web", "many", "often", "found", "k", "row", "node"] : List Str).Nodup := sc_law_plan.nd
    (jss_cons (js_set (i := 5) nd (je_lst ja_nil))
    (jss_cons (js_for hp (jir1 T.z_range (ja_cons (jv 3) ja_nil)) (jg_name (i := 6) nd) (jss_one (js_expr (j_append (jv 5) (ja_cons (j_tuple T.z_tuple (ja_cons (je_lc (own := [("row", 7)]) nd (jit (j_ix (jv 1) ji)) (by kernel_rfl) (bind_name (i := 7) (by decide)) (fun _ _ _ _ _ => pg_name (i := 7) nd rfl (by first | exact Or.inl rfl | exact Or.inr rfl)) (fun _ _ _ _ _ => jts_nil) (fun _ _ _ _ _ => (j_tuple T.z_tuple (ja_cons (je_lc (own := [("node", 8)]) nd (jit (jv 2)) (by kernel_rfl) (bind_name (i := 8) (by decide)) (fun _ _ _ _ _ => pg_name (i := 8) nd rfl (by first | exact Or.inl rfl | exact Or.inr rfl)) (fun _ _ _ _ _ => jts_nil) (fun _ _ _ _ _ => (j_call h_law_pick_at (hr.mono (by decide)) T.m_law_pick_at T.F_law_pick_at.kp T.b_law_pick_at takes_no (ja_cons (jv 0) (ja_cons (jv 8) (ja_cons (jv 4) ja_nil)))))) ja_nil)))) ja_nil)) ja_nil)))))
    (jss_one (js_ret (j_tuple T.z_tuple (ja_cons (jv 5) ja_nil))))))) read
theorem sc_law_light : FnScope ["web", "found", "node", "corner", "move"] ["web"] (defScope s_law_light) := ⟨rfl, rfl, rfl, by decide +kernel, rfl, by decide +kernel, by decide +kernel⟩
theorem ok_law_light (T : Txt P K mg) {S : SpD} (len : ∀ ds st R Rx, S ds st R Rx → ds.length = 1) (read : ∀ ds st R Rx, S ds st R Rx → wb_law_light (bodyEd R Rx) (startD 5 ds) st) : FnD P w K mg base 1 T.f_law_light T.fd_law_light ["web"] S :=
  fn_D T.F_law_light sc_law_light len (fun cdv A outer s H E hr tk hp => have nd : (["web", "found", "node", "corner", "move"] : List Str).Nodup := sc_law_light.nd
    (jss_cons (js_set (i := 1) nd (je_lst ja_nil))
    (jss_cons (js_for hp (jit (jv 0)) (jg_name (i := 2) nd) (jss_one (js_expr (j_append (jv 1) (ja_cons (j_tuple T.z_tuple (ja_cons (je_lc (own := [("corner", 3)]) nd (jit (jv 2)) (by kernel_rfl) (bind_name (i := 3) (by decide)) (fun _ _ _ _ _ => pg_name (i := 3) nd rfl (by first | exact Or.inl rfl | exact Or.inr rfl)) (fun _ _ _ _ _ => jts_nil) (fun _ _ _ _ _ => (j_tuple T.z_tuple (ja_cons (je_lc (own := [("move", 4)]) nd (jit (jv 3)) (by kernel_rfl) (bind_name (i := 4) (by decide)) (fun _ _ _ _ _ => pg_name (i := 4) nd rfl (by first | exact Or.inl rfl | exact Or.inr rfl)) (fun _ _ _ _ _ => jts_nil) (fun _ _ _ _ _ => (je_tup (ja_cons (j_add ji (j_mod (j_int T.z_int (ja_cons (j_ix (jv 4) ji) ja_nil)) ji)) (ja_cons (j_ix (jv 4) ji) (ja_cons (j_ix (jv 4) ji) ja_nil)))))) ja_nil)))) ja_nil)) ja_nil)))))
    (jss_one (js_ret (j_tuple T.z_tuple (ja_cons (jv 1) ja_nil))))))) read
theorem sc_law_case : FnScope ["d", "kind", "many", "web", "letters"] ["d"] (defScope s_law_case) := ⟨rfl, rfl, rfl, by decide +kernel, rfl, by decide +kernel, by decide +kernel⟩
theorem ok_law_case (T : Txt P K mg) {sp_law_draw : SpD} (h_law_draw : FnD P w K mg base 1 T.f_law_draw T.fd_law_draw ["d", "many"] sp_law_draw) {sp_law_gauge : SpD} (h_law_gauge : FnD P w K mg base 4 T.f_law_gauge T.fd_law_gauge ["d", "letters", "states"] sp_law_gauge) {sp_law_web : SpD} (h_law_web : FnD P w K mg base 5 T.f_law_web T.fd_law_web ["d", "letters", "nodes", "corners", "most"] sp_law_web) {sp_law_light : SpD} (h_law_light : FnD P w K mg base 1 T.f_law_light T.fd_law_light ["web"] sp_law_light) {S : SpD} (len : ∀ ds st R Rx, S ds st R Rx → ds.length = 1) (read : ∀ ds st R Rx, S ds st R Rx → wb_law_case sp_law_draw sp_law_gauge sp_law_web sp_law_light (bodyEd R Rx) (startD 5 ds) st) : FnD P w K mg base 6 T.f_law_case T.fd_law_case ["d"] S :=
  fn_D T.F_law_case sc_law_case len (fun cdv A outer s H E hr tk hp => have nd : (["d", "kind", "many", "web", "letters"] : List Str).Nodup := sc_law_case.nd
    (jss_cons (js_set (i := 1) nd (j_call h_law_draw (hr.mono (by decide)) T.m_law_draw T.F_law_draw.kp T.b_law_draw tk (ja_cons (jv 0) (ja_cons ji ja_nil))))
    (jss_cons (js_if (jt_eq hr (jv 1) ji) (jss_one (js_ret (je_tup (ja_cons (j_call h_law_gauge (hr.mono (by decide)) T.m_law_gauge T.F_law_gauge.kp T.b_law_gauge tk (ja_cons (jv 0) (ja_cons ji (ja_cons (j_add ji (j_call h_law_draw (hr.mono (by decide)) T.m_law_draw T.F_law_draw.kp T.b_law_draw tk (ja_cons (jv 0) (ja_cons ji ja_nil)))) ja_nil)))) (ja_cons (j_call h_law_web (hr.mono (by decide)) T.m_law_web T.F_law_web.kp T.b_law_web tk (ja_cons (jv 0) (ja_cons ji (ja_cons ji (ja_cons ji (ja_cons ji ja_nil)))))) (ja_cons (j_add ji (j_call h_law_draw (hr.mono (by decide)) T.m_law_draw T.F_law_draw.kp T.b_law_draw tk (ja_cons (jv 0) (ja_cons ji ja_nil)))) (ja_cons ji ja_nil))))))) jss_nil)
    (jss_cons (js_if (jt_eq hr (jv 1) ji) (jss_cons (js_set (i := 2) nd (j_add ji (j_call h_law_draw (hr.mono (by decide)) T.m_law_draw T.F_law_draw.kp T.b_law_draw tk (ja_cons (jv 0) (ja_cons (j_add ji (j_call h_law_draw (hr.mono (by decide)) T.m_law_draw T.F_law_draw.kp T.b_law_draw tk (ja_cons (jv 0) (ja_cons ji ja_nil)))) ja_nil)))))
    (jss_one (js_ret (je_tup (ja_cons (j_call h_law_gauge (hr.mono (by decide)) T.m_law_gauge T.F_law_gauge.kp T.b_law_gauge tk (ja_cons (jv 0) (ja_cons ji (ja_cons ji ja_nil)))) (ja_cons (j_call h_law_web (hr.mono (by decide)) T.m_law_web T.F_law_web.kp T.b_law_web tk (ja_cons (jv 0) (ja_cons ji (ja_cons (jv 2) (ja_cons ji (ja_cons ji ja_nil)))))) (ja_cons (j_add ji (j_call h_law_draw (hr.mono (by decide)) T.m_law_draw T.F_law_draw.kp T.b_law_draw tk (ja_cons (jv 0) (ja_cons ji ja_nil)))) (ja_cons ji ja_nil)))))))) jss_nil)
    (jss_cons (js_if (jt_eq hr (jv 1) ji) (jss_cons (js_set (i := 3) nd (j_call h_law_light (hr.mono (by decide)) T.m_law_light T.F_law_light.kp T.b_law_light tk (ja_cons (j_call h_law_web (hr.mono (by decide)) T.m_law_web T.F_law_web.kp T.b_law_web tk (ja_cons (jv 0) (ja_cons ji (ja_cons (j_add ji (j_call h_law_draw (hr.mono (by decide)) T.m_law_draw T.F_law_draw.kp T.b_law_draw tk (ja_cons (jv 0) (ja_cons ji ja_nil)))) (ja_cons ji (ja_cons ji ja_nil)))))) ja_nil)))
    (jss_one (js_ret (je_tup (ja_cons (j_call h_law_gauge (hr.mono (by decide)) T.m_law_gauge T.F_law_gauge.kp T.b_law_gauge tk (ja_cons (jv 0) (ja_cons ji (ja_cons (j_add ji (j_call h_law_draw (hr.mono (by decide)) T.m_law_draw T.F_law_draw.kp T.b_law_draw tk (ja_cons (jv 0) (ja_cons ji ja_nil)))) ja_nil)))) (ja_cons (jv 3) (ja_cons (j_add ji (j_call h_law_draw (hr.mono (by decide)) T.m_law_draw T.F_law_draw.kp T.b_law_draw tk (ja_cons (jv 0) (ja_cons ji ja_nil)))) (ja_cons ji ja_nil)))))))) jss_nil)
    (jss_cons (js_set (i := 4) nd (j_add ji (j_call h_law_draw (hr.mono (by decide)) T.m_law_draw T.F_law_draw.kp T.b_law_draw tk (ja_cons (jv 0) (ja_cons ji ja_nil)))))
    (jss_cons (js_set (i := 3) nd (j_call h_law_web (hr.mono (by decide)) T.m_law_web T.F_law_web.kp T.b_law_web tk (ja_cons (jv 0) (ja_cons (jv 4) (ja_cons (j_add ji (j_call h_law_draw (hr.mono (by decide)) T.m_law_draw T.F_law_draw.kp T.b_law_draw tk (ja_cons (jv 0) (ja_cons ji ja_nil)))) (ja_cons ji (ja_cons ji ja_nil)))))))
    (jss_cons (js_if (jt_eq hr (jv 1) ji) (jss_one (js_set (i := 3) nd (j_add (je_tup (ja_cons (je_tup ja_nil) ja_nil)) (j_sl (jv 3) (jo_some ji) jo_none)))) jss_nil)
    (jss_one (js_ret (je_tup (ja_cons (j_call h_law_gauge (hr.mono (by decide)) T.m_law_gauge T.F_law_gauge.kp T.b_law_gauge tk (ja_cons (jv 0) (ja_cons (jv 4) (ja_cons (j_add ji (j_call h_law_draw (hr.mono (by decide)) T.m_law_draw T.F_law_draw.kp T.b_law_draw tk (ja_cons (jv 0) (ja_cons ji ja_nil)))) ja_nil)))) (ja_cons (jv 3) (ja_cons (j_call h_law_draw (hr.mono (by decide)) T.m_law_draw T.F_law_draw.kp T.b_law_draw tk (ja_cons (jv 0) (ja_cons ji ja_nil))) (ja_cons ji ja_nil))))))))))))))) read
theorem sc_law_lines : FnScope ["gauge", "web", "plan", "now", "found", "choice", "later", "pair", "pick", "corner", "move", "after", "come", "key"] ["gauge", "web", "plan"] (defScope s_law_lines) := ⟨rfl, rfl, rfl, by decide +kernel, rfl, by decide +kernel, by decide +kernel⟩
theorem ok_law_lines (T : Txt P K mg) {sp_law_times : SpD} (h_law_times : FnD P w K mg base 3 T.f_law_times T.fd_law_times ["a", "b"] sp_law_times) {sp_law_weight_sum : SpD} (h_law_weight_sum : FnD P w K mg base 1 T.f_law_weight_sum T.fd_law_weight_sum ["corner"] sp_law_weight_sum) {sp_law_plus : SpD} (h_law_plus : FnD P w K mg base 3 T.f_law_plus T.fd_law_plus ["a", "b"] sp_law_plus) {S : SpD} (len : ∀ ds st R Rx, S ds st R Rx → ds.length = 3) (read : ∀ ds st R Rx, S ds st R Rx → wb_law_lines sp_law_times sp_law_weight_sum sp_law_plus (bodyEd R Rx) (startD 14 ds) st) : FnD P w K mg base 4 T.f_law_lines T.fd_law_lines ["gauge", "web", "plan"] S :=
  fn_D T.F_law_lines sc_law_lines len (fun cdv A outer s H E hr tk hp => have nd : (["gauge", "web", "plan", "now", "found", "choice", "later", "pair", "pick", "corner", "move", "after", "come", "key"] : List Str).Nodup := sc_law_lines.nd
    (jss_cons (js_set (i := 3) nd (j_disp1 hr (je_key (ja_cons ji (ja_cons ji ja_nil))) (je_tup (ja_cons ji (ja_cons ji ja_nil)))))
    (jss_cons (js_set (i := 4) nd (je_lst (ja_cons (je_tup (ja_cons (je_tup (ja_cons ji (ja_cons ji (ja_cons (je_tup (ja_cons ji (ja_cons ji ja_nil))) ja_nil)))) ja_nil)) ja_nil)))
    (jss_cons (js_for hp (jit (jv 2)) (jg_name (i := 5) nd) (jss_cons (js_set (i := 6) nd j_dnewT)
    (jss_cons (js_lock (js_for hp (jikeys (jv 3)) (jg_name (i := 7) nd) (jss_cons (js_set (i := 8) nd (j_ix (j_ix (jv 5) (j_ix (jv 7) ji)) (j_ix (jv 7) ji)))
    (jss_one (js_if (jt_ge (jv 8) ji) (jss_cons (js_set (i := 9) nd (j_ix (j_ix (jv 1) (j_ix (jv 7) ji)) (jv 8)))
    (jss_one (js_for hp (jit (jv 9)) (jg_name (i := 10) nd) (jss_cons (js_set (i := 11) nd (je_key (ja_cons (j_ix (j_ix (j_ix (jv 0) ji) (j_ix (jv 7) ji)) (j_ix (jv 10) ji)) (ja_cons (j_ix (jv 10) ji) ja_nil))))
    (jss_cons (js_set (i := 12) nd (j_call h_law_times (hr.mono (by decide)) T.m_law_times T.F_law_times.kp T.b_law_times tk (ja_cons (j_dget hr (jv 3) (jv 7)) (ja_cons (je_tup (ja_cons (j_ix (jv 10) ji) (ja_cons (j_call h_law_weight_sum (hr.mono (by decide)) T.m_law_weight_sum T.F_law_weight_sum.kp T.b_law_weight_sum tk (ja_cons (jv 9) ja_nil)) ja_nil))) ja_nil))))
    (jss_one (js_dput hr (jv 6) (jv 11) (j_call h_law_plus (hr.mono (by decide)) T.m_law_plus T.F_law_plus.kp T.b_law_plus tk (ja_cons (j_dgetor hr (jv 6) (jv 11) (je_tup (ja_cons ji (ja_cons ji ja_nil)))) (ja_cons (jv 12) ja_nil)))))))))) jss_nil)))))
    (jss_cons (js_set (i := 3) nd (jv 6))
    (jss_one (js_expr (j_append (jv 4) (ja_cons (j_tuple T.z_tuple (ja_cons (je_lc (own := [("key", 13)]) nd (jit (j_sortedK T.z_sorted (ja_cons (jv 3) ja_nil))) (by kernel_rfl) (bind_name (i := 13) (by decide)) (fun _ _ _ _ _ => pg_name (i := 13) nd rfl (by first | exact Or.inl rfl | exact Or.inr rfl)) (fun _ _ _ _ _ => jts_nil) (fun _ _ _ _ _ => (je_tup (ja_cons (j_ix (jv 13) ji) (ja_cons (j_ix (jv 13) ji) (ja_cons (j_dget hr (jv 3) (jv 13)) ja_nil)))))) ja_nil)) ja_nil))))))))
    (jss_one (js_ret (j_tuple T.z_tuple (ja_cons (jv 4) ja_nil)))))))) read
theorem sc_law_mean_back : FnScope ["gauge", "web", "plan", "lines", "behind", "line", "step", "here", "pick", "corner", "row", "parts", "move"] ["gauge", "web", "plan", "lines"] (defScope s_law_mean_back) := ⟨rfl, rfl, rfl, by decide +kernel, rfl, by decide +kernel, by decide +kernel⟩
theorem ok_law_mean_back (T : Txt P K mg) {sp_law_times : SpD} (h_law_times : FnD P w K mg base 3 T.f_law_times T.fd_law_times ["a", "b"] sp_law_times) {sp_law_over : SpD} (h_law_over : FnD P w K mg base 3 T.f_law_over T.fd_law_over ["a", "b"] sp_law_over) {sp_law_sum : SpD} (h_law_sum : FnD P w K mg base 3 T.f_law_sum T.fd_law_sum ["row"] sp_law_sum) {sp_law_weight_sum : SpD} (h_law_weight_sum : FnD P w K mg base 1 T.f_law_weight_sum T.fd_law_weight_sum ["corner"] sp_law_weight_sum) {S : SpD} (len : ∀ ds st R Rx, S ds st R Rx → ds.length = 4) (read : ∀ ds st R Rx, S ds st R Rx → wb_law_mean_back sp_law_times sp_law_over sp_law_sum sp_law_weight_sum (bodyEd R Rx) (startD 13 ds) st) : FnD P w K mg base 4 T.f_law_mean_back T.fd_law_mean_back ["gauge", "web", "plan", "lines"] S :=
  fn_D T.F_law_mean_back sc_law_mean_back len (fun cdv A outer s H E hr tk hp => have nd : (["gauge", "web", "plan", "lines", "behind", "line", "step", "here", "pick", "corner", "row", "parts", "move"] : List Str).Nodup := sc_law_mean_back.nd
    (jss_cons (js_set (i := 4) nd j_dnewT)
    (jss_cons (js_for hp (jit (j_ix (jv 3) (j_len T.z_len (ja_cons (jv 2) ja_nil)))) (jg_name (i := 5) nd) (jss_one (js_dput hr (jv 4) (je_key (ja_cons (j_ix (jv 5) ji) (ja_cons (j_ix (jv 5) ji) ja_nil))) (j_ix (j_ix (jv 0) ji) (j_ix (jv 5) ji)))))
    (jss_cons (js_for hp (jir3 T.z_range (ja_cons (j_sub (j_len T.z_len (ja_cons (jv 2) ja_nil)) ji) (ja_cons (je_neg ji) (ja_cons (je_neg ji) ja_nil)))) (jg_name (i := 6) nd) (jss_cons (js_set (i := 7) nd j_dnewT)
    (jss_cons (js_for hp (jit (j_ix (jv 3) (jv 6))) (jg_name (i := 5) nd) (jss_cons (js_set (i := 8) nd (j_ix (j_ix (j_ix (jv 2) (jv 6)) (j_ix (jv 5) ji)) (j_ix (jv 5) ji)))
    (jss_cons (js_dput hr (jv 7) (je_key (ja_cons (j_ix (jv 5) ji) (ja_cons (j_ix (jv 5) ji) ja_nil))) (j_ix (j_ix (jv 0) ji) (j_ix (jv 5) ji)))
    (jss_one (js_if (jt_ge (jv 8) ji) (jss_cons (js_set (i := 9) nd (j_ix (j_ix (jv 1) (j_ix (jv 5) ji)) (jv 8)))
    (jss_cons (js_set (i := 10) nd (j_ix (j_ix (jv 0) ji) (j_ix (jv 5) ji)))
    (jss_cons (js_setlc (i := 11) (own := [("move", 12)]) nd (jit (jv 9)) (by kernel_rfl) (bind_name (i := 12) (by decide)) (fun _ _ _ _ _ => pg_name (i := 12) nd rfl (by first | exact Or.inl rfl | exact Or.inr rfl)) (fun _ _ _ _ _ => jts_nil) (fun _ _ _ _ _ => (j_call h_law_times (hr.mono (by decide)) T.m_law_times T.F_law_times.kp T.b_law_times takes_no (ja_cons (je_tup (ja_cons (j_ix (jv 12) ji) (ja_cons ji ja_nil))) (ja_cons (j_dget hr (jv 4) (je_key (ja_cons (j_ix (jv 10) (j_ix (jv 12) ji)) (ja_cons (j_ix (jv 12) ji) ja_nil)))) ja_nil)))) (sw_true rfl rfl rfl (by decide +kernel)))
    (jss_one (js_dput hr (jv 7) (je_key (ja_cons (j_ix (jv 5) ji) (ja_cons (j_ix (jv 5) ji) ja_nil))) (j_call h_law_over (hr.mono (by decide)) T.m_law_over T.F_law_over.kp T.b_law_over tk (ja_cons (j_call h_law_sum (hr.mono (by decide)) T.m_law_sum T.F_law_sum.kp T.b_law_sum tk (ja_cons (jv 11) ja_nil)) (ja_cons (je_tup (ja_cons (j_call h_law_weight_sum (hr.mono (by decide)) T.m_law_weight_sum T.F_law_weight_sum.kp T.b_law_weight_sum tk (ja_cons (jv 9) ja_nil)) (ja_cons ji ja_nil))) ja_nil)))))))) jss_nil)))))
    (jss_one (js_set (i := 4) nd (jv 7))))))
    (jss_one (js_ret (j_dget hr (jv 4) (je_key (ja_cons ji (ja_cons ji ja_nil)))))))))) read
theorem sc_law_is_line : FnScope ["line"] ["line"] (defScope s_law_is_line) := ⟨rfl, rfl, rfl, by decide +kernel, rfl, by decide +kernel, by decide +kernel⟩
theorem ok_law_is_line (T : Txt P K mg) {sp_law_is_int : SpD} (h_law_is_int : FnD P w K mg base 1 T.f_law_is_int T.fd_law_is_int ["thing"] sp_law_is_int) {sp_law_is_frac : SpD} (h_law_is_frac : FnD P w K mg base 2 T.f_law_is_frac T.fd_law_is_frac ["thing"] sp_law_is_frac) {S : SpD} (len : ∀ ds st R Rx, S ds st R Rx → ds.length = 1) (read : ∀ ds st R Rx, S ds st R Rx → wb_law_is_line sp_law_is_int sp_law_is_frac (bodyEd R Rx) (startD 1 ds) st) : FnD P w K mg base 3 T.f_law_is_line T.fd_law_is_line ["line"] S :=
  fn_D T.F_law_is_line sc_law_is_line len (fun cdv A outer s H E hr tk hp => have nd : (["line"] : List Str).Nodup := sc_law_is_line.nd
    (jss_cons (js_if (jw_t (jw_or (jt_not (jt_val (j_isi .tup T.z_isinstance T.z_tuple (by decide +kernel) (jv 0)))) (jw_or1 (jt_ne hr (j_len T.z_len (ja_cons (jv 0) ja_nil)) ji)))) (jss_one (js_ret jb)) jss_nil)
    (jss_one (js_ret (je_and (j_call h_law_is_int (hr.mono (by decide)) T.m_law_is_int T.F_law_is_int.kp T.b_law_is_int tk (ja_cons (j_ix (jv 0) ji) ja_nil)) (je_and (j_call h_law_is_int (hr.mono (by decide)) T.m_law_is_int T.F_law_is_int.kp T.b_law_is_int tk (ja_cons (j_ix (jv 0) ji) ja_nil)) (je_one (j_call h_law_is_frac (hr.mono (by decide)) T.m_law_is_frac T.F_law_is_frac.kp T.b_law_is_frac tk (ja_cons (j_ix (jv 0) ji) ja_nil))))))))) read
theorem sc_law_is_run : FnScope ["told", "mean", "lines", "k", "line"] ["told", "mean", "lines"] (defScope s_law_is_run) := ⟨rfl, rfl, rfl, by decide +kernel, rfl, by decide +kernel, by decide +kernel⟩
theorem ok_law_is_run (T : Txt P K mg) {sp_law_is_frac : SpD} (h_law_is_frac : FnD P w K mg base 2 T.f_law_is_frac T.fd_law_is_frac ["thing"] sp_law_is_frac) {sp_law_is_line : SpD} (h_law_is_line : FnD P w K mg base 3 T.f_law_is_line T.fd_law_is_line ["line"] sp_law_is_line) {S : SpD} (len : ∀ ds st R Rx, S ds st R Rx → ds.length = 3) (read : ∀ ds st R Rx, S ds st R Rx → wb_law_is_run sp_law_is_frac sp_law_is_line (bodyEd R Rx) (startD 5 ds) st) : FnD P w K mg base 4 T.f_law_is_run T.fd_law_is_run ["told", "mean", "lines"] S :=
  fn_D T.F_law_is_run sc_law_is_run len (fun cdv A outer s H E hr tk hp => have nd : (["told", "mean", "lines", "k", "line"] : List Str).Nodup := sc_law_is_run.nd
    (jss_cons (js_if (jw_t (jw_or (jt_not (jt_val (j_isi .tup T.z_isinstance T.z_tuple (by decide +kernel) (jv 0)))) (jw_or (jt_ne hr (j_len T.z_len (ja_cons (jv 0) ja_nil)) ji) (jw_or (jt_not (jt_val (j_call h_law_is_frac (hr.mono (by decide)) T.m_law_is_frac T.F_law_is_frac.kp T.b_law_is_frac tk (ja_cons (j_ix (jv 0) ji) ja_nil)))) (jw_or1 (jt_ne hr (j_ix (jv 0) ji) (jv 1))))))) (jss_one (js_ret jb)) jss_nil)
    (jss_cons (js_if (jw_t (jw_or (jt_not (jt_val (j_isi .tup T.z_isinstance T.z_tuple (by decide +kernel) (j_ix (jv 0) ji)))) (jw_or1 (jt_ne hr (j_len T.z_len (ja_cons (j_ix (jv 0) ji) ja_nil)) (j_len T.z_len (ja_cons (jv 2) ja_nil)))))) (jss_one (js_ret jb)) jss_nil)
    (jss_cons (js_for hp (jir1 T.z_range (ja_cons (j_len T.z_len (ja_cons (jv 2) ja_nil)) ja_nil)) (jg_name (i := 3) nd) (jss_cons (js_if (jw_t (jw_or (jt_not (jt_val (j_isi .tup T.z_isinstance T.z_tuple (by decide +kernel) (j_ix (j_ix (jv 0) ji) (jv 3))))) (jw_or1 (jt_not (jt_val (j_all T.z_all (ja_cons (je_lc (own := [("line", 4)]) nd (jit (j_ix (j_ix (jv 0) ji) (jv 3))) (by kernel_rfl) (bind_name (i := 4) (by decide)) (fun _ _ _ _ _ => pg_name (i := 4) nd rfl (by first | exact Or.inl rfl | exact Or.inr rfl)) (fun _ _ _ _ _ => jts_nil) (fun _ _ _ _ _ => (j_call h_law_is_line (hr.mono (by decide)) T.m_law_is_line T.F_law_is_line.kp T.b_law_is_line takes_no (ja_cons (jv 4) ja_nil)))) ja_nil))))))) (jss_one (js_ret jb)) jss_nil)
    (jss_one (js_if (jt_ne hr (j_ix (j_ix (jv 0) ji) (jv 3)) (j_ix (jv 2) (jv 3))) (jss_one (js_ret jb)) jss_nil))))
    (jss_one (js_ret jb)))))) read
theorem sc_law : FnScope ["script", "d", "case", "gauge", "web", "plan", "lines", "mean", "part", "due", "other", "ways", "halted", "row", "node"] ["script"] (defScope s_law) := ⟨rfl, rfl, rfl, by decide +kernel, rfl, by decide +kernel, by decide +kernel⟩
theorem ok_law (T : Txt P K mg) {sp_law_begin : SpD} (h_law_begin : FnD P w K mg base 1 T.f_law_begin T.fd_law_begin ["script"] sp_law_begin) {sp_law_case : SpD} (h_law_case : FnD P w K mg base 6 T.f_law_case T.fd_law_case ["d"] sp_law_case) {sp_law_plan : SpD} (h_law_plan : FnD P w K mg base 3 T.f_law_plan T.fd_law_plan ["d", "gauge", "web", "many", "often"] sp_law_plan) {sp_law_lines : SpD} (h_law_lines : FnD P w K mg base 4 T.f_law_lines T.fd_law_lines ["gauge", "web", "plan"] sp_law_lines) {sp_law_mean_back : SpD} (h_law_mean_back : FnD P w K mg base 4 T.f_law_mean_back T.fd_law_mean_back ["gauge", "web", "plan", "lines"] sp_law_mean_back) {sp_law_is_run : SpD} (h_law_is_run : FnD P w K mg base 4 T.f_law_is_run T.fd_law_is_run ["told", "mean", "lines"] sp_law_is_run) {sp_run_plan : SpD} (h_run_plan : FnD P w K mg base 4 T.f_run_plan T.fd_run_plan ["gauge", "web", "plan"] sp_run_plan) {sp_law_draw : SpD} (h_law_draw : FnD P w K mg base 1 T.f_law_draw T.fd_law_draw ["d", "many"] sp_law_draw) {S : SpD} (len : ∀ ds st R Rx, S ds st R Rx → ds.length = 1) (read : ∀ ds st R Rx, S ds st R Rx → wb_law sp_law_begin sp_law_case sp_law_plan sp_law_lines sp_law_mean_back sp_law_is_run sp_run_plan sp_law_draw (bodyEd R Rx) (startD 15 ds) st) : FnD P w K mg base 7 T.f_law T.fd_law ["script"] S :=
  fn_D T.F_law sc_law len (fun cdv A outer s H E hr tk hp => have nd : (["script", "d", "case", "gauge", "web", "plan", "lines", "mean", "part", "due", "other", "ways", "halted", "row", "node"] : List Str).Nodup := sc_law.nd
    (jss_cons (js_set (i := 1) nd (j_call h_law_begin (hr.mono (by decide)) T.m_law_begin T.F_law_begin.kp T.b_law_begin tk (ja_cons (jv 0) ja_nil)))
    (jss_cons (js_set (i := 2) nd (j_call h_law_case (hr.mono (by decide)) T.m_law_case T.F_law_case.kp T.b_law_case tk (ja_cons (jv 1) ja_nil)))
    (jss_cons (js_asg (je_tup (ja_cons (j_ix (jv 2) ji) (ja_cons (j_ix (jv 2) ji) ja_nil))) (jg_tup (jgs_cons (jg_name (i := 3) nd) (jgs_cons (jg_name (i := 4) nd) jgs_nil))))
    (jss_cons (js_set (i := 5) nd (j_call h_law_plan (hr.mono (by decide)) T.m_law_plan T.F_law_plan.kp T.b_law_plan tk (ja_cons (jv 1) (ja_cons (jv 3) (ja_cons (jv 4) (ja_cons (j_ix (jv 2) ji) (ja_cons (j_ix (jv 2) ji) ja_nil)))))))
    (jss_cons (js_set (i := 6) nd (j_call h_law_lines (hr.mono (by decide)) T.m_law_lines T.F_law_lines.kp T.b_law_lines tk (ja_cons (jv 3) (ja_cons (jv 4) (ja_cons (jv 5) ja_nil)))))
    (jss_cons (js_set (i := 7) nd (j_call h_law_mean_back (hr.mono (by decide)) T.m_law_mean_back T.F_law_mean_back.kp T.b_law_mean_back tk (ja_cons (jv 3) (ja_cons (jv 4) (ja_cons (jv 5) (ja_cons (jv 6) ja_nil))))))
    (jss_cons (js_if (jt_not (jt_val (j_call h_law_is_run (hr.mono (by decide)) T.m_law_is_run T.F_law_is_run.kp T.b_law_is_run tk (ja_cons (j_call h_run_plan (hr.mono (by decide)) T.m_run_plan T.F_run_plan.kp T.b_run_plan tk (ja_cons (jv 3) (ja_cons (jv 4) (ja_cons (jv 5) ja_nil)))) (ja_cons (jv 7) (ja_cons (jv 6) ja_nil)))))) (jss_one (js_ret jb)) jss_nil)
    (jss_cons (js_set (i := 8) nd (j_sl (jv 5) jo_none (jo_some (j_call h_law_draw (hr.mono (by decide)) T.m_law_draw T.F_law_draw.kp T.b_law_draw tk (ja_cons (jv 1) (ja_cons (j_add (j_len T.z_len (ja_cons (jv 5) ja_nil)) ji) ja_nil))))))
    (jss_cons (js_set (i := 9) nd (j_call h_law_mean_back (hr.mono (by decide)) T.m_law_mean_back T.F_law_mean_back.kp T.b_law_mean_back tk (ja_cons (jv 3) (ja_cons (jv 4) (ja_cons (jv 8) (ja_cons (jv 6) ja_nil))))))
    (jss_cons (js_if (jt_not (jt_val (j_call h_law_is_run (hr.mono (by decide)) T.m_law_is_run T.F_law_is_run.kp T.b_law_is_run tk (ja_cons (j_call h_run_plan (hr.mono (by decide)) T.m_run_plan T.F_run_plan.kp T.b_run_plan tk (ja_cons (jv 3) (ja_cons (jv 4) (ja_cons (jv 8) ja_nil)))) (ja_cons (jv 9) (ja_cons (j_sl (jv 6) jo_none (jo_some (j_add (j_len T.z_len (ja_cons (jv 8) ja_nil)) ji))) ja_nil)))))) (jss_one (js_ret jb)) jss_nil)
    (jss_cons (js_set (i := 10) nd (j_call h_law_plan (hr.mono (by decide)) T.m_law_plan T.F_law_plan.kp T.b_law_plan tk (ja_cons (jv 1) (ja_cons (jv 3) (ja_cons (jv 4) (ja_cons (j_call h_law_draw (hr.mono (by decide)) T.m_law_draw T.F_law_draw.kp T.b_law_draw tk (ja_cons (jv 1) (ja_cons ji ja_nil))) (ja_cons ji ja_nil)))))))
    (jss_cons (js_set (i := 11) nd (j_call h_law_lines (hr.mono (by decide)) T.m_law_lines T.F_law_lines.kp T.b_law_lines tk (ja_cons (jv 3) (ja_cons (jv 4) (ja_cons (jv 10) ja_nil)))))
    (jss_cons (js_if (jt_not (jt_val (j_call h_law_is_run (hr.mono (by decide)) T.m_law_is_run T.F_law_is_run.kp T.b_law_is_run tk (ja_cons (j_call h_run_plan (hr.mono (by decide)) T.m_run_plan T.F_run_plan.kp T.b_run_plan tk (ja_cons (jv 3) (ja_cons (jv 4) (ja_cons (jv 10) ja_nil)))) (ja_cons (j_call h_law_mean_back (hr.mono (by decide)) T.m_law_mean_back T.F_law_mean_back.kp T.b_law_mean_back tk (ja_cons (jv 3) (ja_cons (jv 4) (ja_cons (jv 10) (ja_cons (jv 11) ja_nil))))) (ja_cons (jv 11) ja_nil)))))) (jss_one (js_ret jb)) jss_nil)
    (jss_cons (js_if (jt_not (jt_val (j_call h_law_is_run (hr.mono (by decide)) T.m_law_is_run T.F_law_is_run.kp T.b_law_is_run tk (ja_cons (j_call h_run_plan (hr.mono (by decide)) T.m_run_plan T.F_run_plan.kp T.b_run_plan tk (ja_cons (jv 3) (ja_cons (jv 4) (ja_cons (je_tup ja_nil) ja_nil)))) (ja_cons (j_ix (j_ix (jv 3) ji) ji) (ja_cons (j_sl (jv 6) jo_none (jo_some ji)) ja_nil)))))) (jss_one (js_ret jb)) jss_nil)
    (jss_cons (js_set (i := 12) nd (j_add (je_tup (ja_cons (j_tuple T.z_tuple (ja_cons (je_lc (own := [("row", 13)]) nd (jit (j_ix (jv 3) ji)) (by kernel_rfl) (bind_name (i := 13) (by decide)) (fun _ _ _ _ _ => pg_name (i := 13) nd rfl (by first | exact Or.inl rfl | exact Or.inr rfl)) (fun _ _ _ _ _ => jts_nil) (fun _ _ _ _ _ => (j_tuple T.z_tuple (ja_cons (je_lc (own := [("node", 14)]) nd (jit (jv 4)) (by kernel_rfl) (bind_name (i := 14) (by decide)) (fun _ _ _ _ _ => pg_name (i := 14) nd rfl (by first | exact Or.inl rfl | exact Or.inr rfl)) (fun _ _ _ _ _ => jts_nil) (fun _ _ _ _ _ => (je_neg ji))) ja_nil)))) ja_nil)) ja_nil)) (j_sl (jv 5) jo_none (jo_some ji))))
    (jss_cons (js_if (jt_not (jt_val (j_call h_law_is_run (hr.mono (by decide)) T.m_law_is_run T.F_law_is_run.kp T.b_law_is_run tk (ja_cons (j_call h_run_plan (hr.mono (by decide)) T.m_run_plan T.F_run_plan.kp T.b_run_plan tk (ja_cons (jv 3) (ja_cons (jv 4) (ja_cons (jv 12) ja_nil)))) (ja_cons (j_ix (j_ix (jv 3) ji) ji) (ja_cons (j_add (j_sl (jv 6) jo_none (jo_some ji)) (j_mulT (je_tup (ja_cons (je_tup ja_nil) ja_nil)) (j_len T.z_len (ja_cons (jv 12) ja_nil)))) ja_nil)))))) (jss_one (js_ret jb)) jss_nil)
    (jss_one (js_ret (j_call h_law_is_run (hr.mono (by decide)) T.m_law_is_run T.F_law_is_run.kp T.b_law_is_run tk (ja_cons (j_call h_run_plan (hr.mono (by decide)) T.m_run_plan T.F_run_plan.kp T.b_run_plan tk (ja_cons (jv 3) (ja_cons (jv 4) (ja_cons (jv 5) ja_nil)))) (ja_cons (jv 7) (ja_cons (jv 6) ja_nil))))))))))))))))))))))) read
end
end K25
end DL

namespace DL
namespace C
open PySem L2
local macro_rules | `(tactic| walk_at "look") => `(tactic| first
  | assumption
  | exact put_same
  | (refine look_ne (by first | assumption | exact Ne.symm (by assumption)) ?_; walk_at "look")
  | (refine look_new (by assumption) ?_; walk_at "look"))
local macro_rules | `(tactic| walk_at "side") => `(tactic| first | assumption | exact trivial | decide | omega | exact ⟨by assumption, by assumption⟩ | exact ⟨by omega, by omega⟩ | exact ⟨by decide, by decide⟩ | exact ⟨by decide, by decide, by decide⟩ | (exact .inl (.inl ⟨by decide, by decide⟩)) | (exact .inl (.inr ⟨by decide, by decide⟩)) | (exact .inl (.inl ⟨by omega, by omega⟩)) | (exact .inl (.inr ⟨by omega, by omega⟩)))
local macro_rules | `(tactic| walk_at "opt") => `(tactic| first | (with_reducible exact atI_0 _ _) | (with_reducible exact atI_1 _ _ _) | (with_reducible exact atI_2 _ _ _ _) | (with_reducible exact atI_3 _ _ _ _ _) | (with_reducible exact atI_4 _ _ _ _ _ _) | assumption | exact atI_0 _ _ | exact atI_1 _ _ _ | exact atI_2 _ _ _ _ | exact atI_3 _ _ _ _ _ | exact atI_4 _ _ _ _ _ _ | exact boolsOf_map _ | exact intsOf_map _ | exact rfl)
local macro_rules | `(tactic| walk_at "s1") => `(tactic| first
  | ((with_reducible refine' s_var ?k1 ?_); (case k1 => exact rfl))
  | with_reducible refine s_bin ?_
  | with_reducible refine s_c ?_
  | with_reducible refine s_seqM ?_
  | with_reducible refine s_asB ?_
  | with_reducible refine s_asI ?_
  | with_reducible refine s_asRI ?_
  | with_reducible refine s_acons ?_
  | with_reducible refine s_anil ?_
  | with_reducible refine s_call ?_
  | with_reducible refine s_cb ?_
  | with_reducible refine s_set ?_
  | with_reducible refine s_ixT ?_
  | with_reducible refine s_ixL ?_
  | with_reducible refine s_ixS ?_
  | ((with_reducible refine' s_getL ?k1 ?_); (case k1 => walk_at "look"))
  | ((with_reducible refine' s_opt ?k1 ?_); (case k1 => walk_at "opt"))
  | with_reducible refine s_binT ?_
  | with_reducible refine s_tup ?_
  | with_reducible refine s_tpT ?_
  | with_reducible refine s_key ?_
  | with_reducible refine s_kII ?_
  | with_reducible refine s_kIII ?_
  | with_reducible refine s_dget ?_
  | ((with_reducible refine' s_atT ?k1 ?_); (case k1 => walk_at "look"))
  | ((with_reducible refine' s_atTl ?k1 ?_); (case k1 => walk_at "look"))
  | ((with_reducible refine' s_got ?k1 ?_); (case k1 => assumption))
  | with_reducible refine s_din ?_
  | with_reducible refine s_dinT ?_
  | with_reducible refine s_dgetor ?_
  | with_reducible refine s_dput ?_
  | with_reducible refine s_dnewT ?_
  | with_reducible refine s_disp1 ?_
  | with_reducible refine s_keys ?_
  | with_reducible refine s_ixK0 ?_
  | with_reducible refine s_ixK1 ?_
  | with_reducible refine s_bTK ?_
  | with_reducible refine s_gTK ?_
  | with_reducible refine s_lst ?_
  | with_reducible refine s_ret ?_
  | with_reducible refine s_if ?_
  | with_reducible refine s_nextM ?_
  | with_reducible refine s_drop ?_
  | with_reducible refine s_par ?_
  | with_reducible refine s_asg ?_
  | with_reducible refine s_gN ?_
  | ((with_reducible refine' s_gT ?k1 ?_); (case k1 => exact rfl))
  | with_reducible refine s_gsC ?_
  | with_reducible refine s_gsN ?_
  | with_reducible refine s_gIx ?_
  | with_reducible refine s_setD ?_
  | with_reducible refine s_for ?_
  | with_reducible refine s_b ?_
  | with_reducible refine s_and ?_
  | with_reducible refine s_or ?_
  | with_reducible refine s_not ?_
  | with_reducible refine s_ife ?_
  | with_reducible refine s_neg ?_
  | with_reducible refine s_notV ?_
  | with_reducible refine s_andV ?_
  | with_reducible refine s_orV ?_
  | with_reducible refine s_isi ?_
  | with_reducible refine s_m ?_
  | with_reducible refine s_none ?_
  | with_reducible refine s_noneT ?_
  | with_reducible refine s_sl ?_
  | with_reducible refine s_oN ?_
  | with_reducible refine s_oS ?_
  | with_reducible refine s_lc ?_
  | with_reducible refine s_bN ?_
  | with_reducible refine s_bT ?_
  | with_reducible refine s_bTC ?_
  | with_reducible refine s_bTN ?_
  | with_reducible refine s_it ?_
  | with_reducible refine s_rng ?_
  | with_reducible refine s_zip ?_
  | with_reducible refine s_zip2 ?_
  | with_reducible refine s_enum ?_
  | with_reducible refine s_enum1 ?_
  | with_reducible refine s_yes ?_
  | with_reducible refine s_cT ?_
  | with_reducible refine s_cF ?_
  | with_reducible refine s_retN ?_
  | with_reducible refine s_try ?_
  | with_reducible refine s_raise0 ?_
  | with_reducible refine s_raise1 ?_
  | with_reducible refine s_isE ?_
  | with_reducible refine s_fld ?_
  | with_reducible refine s_brk ?_
  | with_reducible refine s_cnt ?_
  | ((with_reducible refine' s_aug ?k1 ?_); (case k1 => exact rfl))
  | with_reducible refine s_augix ?_
  | with_reducible refine s_addI ?_
  | ((with_reducible refine' s_addT ?k1 ?_); (case k1 => walk_at "side"))
  | ((with_reducible refine' s_addS ?k1 ?_); (case k1 => walk_at "side"))
  | with_reducible refine s_catL ?_
  | with_reducible refine s_subI ?_
  | ((with_reducible refine' s_mulI ?k1 ?_); (case k1 => walk_at "side"))
  | ((with_reducible refine' s_divI ?k1 ?_); (case k1 => walk_at "side"))
  | ((with_reducible refine' s_modI ?k1 ?_); (case k1 => walk_at "side"))
  | ((with_reducible refine' s_powI ?k1 ?_); (case k1 => walk_at "side"))
  | ((with_reducible refine' s_shlI ?k1 ?_); (case k1 => walk_at "side"))
  | with_reducible refine s_iaddI ?_
  | ((with_reducible refine' s_iaddS ?k1 ?_); (case k1 => walk_at "side"))
  | with_reducible refine s_eqI ?_
  | with_reducible refine s_neI ?_
  | with_reducible refine s_eqS ?_
  | with_reducible refine s_neS ?_
  | with_reducible refine s_eqB ?_
  | with_reducible refine s_neB ?_
  | with_reducible refine s_cmp ?_
  | ((with_reducible refine' s_ixX ?k1 ?_); (case k1 => walk_at "side"))
  | with_reducible refine s_lenT ?_
  | with_reducible refine s_lenL ?_
  | with_reducible refine s_lenC ?_
  | ((with_reducible refine' s_lenS ?k1 ?_); (case k1 => walk_at "side"))
  | with_reducible refine s_abs ?_
  | with_reducible refine s_intI ?_
  | with_reducible refine s_intB ?_
  | with_reducible refine s_gcd ?_
  | with_reducible refine s_listT ?_
  | with_reducible refine s_listL ?_
  | with_reducible refine s_tupT ?_
  | with_reducible refine s_tupL ?_
  | with_reducible refine s_all ?_
  | with_reducible refine s_any ?_
  | with_reducible refine s_sum ?_
  | with_reducible refine s_sumAT ?_
  | with_reducible refine s_sumAL ?_
  | with_reducible refine s_cnT ?_
  | with_reducible refine s_cnF ?_
  | with_reducible refine s_par3 ?_
  | with_reducible refine s_max2 ?_
  | with_reducible refine s_min2 ?_
  | with_reducible refine s_chain ?_
  | with_reducible refine s_chainT ?_
  | with_reducible refine s_inL ?_
  | with_reducible refine s_inT ?_
  | with_reducible refine s_append ?_
  | with_reducible refine s_extend ?_
  | with_reducible refine s_popAt ?_
  | with_reducible refine s_pop ?_
  | with_reducible refine s_slT ?_
  | with_reducible refine s_slL ?_
  | with_reducible refine s_itT ?_
  | with_reducible refine s_itL ?_
  | with_reducible refine s_itC ?_
  | ((with_reducible refine' s_rng1 ?k1 ?_); (case k1 => walk_at "side"))
  | ((with_reducible refine' s_rng2 ?k1 ?_); (case k1 => walk_at "side"))
  | ((with_reducible refine' s_rngD ?k1 ?_); (case k1 => walk_at "side"))
  | ((with_reducible refine' And.intro (s_isDT ?k1) ?_); (case k1 => walk_at "look"))
  | ((with_reducible refine' s_isLst ?k1 ?_); (case k1 => walk_at "look"))
  | ((with_reducible refine' s_lstOkL ?k1 ?_); (case k1 => walk_at "look"))
  | ((with_reducible refine' And.intro ?k1 ?_); (case k1 => walk_at "side")))
local macro_rules | `(tactic| walk_at "s") => `(tactic| repeat (walk_at "s1"))
/-- agreement off one place -/
def Sx (d : Addr) (s t : DS) : Prop := ∀ a o, a ≠ d → s a = some o → t a = some o
theorem Sx.refl (d : Addr) (s : DS) : Sx d s s := fun _ _ _ h => h
theorem Sx.trans {d : Addr} {s t u : DS} (a : Sx d s t) (b : Sx d t u) : Sx d s u := fun c o n h => b c o n (a c o n h)
theorem Sx.put {d : Addr} {s : DS} {o : OB} : Sx d s (put s d o) := fun a u n h => by rw [put_ne n]; exact h
theorem Sx.of {d : Addr} {s t : DS} (h : Sub s t) : Sx d s t := fun a o _ e => h a o e
theorem Sx.new {d p : Addr} {s : DS} {o : OB} (h : s p = none) : Sx d s (DL.put s p o) := Sx.of (Sub.put_new h)
/-- the state of the draws at d, its cells at c -/
def DrawO (c : Addr) (o : OB) : Prop := ∃ p r s : Int, o = .lst [.ref c, .int p, .int r, .int s] ∧ 0 ≤ p ∧ 0 ≤ r
structure DK (st : DS) (d c : Addr) (ns : List Int) : Prop where
  hd : ∃ o, st d = some o ∧ DrawO c o
  hc : st c = some (.lst (ns.map D.int))
  ne : c ≠ d
theorem DK.put {st : DS} {d c : Addr} {ns : List Int} (h : DK st d c ns) {o : OB} (ho : DrawO c o) : DK (put st d o) d c ns := ⟨⟨o, put_same, ho⟩, by rw [put_ne h.ne]; exact h.hc, h.ne⟩
theorem DK.sub {st st' : DS} {d c : Addr} {ns : List Int} (h : DK st d c ns) (s : Sub st st') : DK st' d c ns := by
  obtain ⟨⟨o, e, q⟩, hc, ne⟩ := h
  exact ⟨⟨o, s _ _ e, q⟩, s _ _ hc, ne⟩
theorem DK.new {st : DS} {d c p : Addr} {ns : List Int} {o : OB} (h : DK st d c ns) (hp : st p = none) : DK (DL.put st p o) d c ns := h.sub (Sub.put_new hp)
/-- what one draw after another brings about -/
structure Dr (d c : Addr) (ns : List Int) (st st' : DS) : Prop where
  sx : Sx d st st'
  dk : DK st' d c ns
theorem Dr.refl {d c : Addr} {ns : List Int} {st : DS} (h : DK st d c ns) : Dr d c ns st st := ⟨.refl _ _, h⟩
theorem Dr.trans {d c : Addr} {ns : List Int} {s t u : DS} (a : Dr d c ns s t) (b : Dr d c ns t u) : Dr d c ns s u := ⟨a.sx.trans b.sx, b.dk⟩
theorem Dr.new {d c p : Addr} {ns : List Int} {s t : DS} {o : OB} (a : Dr d c ns s t) (h : t p = none) : Dr d c ns s (DL.put t p o) := ⟨a.sx.trans (.new h), a.dk.new h⟩
def spDraw : SpD := fun ds st R _ => ∃ (d c : Addr) (ns : List Int) (many : Int), ds = [.ref d, .int many] ∧ DK st d c ns ∧ 0 < many ∧ many.natAbs.log2 < 9000 ∧
  ∀ v st', 0 ≤ v → v < many → Dr d c ns st st' → R (.int v) st'
theorem len_draw : ∀ ds st R Rx, spDraw ds st R Rx → ds.length = 2 := by
  rintro ds st R Rx ⟨d, c, ns, many, rfl, -⟩; rfl
theorem atI_ints {ns : List Int} {p : Int} (h0 : 0 ≤ p) (h1 : p < ns.length) : ∃ z, atI (ns.map D.int) p = some (.int z) := by
  obtain ⟨k, rfl⟩ := Int.eq_ofNat_of_zero_le h0
  have hk : k < ns.length := by omega
  exact ⟨ns[k], atI_nat (by rw [List.getElem?_map, List.getElem?_eq_getElem hk]; rfl)⟩
theorem read_draw : ∀ ds st R Rx, spDraw ds st R Rx → wb_law_draw (bodyEd R Rx) (startD 5 ds) st := by
  rintro ds st R Rx ⟨d, c, ns, many, rfl, dk, hm, hl, kk⟩
  have k : ∀ v o, 0 ≤ v → v < many → DrawO c o → R (.int v) (DL.put st d o) := fun v o h0 h1 ho => kk v _ h0 h1 ⟨.put, dk.put ho⟩
  obtain ⟨⟨o, ho, p, r, s, rfl, h0, hr⟩, hc, ne⟩ := dk
  unfold wb_law_draw bodyEd
  walk_at "s"
  refine s_dec (fun e => ?_) (fun e => ?_)
  · walk_at "s"
    refine s_end (k _ _ (Int.emod_nonneg _ (by omega)) (Int.emod_lt_of_pos _ hm) ⟨_, _, _, rfl, h0, Int.ediv_nonneg hr (by omega)⟩)
  · walk_at "s"
    refine s_dec (fun e1 => ?_) (fun e1 => ?_)
    · walk_at "s"
      rw [List.length_map] at e1
      obtain ⟨z, hz⟩ := atI_ints h0 e1
      refine s_opt hz ?_
      walk_at "s"
      have hz0 : 0 ≤ (2 * if z < 0 then -z else z) + if decide (z < 0) = true then 1 else 0 := by split <;> split <;> omega
      refine s_dec (fun e2 => ?_) (fun e2 => ?_)
      · walk_at "s"
        rw [put_put]
        exact s_end (k _ _ (Int.emod_nonneg _ (by omega)) (Int.emod_lt_of_pos _ hm) ⟨_, _, _, rfl, by omega, Int.ediv_nonneg (Int.emod_nonneg _ (by decide)) (by omega)⟩)
      · walk_at "s"
        rw [put_put]
        exact s_end (k _ _ (Int.emod_nonneg _ (by omega)) (Int.emod_lt_of_pos _ hm) ⟨_, _, _, rfl, by omega, by omega⟩)
    · walk_at "s"
      refine s_dec (fun e2 => ?_) (fun e2 => ?_)
      · walk_at "s"
        rw [put_put]
        exact s_end (k _ _ (Int.emod_nonneg _ (by omega)) (Int.emod_lt_of_pos _ hm) ⟨_, _, _, rfl, by omega, Int.ediv_nonneg (Int.emod_nonneg _ (by decide)) (by omega)⟩)
      · walk_at "s"
        rw [put_put]
        exact s_end (k _ _ (Int.emod_nonneg _ (by omega)) (Int.emod_lt_of_pos _ hm) ⟨_, _, _, rfl, by omega, by omega⟩)
/-! the begin -/
def spBegin : SpD := fun ds st R _ => ∃ ns : List Int, ds = [.scr (ns.map D.int)] ∧ ns.length ≤ sizeLine ∧ ∀ d c st', Sub st st' → DK st' d c ns → R (.ref d) st'
theorem len_begin : ∀ ds st R Rx, spBegin ds st R Rx → ds.length = 1 := by
  rintro ds st R Rx ⟨ns, rfl, -⟩; rfl
theorem read_begin : ∀ ds st R Rx, spBegin ds st R Rx → wb_law_begin (bodyEd R Rx) (startD 2 ds) st := by
  rintro ds st R Rx ⟨ns, rfl, hl, k⟩
  unfold wb_law_begin bodyEd
  walk_at "s"
  refine lc_calm (fun d => d) (fun _ => true) trivial (by simpa using hl) (fun d hd kk kn h1 h2 => ?_) ?_
  · obtain ⟨z, -, rfl⟩ := List.mem_map.mp hd
    walk_at "s"
    exact h1 rfl
  · rw [List.filter_eq_self.mpr (fun _ _ => rfl), List.map_id', List.nil_append]
    intro c hc
    walk_at "s"
    intro d hd
    have nd : c ≠ d := fun e => by rw [e, put_same] at hd; cases hd
    exact s_end (k d c _ ((Sub.put_new hc).trans (Sub.put_new hd)) ⟨⟨_, put_same, _, _, _, rfl, by decide, by decide⟩, by rw [put_ne nd, put_same], nd⟩)
/-! is a whole number -/
def spIsInt : SpD := fun ds st R _ => ∃ d, ds = [d] ∧ lstOk d st ∧ R (.bl (isTy .int d && !isTy .bool d)) st
theorem len_is_int : ∀ ds st R Rx, spIsInt ds st R Rx → ds.length = 1 := by
  rintro ds st R Rx ⟨ns, rfl, -⟩; rfl
theorem read_is_int : ∀ ds st R Rx, spIsInt ds st R Rx → wb_law_is_int (bodyEd R Rx) (startD 1 ds) st := by
  rintro ds st R Rx ⟨d, rfl, hl, k⟩
  unfold wb_law_is_int bodyEd
  walk_at "s"
  refine s_b2 (fun e => ?_) (fun e => ?_)
  · walk_at "s"
    rw [e] at k
    exact s_end k
  · walk_at "s"
    rw [e] at k
    exact s_end k
/-! gcd -/
def spGcd : SpD := fun ds st R _ => ∃ a b : Int, ds = [.int a, .int b] ∧ R (.int ((Nat.gcd a.natAbs b.natAbs : Nat) : Int)) st
theorem len_gcd : ∀ ds st R Rx, spGcd ds st R Rx → ds.length = 2 := by
  rintro ds st R Rx ⟨a, b, rfl, -⟩; rfl
theorem abs_eq (a : Int) : (if a < 0 then -a else a) = (a.natAbs : Int) := by split <;> omega
theorem read_gcd : ∀ ds st R Rx, spGcd ds st R Rx → wb_law_gcd (bodyEd R Rx) (startD 2 ds) st := by
  rintro ds st R Rx ⟨a, b, rfl, k⟩
  unfold wb_law_gcd bodyEd
  walk_at "s"
  rw [abs_eq, abs_eq]
  refine ⟨fun m ep st' => ∃ x y : Nat, m = y ∧ st' = st ∧ ep = [some (.int x), some (.int y)] ∧ Nat.gcd x y = Nat.gcd a.natAbs b.natAbs, ⟨_, _, _, rfl, rfl, rfl, rfl⟩, ?_⟩
  rintro m ep st' ⟨x, y, rfl, rfl, rfl, hg⟩
  walk_at "s"
  refine s_ndec (fun e => ?_) (fun e => ?_)
  · walk_at "s"
    refine ⟨x % m, Nat.mod_lt _ (by omega), m, x % m, rfl, rfl, rfl, ?_⟩
    rw [← hg, Nat.gcd_comm x m, Nat.gcd_rec m x, Nat.gcd_comm]
  · walk_at "s"
    have : m = 0 := by omega
    subst this
    rw [Nat.gcd_zero_right] at hg
    exact s_end (by rw [hg]; exact k)
/-! fractions -/
/-- what holds of n over d brought to lowest terms -/
def FracK (n d : Int) (q : Int → Int → Prop) : Prop := ∀ n' d' : Int, 0 < d' → n' * d = n * d' → Nat.gcd n'.natAbs d'.natAbs = 1 → n'.natAbs ≤ n.natAbs → d'.natAbs ≤ d.natAbs → q n' d'
def fr (n d : Int) : D := .tup [.int n, .int d]
theorem div_gcd {n d : Int} (hd : 0 < d) {q : Int → Int → Prop} (h : FracK n d q) : q (n / ((Nat.gcd n.natAbs d.natAbs : Nat) : Int)) (d / ((Nat.gcd n.natAbs d.natAbs : Nat) : Int)) := by
  have hg : 0 < Nat.gcd n.natAbs d.natAbs := Nat.gcd_pos_of_pos_right _ (by omega)
  obtain ⟨x, hx⟩ : ((Nat.gcd n.natAbs d.natAbs : Nat) : Int) ∣ n := Int.ofNat_dvd_left.mpr (Nat.gcd_dvd_left _ _)
  obtain ⟨y, hy⟩ : ((Nat.gcd n.natAbs d.natAbs : Nat) : Int) ∣ d := Int.ofNat_dvd_left.mpr (Nat.gcd_dvd_right _ _)
  generalize eg : Nat.gcd n.natAbs d.natAbs = g at *
  have hg0 : (g : Int) ≠ 0 := by omega
  have ex : n / (g : Int) = x := by rw [hx]; exact Int.mul_ediv_cancel_left _ hg0
  have ey : d / (g : Int) = y := by rw [hy]; exact Int.mul_ediv_cancel_left _ hg0
  rw [ex, ey]
  have hy0 : 0 < y := by
    rw [hy] at hd
    exact Int.pos_of_mul_pos_right hd (by omega)
  refine h x y hy0 ?_ ?_ ?_ ?_
  · rw [hx, hy, Int.mul_comm (g : Int) x, Int.mul_assoc]
  · rw [hx, hy, Int.natAbs_mul, Int.natAbs_mul, Int.natAbs_natCast, Nat.gcd_mul_left] at eg
    exact Nat.eq_of_mul_eq_mul_left hg (by rw [eg, Nat.mul_one])
  · rw [hx, Int.natAbs_mul, Int.natAbs_natCast]; exact Nat.le_mul_of_pos_left _ hg
  · rw [hy, Int.natAbs_mul, Int.natAbs_natCast]; exact Nat.le_mul_of_pos_left _ hg
theorem FracK.neg {n d : Int} {q : Int → Int → Prop} (h : FracK n d q) : FracK (-n) (-d) q := fun n' d' h1 h2 h3 h4 h5 => h n' d' h1 (by rw [Int.mul_neg, Int.neg_mul] at h2; exact Int.neg_inj.mp h2) h3 (by rwa [Int.natAbs_neg] at h4) (by rwa [Int.natAbs_neg] at h5)
def spFrac : SpD := fun ds st R _ => ∃ n d : Int, ds = [.int n, .int d] ∧ d ≠ 0 ∧ d.natAbs.log2 < 9000 ∧ FracK n d fun n' d' => R (fr n' d') st
theorem len_frac : ∀ ds st R Rx, spFrac ds st R Rx → ds.length = 2 := by
  rintro ds st R Rx ⟨n, d, rfl, -⟩; rfl
theorem log2_le {a b : Nat} (h : a ≤ b) (ha : 0 < a) {k : Nat} (hb : b.log2 < k) : a.log2 < k := by
  have hb0 : b ≠ 0 := by omega
  exact (Nat.log2_lt (by omega)).mpr (Nat.lt_of_le_of_lt h ((Nat.log2_lt hb0).mp hb))
theorem gcd_side {n d : Int} (hd : d ≠ 0) (hl : d.natAbs.log2 < 9000) : 0 < ((Nat.gcd n.natAbs d.natAbs : Nat) : Int) ∧ (((Nat.gcd n.natAbs d.natAbs : Nat) : Int)).natAbs.log2 < 9000 := by
  have hg : 0 < Nat.gcd n.natAbs d.natAbs := Nat.gcd_pos_of_pos_right _ (by omega)
  refine ⟨by omega, ?_⟩
  rw [Int.natAbs_natCast]
  exact log2_le (Nat.gcd_le_right _ (by omega)) hg hl
theorem read_frac : ∀ ds st R Rx, spFrac ds st R Rx → wb_law_frac spGcd (bodyEd R Rx) (startD 3 ds) st := by
  rintro ds st R Rx ⟨n, d, rfl, hd, hl, k⟩
  unfold wb_law_frac bodyEd
  walk_at "s"
  refine s_dec (fun e => ?_) (fun e => ?_)
  · walk_at "s"
    refine ⟨_, _, rfl, ?_⟩
    walk_at "s"
    refine s_divI (gcd_side (by omega) (by rwa [Int.natAbs_neg])) ?_
    walk_at "s"
    refine s_divI (gcd_side (by omega) (by rwa [Int.natAbs_neg])) ?_
    walk_at "s"
    exact s_end (div_gcd (by omega) k.neg)
  · walk_at "s"
    refine ⟨_, _, rfl, ?_⟩
    walk_at "s"
    refine s_divI (gcd_side (by omega) hl) ?_
    walk_at "s"
    refine s_divI (gcd_side (by omega) hl) ?_
    walk_at "s"
    exact s_end (div_gcd (by omega) k)
theorem read_fraction : ∀ ds st R Rx, spFrac ds st R Rx → wb_fraction (bodyEd R Rx) (startD 3 ds) st := by
  rintro ds st R Rx ⟨n, d, rfl, hd, hl, k⟩
  unfold wb_fraction bodyEd
  walk_at "s"
  refine s_noP hd ?_
  walk_at "s"
  refine s_dec (fun e => ?_) (fun e => ?_)
  · walk_at "s"
    refine s_divI (gcd_side (by omega) (by rwa [Int.natAbs_neg])) ?_
    walk_at "s"
    refine s_divI (gcd_side (by omega) (by rwa [Int.natAbs_neg])) ?_
    walk_at "s"
    exact s_end (div_gcd (by omega) k.neg)
  · walk_at "s"
    refine s_divI (gcd_side (by omega) hl) ?_
    walk_at "s"
    refine s_divI (gcd_side (by omega) hl) ?_
    walk_at "s"
    exact s_end (div_gcd (by omega) k)
/-- the product of two -/
def spTimes : SpD := fun ds st R _ => ∃ a b c d : Int, ds = [fr a b, fr c d] ∧ MulOk a c ∧ MulOk b d ∧ b * d ≠ 0 ∧ (b * d).natAbs.log2 < 9000 ∧ FracK (a * c) (b * d) fun n' d' => R (fr n' d') st
def spOver : SpD := fun ds st R _ => ∃ a b c d : Int, ds = [fr a b, fr c d] ∧ MulOk a d ∧ MulOk b c ∧ b * c ≠ 0 ∧ (b * c).natAbs.log2 < 9000 ∧ FracK (a * d) (b * c) fun n' d' => R (fr n' d') st
theorem len_times : ∀ ds st R Rx, spTimes ds st R Rx → ds.length = 2 := by
  rintro ds st R Rx ⟨_, _, _, _, rfl, -⟩; rfl
theorem len_over : ∀ ds st R Rx, spOver ds st R Rx → ds.length = 2 := by
  rintro ds st R Rx ⟨_, _, _, _, rfl, -⟩; rfl
theorem read_ltimes : ∀ ds st R Rx, spTimes ds st R Rx → wb_law_times spFrac (bodyEd R Rx) (startD 2 ds) st := by
  rintro ds st R Rx ⟨a, b, c, d, rfl, h1, h2, h3, h4, k⟩
  unfold wb_law_times bodyEd fr
  walk_at "s"
  exact ⟨_, _, rfl, h3, h4, fun n' d' z1 z2 z3 z4 z5 => s_end (k n' d' z1 z2 z3 z4 z5)⟩
theorem read_lover : ∀ ds st R Rx, spOver ds st R Rx → wb_law_over spFrac (bodyEd R Rx) (startD 2 ds) st := by
  rintro ds st R Rx ⟨a, b, c, d, rfl, h1, h2, h3, h4, k⟩
  unfold wb_law_over bodyEd fr
  walk_at "s"
  exact ⟨_, _, rfl, h3, h4, fun n' d' z1 z2 z3 z4 z5 => s_end (k n' d' z1 z2 z3 z4 z5)⟩
theorem read_times : ∀ ds st R Rx, spTimes ds st R Rx → wb_times spFrac (bodyEd R Rx) (startD 2 ds) st := by
  rintro ds st R Rx ⟨a, b, c, d, rfl, h1, h2, h3, h4, k⟩
  unfold wb_times bodyEd fr
  walk_at "s"
  exact ⟨_, _, rfl, h3, h4, fun n' d' z1 z2 z3 z4 z5 => s_end (k n' d' z1 z2 z3 z4 z5)⟩
theorem read_over : ∀ ds st R Rx, spOver ds st R Rx → wb_over spFrac (bodyEd R Rx) (startD 2 ds) st := by
  rintro ds st R Rx ⟨a, b, c, d, rfl, h1, h2, h3, h4, k⟩
  unfold wb_over bodyEd fr
  walk_at "s"
  exact ⟨_, _, rfl, h3, h4, fun n' d' z1 z2 z3 z4 z5 => s_end (k n' d' z1 z2 z3 z4 z5)⟩
/-- a1/a2 at most b1/b2; less -/
def spAtMost : SpD := fun ds st R _ => ∃ a b c d : Int, ds = [fr a b, fr c d] ∧ MulOk a d ∧ MulOk c b ∧ R (.bl (decide (a * d ≤ c * b))) st
def spLess : SpD := fun ds st R _ => ∃ a b c d : Int, ds = [fr a b, fr c d] ∧ MulOk a d ∧ MulOk c b ∧ R (.bl (decide (a * d < c * b))) st
theorem len_at_most : ∀ ds st R Rx, spAtMost ds st R Rx → ds.length = 2 := by
  rintro ds st R Rx ⟨_, _, _, _, rfl, -⟩; rfl
theorem len_less : ∀ ds st R Rx, spLess ds st R Rx → ds.length = 2 := by
  rintro ds st R Rx ⟨_, _, _, _, rfl, -⟩; rfl
theorem read_at_most : ∀ ds st R Rx, spAtMost ds st R Rx → wb_at_most (bodyEd R Rx) (startD 2 ds) st := by
  rintro ds st R Rx ⟨a, b, c, d, rfl, h1, h2, k⟩
  unfold wb_at_most bodyEd fr
  walk_at "s"
  exact s_end k
theorem read_less : ∀ ds st R Rx, spLess ds st R Rx → wb_law_less (bodyEd R Rx) (startD 2 ds) st := by
  rintro ds st R Rx ⟨a, b, c, d, rfl, h1, h2, k⟩
  unfold wb_law_less bodyEd fr
  walk_at "s"
  exact s_end k
/-- a fraction with no sign: drawn -/
def spFraction : SpD := fun ds st R _ => ∃ (d c : Addr) (ns : List Int) (top bot : Int), ds = [.ref d, .int top, .int bot] ∧ DK st d c ns ∧ 0 ≤ top ∧ (top + 1).natAbs.log2 < 9000 ∧ 0 < bot ∧ bot.natAbs.log2 < 9000 ∧
  ∀ n m st', 0 ≤ n → n ≤ top → 0 < m → m ≤ bot → Nat.gcd n.natAbs m.natAbs = 1 → Dr d c ns st st' → R (fr n m) st'
theorem len_fraction : ∀ ds st R Rx, spFraction ds st R Rx → ds.length = 3 := by
  rintro ds st R Rx ⟨_, _, _, _, _, rfl, -⟩; rfl
/-- of a fraction with 0 <= n, 0 < d: the terms -/
theorem FracK.pos {n d : Int} (h0 : 0 ≤ n) (hd : 0 < d) {q : Int → Int → Prop} (h : ∀ n' d' : Int, 0 ≤ n' → n' ≤ n → 0 < d' → d' ≤ d → n' * d = n * d' → Nat.gcd n'.natAbs d'.natAbs = 1 → q n' d') : FracK n d q := fun n' d' h1 h2 h3 h4 h5 => by
  have : 0 ≤ n' := by
    rcases Int.lt_or_le n' 0 with hn | hn
    · have := Int.mul_neg_of_neg_of_pos hn hd
      have h9 : 0 ≤ n * d' := Int.mul_nonneg h0 (by omega)
      omega
    · exact hn
  exact h n' d' this (by omega) h1 (by omega) h2 h3
theorem read_lfraction : ∀ ds st R Rx, spFraction ds st R Rx → wb_law_fraction spFrac spDraw (bodyEd R Rx) (startD 3 ds) st := by
  rintro ds st R Rx ⟨d, c, ns, top, bot, rfl, dk, h0, h1, h2, h3, k⟩
  unfold wb_law_fraction bodyEd
  walk_at "s"
  refine ⟨d, c, ns, _, rfl, dk, by omega, h1, fun v st1 hv1 hv2 r1 => ?_⟩
  walk_at "s"
  refine ⟨d, c, ns, _, rfl, r1.dk, by omega, h3, fun v2 st2 hv3 hv4 r2 => ?_⟩
  walk_at "s"
  refine ⟨_, _, rfl, by omega, log2_le (b := bot.natAbs) (by omega) (by omega) h3, FracK.pos (by omega) (by omega) fun n' d' z1 z2 z3 z4 z5 z6 => s_end (k _ _ _ z1 (by omega) z3 (by omega) z6 (r1.trans r2))⟩
/-- a fraction in (0, 1] -/
def spAboveZero : SpD := fun ds st R _ => ∃ (d c : Addr) (ns : List Int) (bot : Int), ds = [.ref d, .int bot] ∧ DK st d c ns ∧ 0 < bot ∧ bot.natAbs.log2 < 9000 ∧
  ∀ n m st', 0 < n → n ≤ m → m ≤ bot → Nat.gcd n.natAbs m.natAbs = 1 → Dr d c ns st st' → R (fr n m) st'
theorem len_above_zero : ∀ ds st R Rx, spAboveZero ds st R Rx → ds.length = 2 := by
  rintro ds st R Rx ⟨_, _, _, _, rfl, -⟩; rfl
theorem read_above_zero : ∀ ds st R Rx, spAboveZero ds st R Rx → wb_law_above_zero spDraw spFrac (bodyEd R Rx) (startD 3 ds) st := by
  rintro ds st R Rx ⟨d, c, ns, bot, rfl, dk, h0, h1, k⟩
  unfold wb_law_above_zero bodyEd
  walk_at "s"
  refine ⟨d, c, ns, _, rfl, dk, by omega, h1, fun v st1 hv1 hv2 r1 => ?_⟩
  walk_at "s"
  have hl : (1 + v).natAbs.log2 < 9000 := log2_le (b := bot.natAbs) (by omega) (by omega) h1
  refine ⟨d, c, ns, _, rfl, r1.dk, by omega, hl, fun v2 st2 hv3 hv4 r2 => ?_⟩
  walk_at "s"
  refine ⟨_, _, rfl, by omega, hl, FracK.pos (by omega) (by omega) fun n' d' z1 z2 z3 z4 z5 z6 => s_end (k _ _ _ ?_ ?_ (by omega) z6 (r1.trans r2))⟩
  · rcases Int.lt_or_le 0 n' with h | h
    · exact h
    · have : n' = 0 := by omega
      rw [this, Int.zero_mul] at z5
      have := Int.mul_pos (show (0 : Int) < 1 + v2 by omega) z3
      omega
  · have a1 : n' * (1 + v) ≤ (1 + v) * d' := by rw [z5]; exact Int.mul_le_mul_of_nonneg_right (by omega) (by omega)
    rw [Int.mul_comm] at a1
    exact Int.le_of_mul_le_mul_left a1 (by omega)
/-! sizes -/
theorem sm {x : Int} (h0 : 0 < x) (h1 : x ≤ 100000000000000000000) : x.natAbs.log2 < 9000 := log2_le (b := 100000000000000000000) (by omega) (by omega) (by decide +kernel)
theorem smm {b d : Int} (h0 : 0 < b) (h1 : b ≤ 10000000000) (h2 : 0 < d) (h3 : d ≤ 10000000000) : b * d ≠ 0 ∧ 0 < b * d ∧ b * d ≤ 100000000000000000000 ∧ (b * d).natAbs.log2 < 9000 := by
  have a := Int.mul_pos h0 h2
  have b1 : b * d ≤ 10000000000 * d := Int.mul_le_mul_of_nonneg_right h1 (by omega)
  exact ⟨by omega, a, by omega, sm a (by omega)⟩
theorem _root_.DL.Sub.none {s t : DS} (h : Sub s t) {p : Addr} (e : t p = none) : s p = none := by
  cases q : s p with
  | none => rfl
  | some o => rw [h _ _ q] at e; cases e
/-! every row of letters -/
def rowD (r : List Int) : D := .tup (r.map D.int)
def rowsOf (L : Nat) : Nat → List (List Int)
  | 0 => [[]]
  | n + 1 => (rowsOf L n).flatMap fun row => (List.range L).map fun i : Nat => row ++ [(i : Int)]
theorem rowsOf_length (L : Nat) : ∀ n, (rowsOf L n).length = L ^ n
  | 0 => rfl
  | n + 1 => by
    have : ∀ xs : List (List Int), (xs.flatMap fun row => (List.range L).map fun i : Nat => row ++ [(i : Int)]).length = xs.length * L := by
      intro xs
      induction xs with
      | nil => simp
      | cons x xs ih => rw [List.flatMap_cons, List.length_append, ih, List.length_map, List.length_range, List.length_cons, Nat.succ_mul, Nat.add_comm]
    rw [rowsOf, this, rowsOf_length L n, Nat.pow_succ]
theorem rowsOf_len {L : Nat} : ∀ {n : Nat} {r : List Int}, r ∈ rowsOf L n → r.length = n
  | 0, r, h => by
    have : r = [] := by simpa [rowsOf] using h
    subst this; rfl
  | n + 1, r, h => by
    obtain ⟨row, h1, h2⟩ := List.mem_flatMap.mp h
    obtain ⟨i, -, rfl⟩ := List.mem_map.mp h2
    rw [List.length_append, rowsOf_len h1]; rfl
theorem rowsOf_mem {L : Nat} : ∀ {n : Nat} {f : Nat → Nat}, (∀ i, i < n → f i < L) → ((List.range n).map fun i => ((f i : Nat) : Int)) ∈ rowsOf L n
  | 0, f, _ => by simp [rowsOf]
  | n + 1, f, h => by
    rw [List.range_succ, List.map_append]
    refine List.mem_flatMap.mpr ⟨_, rowsOf_mem fun i hi => h i (by omega), List.mem_map.mpr ⟨f n, List.mem_range.mpr (h n (by omega)), rfl⟩⟩
def spAllRows : SpD := fun ds st R _ => ∃ L n : Nat, ds = [.int L, .int n] ∧ L ^ n ≤ sizeLine ∧ n ≤ 1000 ∧ 0 < L ∧ L ≤ 1000 ∧ ∀ p st', Sub st st' → st' p = some (.lst ((rowsOf L n).map rowD)) → R (.ref p) st'
theorem len_all_rows : ∀ ds st R Rx, spAllRows ds st R Rx → ds.length = 2 := by
  rintro ds st R Rx ⟨_, _, rfl, -⟩; rfl
theorem read_all_rows : ∀ ds st R Rx, spAllRows ds st R Rx → wb_law_all_rows (bodyEd R Rx) (startD 7 ds) st := by
  rintro ds st R Rx ⟨L, n, rfl, hs, hn, hL, hL2, k⟩
  unfold wb_law_all_rows bodyEd
  walk_at "s"
  intro p0 hp0
  walk_at "s"
  refine for_ind (fun rest ep st' => ∃ j p x3 x4 x5 x6, rest.length + j = n ∧ ep = [some (.int L), some (.int n), some (.ref p), x3, x4, x5, x6] ∧ Sub st st' ∧ st' p = some (.lst ((rowsOf L j).map rowD))) ?_ ?_ _ _ _ ⟨0, p0, none, none, none, none, by simp, rfl, Sub.put_new hp0, put_same⟩
  · rintro ep st' ⟨j, p, x3, x4, x5, x6, hj, rfl, hs', hp⟩
    refine ⟨trivial, ?_⟩
    walk_at "s"
    simp only [List.length_nil, Nat.zero_add] at hj
    subst hj
    exact s_end (k _ _ hs' hp)
  · rintro d r ep st' ⟨j, p, x3, x4, x5, x6, hj, rfl, hs', hp⟩ ih
    refine ⟨trivial, ?_⟩
    have hlen : ((rowsOf L j).map rowD).length * L ≤ sizeLine := by
      rw [List.length_map, rowsOf_length, ← Nat.pow_succ]
      refine Nat.le_trans (Nat.pow_le_pow_right hL ?_) hs
      simp only [List.length_cons] at hj; omega
    rw [List.length_map] at hlen
    walk_at "s"
    intro q hq
    have npq : p ≠ q := fun e => by rw [e, hq] at hp; cases hp
    walk_at "s"
    refine for_ind (fun rest ep T => ∃ pre suf x3 x5 x6, rowsOf L j = pre ++ suf ∧ rest = suf.map rowD ∧ ep = [some (.int L), some (.int n), some (.ref p), x3, some (.ref q), x5, x6] ∧ Sub st T ∧ T p = some (.lst ((rowsOf L j).map rowD)) ∧
      T q = some (.lst ((pre.flatMap fun row => (List.range L).map fun i : Nat => row ++ [(i : Int)]).map rowD))) ?_ ?_ _ _ _ ⟨[], rowsOf L j, _, _, _, rfl, rfl, rfl, hs'.put_to _ (hs'.none hq), by rw [put_ne npq]; exact hp, put_same⟩
    · rintro ep T ⟨pre, suf, x3, x5, x6, e, e2, rfl, sT, hp, hq⟩
      refine ⟨hp, ?_⟩
      walk_at "s"
      have : suf = [] := by cases suf with
        | nil => rfl
        | cons _ _ => cases e2
      subst this
      rw [List.append_nil] at e
      rw [← e] at hq
      exact ih _ _ ⟨j + 1, q, _, _, _, _, by simp only [List.length_cons] at hj; omega, rfl, sT, hq⟩
    · rintro d2 r2 ep T ⟨pre, suf, x3, x5, x6, e, e2, rfl, sT, hp, hqT⟩ ih2
      refine ⟨hp, ?_⟩
      cases suf with
      | nil => cases e2
      | cons row suf =>
        obtain ⟨rfl, rfl⟩ := List.cons.inj e2
        have hrow : row.length = j := rowsOf_len (L := L) (n := j) (by rw [e]; exact List.mem_append_right _ List.mem_cons_self)
        have hjn : j < n := by simp only [List.length_cons] at hj; omega
        walk_at "s"
        rw [Int.toNat_natCast]
        have hll : L ≤ sizeLine := by show L ≤ 2 ^ 24; omega
        refine lc_calm (fun d => match d with | .int i => .tup (row.map D.int ++ [.int i]) | d => d) (fun _ => true) trivial (by rw [List.length_map, List.length_range, List.length_nil]; omega) (fun d hd kk kn h1 h2 => ?_) ?_
        · obtain ⟨i, -, rfl⟩ := List.mem_map.mp hd
          unfold rowD
          walk_at "s"
          refine s_addT (by rw [List.length_map, hrow]; show j + 1 ≤ 2 ^ 24; omega) ?_
          exact h1 rfl
        · rw [List.filter_eq_self.mpr (fun _ _ => rfl), List.map_map, List.nil_append]
          intro u hu
          have nqu : q ≠ u := fun e => by rw [e, hu] at hqT; cases hqT
          have npu : p ≠ u := fun e => by rw [e, hu] at hp; cases hp
          walk_at "s"
          have hl2 : (pre.flatMap fun row => (List.range L).map fun i : Nat => row ++ [(i : Int)]).length = pre.length * L := by
            clear e hqT
            induction pre with
            | nil => simp
            | cons x xs ih => rw [List.flatMap_cons, List.length_append, ih, List.length_map, List.length_range, List.length_cons, Nat.succ_mul, Nat.add_comm]
          have hpl : pre.length + 1 ≤ (rowsOf L j).length := by rw [e, List.length_append, List.length_cons]; omega
          have hm : (pre.length + 1) * L ≤ (rowsOf L j).length * L := Nat.mul_le_mul_right _ hpl
          rw [Nat.succ_mul] at hm
          refine ⟨by rw [List.length_map, hl2, List.length_map, List.length_range]; omega, ?_⟩
          refine ih2 _ _ ⟨pre ++ [row], suf, _, _, _, by rw [e, List.append_assoc]; rfl, rfl, rfl, (sT.put_to _ (sT.none hu)).put_to _ (hs'.none hq), ?_, ?_⟩
          · rw [put_ne npq, put_ne npu]; exact hp
          · rw [put_same, List.flatMap_append, List.map_append, List.flatMap_cons, List.flatMap_nil, List.append_nil, List.map_map]
            congr 3
            refine List.map_congr_left fun i _ => ?_
            show D.tup _ = D.tup _
            rw [List.map_append, Int.zero_add]; rfl
end C
end DL

namespace DL
namespace C
open PySem L2
local macro_rules | `(tactic| walk_at "look") => `(tactic| first
  | assumption
  | exact put_same
  | (refine look_ne (by first | assumption | exact Ne.symm (by assumption)) ?_; walk_at "look")
  | (refine look_new (by assumption) ?_; walk_at "look"))
local macro_rules | `(tactic| walk_at "side") => `(tactic| first | assumption | exact trivial | decide | omega | exact ⟨by assumption, by assumption⟩ | exact ⟨by omega, by omega⟩ | exact ⟨by decide, by decide⟩ | exact ⟨by decide, by decide, by decide⟩ | (exact .inl (.inl ⟨by decide, by decide⟩)) | (exact .inl (.inr ⟨by decide, by decide⟩)) | (exact .inl (.inl ⟨by omega, by omega⟩)) | (exact .inl (.inr ⟨by omega, by omega⟩)))
local macro_rules | `(tactic| walk_at "opt") => `(tactic| first | (with_reducible exact atI_0 _ _) | (with_reducible exact atI_1 _ _ _) | (with_reducible exact atI_2 _ _ _ _) | (with_reducible exact atI_3 _ _ _ _ _) | (with_reducible exact atI_4 _ _ _ _ _ _) | assumption | exact atI_0 _ _ | exact atI_1 _ _ _ | exact atI_2 _ _ _ _ | exact atI_3 _ _ _ _ _ | exact atI_4 _ _ _ _ _ _ | exact boolsOf_map _ | exact intsOf_map _ | exact rfl)
local macro_rules | `(tactic| walk_at "s1") => `(tactic| first
  | ((with_reducible refine' s_var ?k1 ?_); (case k1 => exact rfl))
  | with_reducible refine s_bin ?_
  | with_reducible refine s_c ?_
  | with_reducible refine s_seqM ?_
  | with_reducible refine s_asB ?_
  | with_reducible refine s_asI ?_
  | with_reducible refine s_asRI ?_
  | with_reducible refine s_acons ?_
  | with_reducible refine s_anil ?_
  | with_reducible refine s_call ?_
  | with_reducible refine s_cb ?_
  | with_reducible refine s_set ?_
  | with_reducible refine s_ixT ?_
  | with_reducible refine s_ixL ?_
  | with_reducible refine s_ixS ?_
  | ((with_reducible refine' s_getL ?k1 ?_); (case k1 => walk_at "look"))
  | ((with_reducible refine' s_opt ?k1 ?_); (case k1 => walk_at "opt"))
  | with_reducible refine s_binT ?_
  | with_reducible refine s_tup ?_
  | with_reducible refine s_tpT ?_
  | with_reducible refine s_key ?_
  | with_reducible refine s_kII ?_
  | with_reducible refine s_kIII ?_
  | with_reducible refine s_dget ?_
  | ((with_reducible refine' s_atT ?k1 ?_); (case k1 => walk_at "look"))
  | ((with_reducible refine' s_atTl ?k1 ?_); (case k1 => walk_at "look"))
  | ((with_reducible refine' s_got ?k1 ?_); (case k1 => assumption))
  | with_reducible refine s_din ?_
  | with_reducible refine s_dinT ?_
  | with_reducible refine s_dgetor ?_
  | with_reducible refine s_dput ?_
  | with_reducible refine s_dnewT ?_
  | with_reducible refine s_disp1 ?_
  | with_reducible refine s_keys ?_
  | with_reducible refine s_ixK0 ?_
  | with_reducible refine s_ixK1 ?_
  | with_reducible refine s_bTK ?_
  | with_reducible refine s_gTK ?_
  | with_reducible refine s_lst ?_
  | with_reducible refine s_ret ?_
  | with_reducible refine s_if ?_
  | with_reducible refine s_nextM ?_
  | with_reducible refine s_drop ?_
  | with_reducible refine s_par ?_
  | with_reducible refine s_asg ?_
  | with_reducible refine s_gN ?_
  | ((with_reducible refine' s_gT ?k1 ?_); (case k1 => exact rfl))
  | with_reducible refine s_gsC ?_
  | with_reducible refine s_gsN ?_
  | with_reducible refine s_gIx ?_
  | with_reducible refine s_setD ?_
  | with_reducible refine s_for ?_
  | with_reducible refine s_b ?_
  | with_reducible refine s_and ?_
  | with_reducible refine s_or ?_
  | with_reducible refine s_not ?_
  | with_reducible refine s_ife ?_
  | with_reducible refine s_neg ?_
  | with_reducible refine s_notV ?_
  | with_reducible refine s_andV ?_
  | with_reducible refine s_orV ?_
  | with_reducible refine s_isi ?_
  | with_reducible refine s_m ?_
  | with_reducible refine s_none ?_
  | with_reducible refine s_noneT ?_
  | with_reducible refine s_sl ?_
  | with_reducible refine s_oN ?_
  | with_reducible refine s_oS ?_
  | with_reducible refine s_lc ?_
  | with_reducible refine s_bN ?_
  | with_reducible refine s_bT ?_
  | with_reducible refine s_bTC ?_
  | with_reducible refine s_bTN ?_
  | with_reducible refine s_it ?_
  | with_reducible refine s_rng ?_
  | with_reducible refine s_zip ?_
  | with_reducible refine s_zip2 ?_
  | with_reducible refine s_enum ?_
  | with_reducible refine s_enum1 ?_
  | with_reducible refine s_yes ?_
  | with_reducible refine s_cT ?_
  | with_reducible refine s_cF ?_
  | with_reducible refine s_retN ?_
  | with_reducible refine s_try ?_
  | with_reducible refine s_raise0 ?_
  | with_reducible refine s_raise1 ?_
  | with_reducible refine s_isE ?_
  | with_reducible refine s_fld ?_
  | with_reducible refine s_brk ?_
  | with_reducible refine s_cnt ?_
  | ((with_reducible refine' s_aug ?k1 ?_); (case k1 => exact rfl))
  | with_reducible refine s_augix ?_
  | with_reducible refine s_addI ?_
  | ((with_reducible refine' s_addT ?k1 ?_); (case k1 => walk_at "side"))
  | ((with_reducible refine' s_addS ?k1 ?_); (case k1 => walk_at "side"))
  | with_reducible refine s_catL ?_
  | with_reducible refine s_subI ?_
  | ((with_reducible refine' s_mulI ?k1 ?_); (case k1 => walk_at "side"))
  | ((with_reducible refine' s_divI ?k1 ?_); (case k1 => walk_at "side"))
  | ((with_reducible refine' s_modI ?k1 ?_); (case k1 => walk_at "side"))
  | ((with_reducible refine' s_powI ?k1 ?_); (case k1 => walk_at "side"))
  | ((with_reducible refine' s_shlI ?k1 ?_); (case k1 => walk_at "side"))
  | with_reducible refine s_iaddI ?_
  | ((with_reducible refine' s_iaddS ?k1 ?_); (case k1 => walk_at "side"))
  | with_reducible refine s_eqI ?_
  | with_reducible refine s_neI ?_
  | with_reducible refine s_eqS ?_
  | with_reducible refine s_neS ?_
  | with_reducible refine s_eqB ?_
  | with_reducible refine s_neB ?_
  | with_reducible refine s_cmp ?_
  | ((with_reducible refine' s_ixX ?k1 ?_); (case k1 => walk_at "side"))
  | with_reducible refine s_lenT ?_
  | with_reducible refine s_lenL ?_
  | with_reducible refine s_lenC ?_
  | ((with_reducible refine' s_lenS ?k1 ?_); (case k1 => walk_at "side"))
  | with_reducible refine s_abs ?_
  | with_reducible refine s_intI ?_
  | with_reducible refine s_intB ?_
  | with_reducible refine s_gcd ?_
  | with_reducible refine s_listT ?_
  | with_reducible refine s_listL ?_
  | with_reducible refine s_tupT ?_
  | with_reducible refine s_tupL ?_
  | with_reducible refine s_all ?_
  | with_reducible refine s_any ?_
  | with_reducible refine s_sum ?_
  | with_reducible refine s_sumAT ?_
  | with_reducible refine s_sumAL ?_
  | with_reducible refine s_cnT ?_
  | with_reducible refine s_cnF ?_
  | with_reducible refine s_par3 ?_
  | with_reducible refine s_max2 ?_
  | with_reducible refine s_min2 ?_
  | with_reducible refine s_chain ?_
  | with_reducible refine s_chainT ?_
  | with_reducible refine s_inL ?_
  | with_reducible refine s_inT ?_
  | with_reducible refine s_append ?_
  | with_reducible refine s_extend ?_
  | with_reducible refine s_popAt ?_
  | with_reducible refine s_pop ?_
  | with_reducible refine s_slT ?_
  | with_reducible refine s_slL ?_
  | with_reducible refine s_itT ?_
  | with_reducible refine s_itL ?_
  | with_reducible refine s_itC ?_
  | ((with_reducible refine' s_rng1 ?k1 ?_); (case k1 => walk_at "side"))
  | ((with_reducible refine' s_rng2 ?k1 ?_); (case k1 => walk_at "side"))
  | ((with_reducible refine' s_rngD ?k1 ?_); (case k1 => walk_at "side"))
  | ((with_reducible refine' And.intro (s_isDT ?k1) ?_); (case k1 => walk_at "look"))
  | ((with_reducible refine' s_isLst ?k1 ?_); (case k1 => walk_at "look"))
  | ((with_reducible refine' s_lstOkL ?k1 ?_); (case k1 => walk_at "look"))
  | ((with_reducible refine' And.intro ?k1 ?_); (case k1 => walk_at "side")))
local macro_rules | `(tactic| walk_at "s") => `(tactic| repeat (walk_at "s1"))
/-! fractions as Rat -/
def qD (x : Rat) : D := .tup [.int x.num, .int (x.den : Int)]
theorem den_pos (x : Rat) : (0 : Int) < (x.den : Int) := by have := x.den_pos; omega
theorem rat_cast (x : Rat) : (x.num : Rat) / (x.den : Int) = x := by
  rw [← Rat.divInt_eq_div]
  exact Rat.num_divInt_den x
theorem f_add {a b c d : Rat} (hb : b ≠ 0) (hd : d ≠ 0) : (a * d + c * b) / (b * d) = a / b + c / d := by grind
theorem f_sub {a b c d : Rat} (hb : b ≠ 0) (hd : d ≠ 0) : (a * d - c * b) / (b * d) = a / b - c / d := by grind
theorem f_mul {a b c d : Rat} (hb : b ≠ 0) (hd : d ≠ 0) : (a * c) / (b * d) = a / b * (c / d) := by grind
theorem f_div {a b c d : Rat} (hb : b ≠ 0) (hc : c ≠ 0) (hd : d ≠ 0) : (a * d) / (b * c) = a / b / (c / d) := by grind
theorem rat_of {n d : Int} (hd : 0 < d) (c : Nat.gcd n.natAbs d.natAbs = 1) {x : Rat} (h : (n : Rat) / d = x) : x.num = n ∧ (x.den : Int) = d := by
  obtain ⟨k, rfl⟩ := Int.eq_ofNat_of_zero_le (Int.le_of_lt hd)
  have hk : k ≠ 0 := by omega
  let r : Rat := ⟨n, k, hk, c⟩
  have e : (r.num : Rat) / (r.den : Int) = r := rat_cast r
  have e2 : r = x := by rw [← e, ← h]
  rw [← e2]
  exact ⟨rfl, rfl⟩
theorem frac_rat {n d : Int} (hd : d ≠ 0) {p : Int → Int → Prop} (h : ∀ x : Rat, x = (n : Rat) / d → x.num.natAbs ≤ n.natAbs → x.den ≤ d.natAbs → p x.num x.den) : FracK n d p := by
  intro n' d' h1 h2 h3 h4 h5
  have hdq : (d : Rat) ≠ 0 := by exact_mod_cast hd
  have hd' : (d' : Rat) ≠ 0 := by
    exact fun e => by have := Rat.intCast_eq_zero_iff.mp e; omega
  have e : (n' : Rat) / d' = (n : Rat) / d := by
    have h2q : (n' : Rat) * d = n * d' := by exact_mod_cast h2
    grind
  obtain ⟨e1, e2⟩ := rat_of h1 h3 e
  have := h _ rfl (by rw [e1]; exact h4) (by have : (((n : Rat) / d).den : Int).natAbs = d'.natAbs := by rw [e2]
                                             rw [Int.natAbs_natCast] at this; rw [this]; exact h5)
  rw [e1, e2] at this
  exact this
/-- less than 2 ^ k -/
def Bt (k : Nat) (x : Int) : Prop := x.natAbs < 2 ^ k
theorem Bt.mono {k l : Nat} {x : Int} (h : Bt k x) (hl : k ≤ l) : Bt l x := Nat.lt_of_lt_of_le h (Nat.pow_le_pow_right (by decide) hl)
theorem Bt.mul {k l : Nat} {x y : Int} (h : Bt k x) (g : Bt l y) : Bt (k + l) (x * y) := by
  unfold Bt at *
  rw [Int.natAbs_mul, Nat.pow_add]
  exact Nat.mul_lt_mul'' h g
theorem Bt.add {k : Nat} {x y : Int} (h : Bt k x) (g : Bt k y) : Bt (k + 1) (x + y) := by
  unfold Bt at *
  rw [Nat.pow_succ]
  have := Int.natAbs_add_le x y
  omega
theorem Bt.sub {k : Nat} {x y : Int} (h : Bt k x) (g : Bt k y) : Bt (k + 1) (x - y) := by
  unfold Bt at *
  rw [Nat.pow_succ]
  omega
theorem Bt.log {k : Nat} {x : Int} (h : Bt k x) (hk : 0 < k) : x.natAbs.log2 < k := by
  unfold Bt at h
  by_cases h0 : x.natAbs = 0
  · rw [h0]
    have : Nat.log2 0 = 0 := by decide
    rw [this]; exact hk
  · exact (Nat.log2_lt h0).mpr h
theorem Bt.log9 {k : Nat} {x : Int} (h : Bt k x) (hk : k ≤ 9000) : x.natAbs.log2 < 9000 := (h.mono hk).log (by decide)
theorem Bt.ok {k l : Nat} {x y : Int} (h : Bt k x) (g : Bt l y) (hk : k + l ≤ 400000) : MulOk x y := by
  have a := (h.mono (Nat.le_succ k)).log (Nat.succ_pos k)
  have b := (g.mono (Nat.le_succ l)).log (Nat.succ_pos l)
  refine .inr ?_
  unfold CMulW
  omega
theorem Bt.of_le {k : Nat} {x y : Int} (h : Bt k x) (hy : y.natAbs ≤ x.natAbs) : Bt k y := Nat.lt_of_le_of_lt hy h
structure Bits (k : Nat) (x : Rat) : Prop where
  n : Bt k x.num
  d : Bt k (x.den : Int)
theorem Bits.mono {k l : Nat} {x : Rat} (h : Bits k x) (hl : k ≤ l) : Bits l x := ⟨h.n.mono hl, h.d.mono hl⟩
theorem bits_of {k : Nat} {x : Rat} {n d : Int} (hn : Bt k n) (hd : Bt k d) (h1 : x.num.natAbs ≤ n.natAbs) (h2 : x.den ≤ d.natAbs) : Bits k x := ⟨hn.of_le h1, hd.of_le (by rw [Int.natAbs_natCast]; exact h2)⟩
/-- what a def of two fractions does -/
def spQ2 (ok : Rat → Rat → Prop) (f : Rat → Rat → Rat) : SpD := fun ds st R _ => ∃ (x y : Rat) (k l : Nat), ds = [qD x, qD y] ∧ Bits k x ∧ Bits l y ∧ k + l + 1 ≤ 9000 ∧ ok x y ∧ (Bits (k + l + 1) (f x y) → R (qD (f x y)) st)
theorem len_q2 {ok f} : ∀ ds st R Rx, spQ2 ok f ds st R Rx → ds.length = 2 := by
  rintro ds st R Rx ⟨_, _, _, _, rfl, -⟩; rfl
abbrev spPlus : SpD := spQ2 (fun _ _ => True) (· + ·)
abbrev spMinus : SpD := spQ2 (fun _ _ => True) (· - ·)
abbrev spTimesQ : SpD := spQ2 (fun _ _ => True) (· * ·)
abbrev spOverQ : SpD := spQ2 (fun _ y => y ≠ 0) (· / ·)
theorem cast_den (x : Rat) : ((x.den : Int) : Rat) ≠ 0 := by
  have := den_pos x
  have h : (x.den : Int) ≠ 0 := by omega
  exact_mod_cast h
theorem rat_ne {x : Rat} (h : x ≠ 0) : x.num ≠ 0 := fun e => h (by rw [← rat_cast x, e]; grind)
theorem read_plus : ∀ ds st R Rx, spPlus ds st R Rx → wb_law_plus spFrac (bodyEd R Rx) (startD 2 ds) st := by
  rintro ds st R Rx ⟨x, y, k, l, rfl, bx, by', hk, -, kk⟩
  unfold wb_law_plus bodyEd qD
  have d1 := den_pos x
  have d2 := den_pos y
  walk_at "s"
  refine s_mulI (bx.n.ok by'.d (by omega)) ?_
  walk_at "s"
  refine s_mulI (by'.n.ok bx.d (by omega)) ?_
  walk_at "s"
  refine s_mulI (bx.d.ok by'.d (by omega)) ?_
  walk_at "s"
  have hn : (x.den : Int) * (y.den : Int) ≠ 0 := Int.mul_ne_zero (by omega) (by omega)
  refine ⟨_, _, rfl, hn, (bx.d.mul by'.d).log9 (by omega), frac_rat hn fun z ez z1 z2 => ?_⟩
  have e : z = x + y := by
    rw [ez, Rat.intCast_add, Rat.intCast_mul, Rat.intCast_mul, Rat.intCast_mul, f_add (cast_den x) (cast_den y), rat_cast, rat_cast]
  have b := bits_of ((((bx.n.mul by'.d).add ((by'.n.mul bx.d).mono (by omega))))) ((bx.d.mul by'.d).mono (Nat.le_succ _)) z1 z2
  rw [e] at b ⊢
  exact s_end (kk b)
theorem read_minus : ∀ ds st R Rx, spMinus ds st R Rx → wb_law_minus spFrac (bodyEd R Rx) (startD 2 ds) st := by
  rintro ds st R Rx ⟨x, y, k, l, rfl, bx, by', hk, -, kk⟩
  unfold wb_law_minus bodyEd qD
  have d1 := den_pos x
  have d2 := den_pos y
  walk_at "s"
  refine s_mulI (bx.n.ok by'.d (by omega)) ?_
  walk_at "s"
  refine s_mulI (by'.n.ok bx.d (by omega)) ?_
  walk_at "s"
  refine s_mulI (bx.d.ok by'.d (by omega)) ?_
  walk_at "s"
  have hn : (x.den : Int) * (y.den : Int) ≠ 0 := Int.mul_ne_zero (by omega) (by omega)
  refine ⟨_, _, rfl, hn, (bx.d.mul by'.d).log9 (by omega), frac_rat hn fun z ez z1 z2 => ?_⟩
  have e : z = x - y := by
    rw [ez, Rat.intCast_sub, Rat.intCast_mul, Rat.intCast_mul, Rat.intCast_mul, f_sub (cast_den x) (cast_den y), rat_cast, rat_cast]
  have b := bits_of ((((bx.n.mul by'.d).sub ((by'.n.mul bx.d).mono (by omega))))) ((bx.d.mul by'.d).mono (Nat.le_succ _)) z1 z2
  rw [e] at b ⊢
  exact s_end (kk b)
/-- the product and the quotient, asked by their parts -/
theorem times_q {x y : Rat} {k l : Nat} {st : DS} {R : RD} {Rx : RX} (bx : Bits k x) (by' : Bits l y) (hk : k + l ≤ 9000) (h : Bits (k + l) (x * y) → R (qD (x * y)) st) : spTimes [qD x, qD y] st R Rx := by
  have d1 := den_pos x
  have d2 := den_pos y
  have hn : (x.den : Int) * (y.den : Int) ≠ 0 := Int.mul_ne_zero (by omega) (by omega)
  refine ⟨_, _, _, _, rfl, bx.n.ok by'.n (by omega), bx.d.ok by'.d (by omega), hn, (bx.d.mul by'.d).log9 (by omega), frac_rat hn fun z ez z1 z2 => ?_⟩
  have e : z = x * y := by
    rw [ez, Rat.intCast_mul, Rat.intCast_mul, f_mul (cast_den x) (cast_den y), rat_cast, rat_cast]
  have b := bits_of (bx.n.mul by'.n) (bx.d.mul by'.d) z1 z2
  rw [e] at b
  subst e
  exact h b
theorem over_q {x y : Rat} {k l : Nat} {st : DS} {R : RD} {Rx : RX} (bx : Bits k x) (by' : Bits l y) (hy : y ≠ 0) (hk : k + l ≤ 9000) (h : Bits (k + l) (x / y) → R (qD (x / y)) st) : spOver [qD x, qD y] st R Rx := by
  have d1 := den_pos x
  have d2 := den_pos y
  have hn : (x.den : Int) * y.num ≠ 0 := Int.mul_ne_zero (by omega) (rat_ne hy)
  refine ⟨_, _, _, _, rfl, bx.n.ok by'.d (by omega), bx.d.ok by'.n (by omega), hn, (bx.d.mul by'.n).log9 (by omega), frac_rat hn fun z ez z1 z2 => ?_⟩
  have e : z = x / y := by
    have hc : (y.num : Rat) ≠ 0 := fun e => rat_ne hy (Rat.intCast_eq_zero_iff.mp e)
    rw [ez, Rat.intCast_mul, Rat.intCast_mul, f_div (cast_den x) hc (cast_den y), rat_cast, rat_cast]
  have b := bits_of (bx.n.mul by'.d) (bx.d.mul by'.n) z1 z2
  rw [e] at b
  subst e
  exact h b
theorem less_q {x y : Rat} {k l : Nat} {st : DS} {R : RD} {Rx : RX} (bx : Bits k x) (by' : Bits l y) (hk : k + l ≤ 400000) (h : R (.bl (decide (x < y))) st) : spLess [qD x, qD y] st R Rx := by
  refine ⟨_, _, _, _, rfl, bx.n.ok by'.d hk, by'.n.ok bx.d (by omega), ?_⟩
  rw [decide_eq_decide.mpr (Rat.lt_iff x y)] at h
  exact h
theorem atmost_q {x y : Rat} {k l : Nat} {st : DS} {R : RD} {Rx : RX} (bx : Bits k x) (by' : Bits l y) (hk : k + l ≤ 400000) (h : R (.bl (decide (x ≤ y))) st) : spAtMost [qD x, qD y] st R Rx := by
  refine ⟨_, _, _, _, rfl, bx.n.ok by'.d hk, by'.n.ok bx.d (by omega), ?_⟩
  rw [decide_eq_decide.mpr (Rat.le_iff x y)] at h
  exact h
theorem read_plus2 : ∀ ds st R Rx, spPlus ds st R Rx → wb_plus spFrac (bodyEd R Rx) (startD 2 ds) st := read_plus
theorem read_minus2 : ∀ ds st R Rx, spMinus ds st R Rx → wb_minus spFrac (bodyEd R Rx) (startD 2 ds) st := read_minus
theorem read_less2 : ∀ ds st R Rx, spLess ds st R Rx → wb_less (bodyEd R Rx) (startD 2 ds) st := read_less
/-! is a fraction in lowest terms -/
def whole (d : D) : Bool := isTy .int d && !isTy .bool d
def isFr : D → Bool
  | .tup [.int a, .int b] => decide (1 ≤ b) && decide (Nat.gcd a.natAbs b.natAbs = 1)
  | _ => false
/-- no list, no script -/
def nr : D → Bool
  | .ref _ => false
  | .key _ => false
  | .scr _ => false
  | _ => true
theorem nr_ok {d : D} {st : DS} (h : nr d = true) : lstOk d st := by
  cases d with
  | ref a => cases h
  | key a => cases h
  | _ => trivial
def spIsFr : SpD := fun ds st R _ => ∃ d, ds = [d] ∧ nr d = true ∧ (∀ x y, d = .tup [x, y] → nr x = true ∧ nr y = true) ∧ R (.bl (isFr d)) st
theorem len_isfr : ∀ ds st R Rx, spIsFr ds st R Rx → ds.length = 1 := by
  rintro ds st R Rx ⟨_, rfl, -⟩; rfl
theorem isFr_q (x : Rat) : isFr (qD x) = true := by
  have := den_pos x
  have c : Nat.gcd x.num.natAbs x.den = 1 := x.reduced
  show (decide ((1 : Int) ≤ x.den) && decide (Nat.gcd x.num.natAbs (x.den : Int).natAbs = 1)) = true
  rw [Int.natAbs_natCast]
  rw [decide_eq_true (show (1 : Int) ≤ x.den by omega), decide_eq_true c]; rfl
theorem gcd_dec {a b : Int} : decide (((Nat.gcd a.natAbs b.natAbs : Nat) : Int) = 1) = decide (Nat.gcd a.natAbs b.natAbs = 1) := decide_eq_decide.mpr (by omega)
theorem isFr_no {x y : D} (h : ¬ (whole x = true ∧ whole y = true)) : isFr (.tup [x, y]) = false := by
  cases x <;> cases y <;> first | rfl | exact absurd ⟨rfl, rfl⟩ h
theorem whole_int {x : D} (h : whole x = true) : ∃ i, x = .int i := by
  cases x <;> first | exact ⟨_, rfl⟩ | cases h
theorem isFr_len {ds : List D} (h : ds.length ≠ 2) : isFr (.tup ds) = false := by
  unfold isFr
  split
  · rename_i a b e
    cases e
    exact absurd rfl h
  · rfl
theorem isFr_tup {d : D} (h : isTy .tup d = false) : isFr d = false := by
  cases d <;> first | rfl | cases h
theorem read_is_frac : ∀ ds st R Rx, spIsFr ds st R Rx → wb_law_is_frac spIsInt spGcd (bodyEd R Rx) (startD 1 ds) st := by
  rintro ds st R Rx ⟨d, rfl, h1, h2, k⟩
  have ok := nr_ok (st := st) h1
  unfold wb_law_is_frac bodyEd
  walk_at "s"
  cases ht : isTy .tup d with
  | false =>
    rw [isFr_tup ht] at k
    refine s_yesB rfl ?_
    walk_at "s"
    exact s_end k
  | true =>
    cases d with
    | tup es =>
      refine s_noB rfl ?_
      walk_at "s"
      by_cases hl : (es.length : Int) = 2
      · match es, hl with
        | [x, y], _ =>
          obtain ⟨n1, n2⟩ := h2 x y rfl
          have o1 := nr_ok (st := st) n1
          have o2 := nr_ok (st := st) n2
          refine s_nnoP rfl ?_
          walk_at "s"
          refine ⟨_, rfl, o1, ?_⟩
          walk_at "s"
          cases w1 : (isTy .int x && !isTy .bool x) with
          | false =>
            rw [isFr_no (fun z => by rw [show whole x = false from w1] at z; exact Bool.noConfusion z.1)] at k
            refine s_noB rfl ?_
            walk_at "s"
            exact s_end k
          | true =>
            refine s_yesB rfl ?_
            walk_at "s"
            refine ⟨_, rfl, o2, ?_⟩
            walk_at "s"
            cases w2 : (isTy .int y && !isTy .bool y) with
            | false =>
              rw [isFr_no (fun z => by rw [show whole y = false from w2] at z; exact Bool.noConfusion z.2)] at k
              refine s_yesB rfl ?_
              walk_at "s"
              exact s_end k
            | true =>
              obtain ⟨a, rfl⟩ := whole_int w1
              obtain ⟨b, rfl⟩ := whole_int w2
              refine s_noB rfl ?_
              walk_at "s"
              refine s_dec (fun e => ?_) (fun e => ?_)
              · walk_at "s"
                refine ⟨_, _, rfl, ?_⟩
                walk_at "s"
                rw [gcd_dec]
                have k' : R (.bl (decide ((1 : Int) ≤ b) && decide (Nat.gcd a.natAbs b.natAbs = 1))) st := k
                rw [decide_eq_true (show (1 : Int) ≤ b from e), Bool.true_and] at k'
                exact s_end k'
              · walk_at "s"
                have k' : R (.bl (decide ((1 : Int) ≤ b) && decide (Nat.gcd a.natAbs b.natAbs = 1))) st := k
                rw [decide_eq_false (show ¬ (1 : Int) ≤ b from e), Bool.false_and] at k'
                exact s_end k'
      · rw [isFr_len (by omega)] at k
        refine s_nyesP hl ?_
        walk_at "s"
        exact s_end k
    | _ => cases ht
theorem read_is_whole : ∀ ds st R Rx, spIsInt ds st R Rx → wb_is_whole (bodyEd R Rx) (startD 1 ds) st := read_is_int
theorem read_is_fraction : ∀ ds st R Rx, spIsFr ds st R Rx → wb_is_fraction spIsInt (bodyEd R Rx) (startD 1 ds) st := by
  rintro ds st R Rx ⟨d, rfl, h1, h2, k⟩
  have ok := nr_ok (st := st) h1
  unfold wb_is_fraction bodyEd
  walk_at "s"
  cases ht : isTy .tup d with
  | false =>
    rw [isFr_tup ht] at k
    refine s_yesB rfl ?_
    walk_at "s"
    exact s_end k
  | true =>
    cases d with
    | tup es =>
      refine s_noB rfl ?_
      walk_at "s"
      by_cases hl : (es.length : Int) = 2
      · match es, hl with
        | [x, y], _ =>
          obtain ⟨n1, n2⟩ := h2 x y rfl
          have o1 := nr_ok (st := st) n1
          have o2 := nr_ok (st := st) n2
          refine s_nnoP rfl ?_
          walk_at "s"
          refine ⟨_, rfl, o1, ?_⟩
          walk_at "s"
          cases w1 : (isTy .int x && !isTy .bool x) with
          | false =>
            rw [isFr_no (fun z => by rw [show whole x = false from w1] at z; exact Bool.noConfusion z.1)] at k
            refine s_yesB rfl ?_
            walk_at "s"
            exact s_end k
          | true =>
            refine s_noB rfl ?_
            walk_at "s"
            refine ⟨_, rfl, o2, ?_⟩
            walk_at "s"
            cases w2 : (isTy .int y && !isTy .bool y) with
            | false =>
              rw [isFr_no (fun z => by rw [show whole y = false from w2] at z; exact Bool.noConfusion z.2)] at k
              refine s_yesB rfl ?_
              walk_at "s"
              exact s_end k
            | true =>
              obtain ⟨a, rfl⟩ := whole_int w1
              obtain ⟨b, rfl⟩ := whole_int w2
              refine s_noB rfl ?_
              walk_at "s"
              refine s_dec (fun e => ?_) (fun e => ?_)
              · walk_at "s"
                rw [gcd_dec]
                have k' : R (.bl (decide ((1 : Int) ≤ b) && decide (Nat.gcd a.natAbs b.natAbs = 1))) st := k
                rw [decide_eq_true (show (1 : Int) ≤ b from e), Bool.true_and] at k'
                exact s_end k'
              · walk_at "s"
                have k' : R (.bl (decide ((1 : Int) ≤ b) && decide (Nat.gcd a.natAbs b.natAbs = 1))) st := k
                rw [decide_eq_false (show ¬ (1 : Int) ≤ b from e), Bool.false_and] at k'
                exact s_end k'
      · rw [isFr_len (by omega)] at k
        refine s_nyesP hl ?_
        walk_at "s"
        exact s_end k
    | _ => cases ht
end C
end DL

namespace DL
namespace C
open PySem L2
local macro_rules | `(tactic| walk_at "look") => `(tactic| first
  | assumption
  | exact put_same
  | (refine look_ne (by first | assumption | exact Ne.symm (by assumption)) ?_; walk_at "look")
  | (refine look_new (by assumption) ?_; walk_at "look"))
local macro_rules | `(tactic| walk_at "side") => `(tactic| first | assumption | exact trivial | decide | omega | exact ⟨by assumption, by assumption⟩ | exact ⟨by omega, by omega⟩ | exact ⟨by decide, by decide⟩ | exact ⟨by decide, by decide, by decide⟩ | (exact .inl (.inl ⟨by decide, by decide⟩)) | (exact .inl (.inr ⟨by decide, by decide⟩)) | (exact .inl (.inl ⟨by omega, by omega⟩)) | (exact .inl (.inr ⟨by omega, by omega⟩)))
local macro_rules | `(tactic| walk_at "opt") => `(tactic| first | (with_reducible exact atI_0 _ _) | (with_reducible exact atI_1 _ _ _) | (with_reducible exact atI_2 _ _ _ _) | (with_reducible exact atI_3 _ _ _ _ _) | (with_reducible exact atI_4 _ _ _ _ _ _) | assumption | exact atI_0 _ _ | exact atI_1 _ _ _ | exact atI_2 _ _ _ _ | exact atI_3 _ _ _ _ _ | exact atI_4 _ _ _ _ _ _ | exact boolsOf_map _ | exact intsOf_map _ | exact rfl)
local macro_rules | `(tactic| walk_at "s1") => `(tactic| first
  | ((with_reducible refine' s_var ?k1 ?_); (case k1 => exact rfl))
  | with_reducible refine s_bin ?_
  | with_reducible refine s_c ?_
  | with_reducible refine s_seqM ?_
  | with_reducible refine s_asB ?_
  | with_reducible refine s_asI ?_
  | with_reducible refine s_asRI ?_
  | with_reducible refine s_acons ?_
  | with_reducible refine s_anil ?_
  | with_reducible refine s_call ?_
  | with_reducible refine s_cb ?_
  | with_reducible refine s_set ?_
  | with_reducible refine s_ixT ?_
  | with_reducible refine s_ixL ?_
  | with_reducible refine s_ixS ?_
  | ((with_reducible refine' s_getL ?k1 ?_); (case k1 => walk_at "look"))
  | ((with_reducible refine' s_opt ?k1 ?_); (case k1 => walk_at "opt"))
  | with_reducible refine s_binT ?_
  | with_reducible refine s_tup ?_
  | with_reducible refine s_tpT ?_
  | with_reducible refine s_key ?_
  | with_reducible refine s_kII ?_
  | with_reducible refine s_kIII ?_
  | with_reducible refine s_dget ?_
  | ((with_reducible refine' s_atT ?k1 ?_); (case k1 => walk_at "look"))
  | ((with_reducible refine' s_atTl ?k1 ?_); (case k1 => walk_at "look"))
  | ((with_reducible refine' s_got ?k1 ?_); (case k1 => assumption))
  | with_reducible refine s_din ?_
  | with_reducible refine s_dinT ?_
  | with_reducible refine s_dgetor ?_
  | with_reducible refine s_dput ?_
  | with_reducible refine s_dnewT ?_
  | with_reducible refine s_disp1 ?_
  | with_reducible refine s_keys ?_
  | with_reducible refine s_ixK0 ?_
  | with_reducible refine s_ixK1 ?_
  | with_reducible refine s_bTK ?_
  | with_reducible refine s_gTK ?_
  | with_reducible refine s_lst ?_
  | with_reducible refine s_ret ?_
  | with_reducible refine s_if ?_
  | with_reducible refine s_nextM ?_
  | with_reducible refine s_drop ?_
  | with_reducible refine s_par ?_
  | with_reducible refine s_asg ?_
  | with_reducible refine s_gN ?_
  | ((with_reducible refine' s_gT ?k1 ?_); (case k1 => exact rfl))
  | with_reducible refine s_gsC ?_
  | with_reducible refine s_gsN ?_
  | with_reducible refine s_gIx ?_
  | with_reducible refine s_setD ?_
  | with_reducible refine s_for ?_
  | with_reducible refine s_b ?_
  | with_reducible refine s_and ?_
  | with_reducible refine s_or ?_
  | with_reducible refine s_not ?_
  | with_reducible refine s_ife ?_
  | with_reducible refine s_neg ?_
  | with_reducible refine s_notV ?_
  | with_reducible refine s_andV ?_
  | with_reducible refine s_orV ?_
  | with_reducible refine s_isi ?_
  | with_reducible refine s_m ?_
  | with_reducible refine s_none ?_
  | with_reducible refine s_noneT ?_
  | with_reducible refine s_sl ?_
  | with_reducible refine s_oN ?_
  | with_reducible refine s_oS ?_
  | with_reducible refine s_lc ?_
  | with_reducible refine s_bN ?_
  | with_reducible refine s_bT ?_
  | with_reducible refine s_bTC ?_
  | with_reducible refine s_bTN ?_
  | with_reducible refine s_it ?_
  | with_reducible refine s_rng ?_
  | with_reducible refine s_zip ?_
  | with_reducible refine s_zip2 ?_
  | with_reducible refine s_enum ?_
  | with_reducible refine s_enum1 ?_
  | with_reducible refine s_yes ?_
  | with_reducible refine s_cT ?_
  | with_reducible refine s_cF ?_
  | with_reducible refine s_retN ?_
  | with_reducible refine s_try ?_
  | with_reducible refine s_raise0 ?_
  | with_reducible refine s_raise1 ?_
  | with_reducible refine s_isE ?_
  | with_reducible refine s_fld ?_
  | with_reducible refine s_brk ?_
  | with_reducible refine s_cnt ?_
  | ((with_reducible refine' s_aug ?k1 ?_); (case k1 => exact rfl))
  | with_reducible refine s_augix ?_
  | with_reducible refine s_addI ?_
  | ((with_reducible refine' s_addT ?k1 ?_); (case k1 => walk_at "side"))
  | ((with_reducible refine' s_addS ?k1 ?_); (case k1 => walk_at "side"))
  | with_reducible refine s_catL ?_
  | with_reducible refine s_subI ?_
  | ((with_reducible refine' s_mulI ?k1 ?_); (case k1 => walk_at "side"))
  | ((with_reducible refine' s_divI ?k1 ?_); (case k1 => walk_at "side"))
  | ((with_reducible refine' s_modI ?k1 ?_); (case k1 => walk_at "side"))
  | ((with_reducible refine' s_powI ?k1 ?_); (case k1 => walk_at "side"))
  | ((with_reducible refine' s_shlI ?k1 ?_); (case k1 => walk_at "side"))
  | with_reducible refine s_iaddI ?_
  | ((with_reducible refine' s_iaddS ?k1 ?_); (case k1 => walk_at "side"))
  | with_reducible refine s_eqI ?_
  | with_reducible refine s_neI ?_
  | with_reducible refine s_eqS ?_
  | with_reducible refine s_neS ?_
  | with_reducible refine s_eqB ?_
  | with_reducible refine s_neB ?_
  | with_reducible refine s_cmp ?_
  | ((with_reducible refine' s_ixX ?k1 ?_); (case k1 => walk_at "side"))
  | with_reducible refine s_lenT ?_
  | with_reducible refine s_lenL ?_
  | with_reducible refine s_lenC ?_
  | ((with_reducible refine' s_lenS ?k1 ?_); (case k1 => walk_at "side"))
  | with_reducible refine s_abs ?_
  | with_reducible refine s_intI ?_
  | with_reducible refine s_intB ?_
  | with_reducible refine s_gcd ?_
  | with_reducible refine s_listT ?_
  | with_reducible refine s_listL ?_
  | with_reducible refine s_tupT ?_
  | with_reducible refine s_tupL ?_
  | with_reducible refine s_all ?_
  | with_reducible refine s_any ?_
  | with_reducible refine s_sum ?_
  | with_reducible refine s_sumAT ?_
  | with_reducible refine s_sumAL ?_
  | with_reducible refine s_cnT ?_
  | with_reducible refine s_cnF ?_
  | with_reducible refine s_par3 ?_
  | with_reducible refine s_max2 ?_
  | with_reducible refine s_min2 ?_
  | with_reducible refine s_chain ?_
  | with_reducible refine s_chainT ?_
  | with_reducible refine s_inL ?_
  | with_reducible refine s_inT ?_
  | with_reducible refine s_append ?_
  | with_reducible refine s_extend ?_
  | with_reducible refine s_popAt ?_
  | with_reducible refine s_pop ?_
  | with_reducible refine s_slT ?_
  | with_reducible refine s_slL ?_
  | with_reducible refine s_itT ?_
  | with_reducible refine s_itL ?_
  | with_reducible refine s_itC ?_
  | ((with_reducible refine' s_rng1 ?k1 ?_); (case k1 => walk_at "side"))
  | ((with_reducible refine' s_rng2 ?k1 ?_); (case k1 => walk_at "side"))
  | ((with_reducible refine' s_rngD ?k1 ?_); (case k1 => walk_at "side"))
  | ((with_reducible refine' And.intro (s_isDT ?k1) ?_); (case k1 => walk_at "look"))
  | ((with_reducible refine' s_isLst ?k1 ?_); (case k1 => walk_at "look"))
  | ((with_reducible refine' s_lstOkL ?k1 ?_); (case k1 => walk_at "look"))
  | ((with_reducible refine' And.intro ?k1 ?_); (case k1 => walk_at "side")))
local macro_rules | `(tactic| walk_at "s") => `(tactic| repeat (walk_at "s1"))
/-! drawing -/
/-- one of a list or a tuple -/
def spPick : SpD := fun ds st R _ => ∃ (d c : Addr) (ns : List Int) (row : D) (es : List D), ds = [.ref d, row] ∧ DK st d c ns ∧ es ≠ [] ∧ es.length ≤ 1000000 ∧ (row = .tup es ∨ ∃ p, row = .ref p ∧ p ≠ d ∧ st p = some (.lst es)) ∧ ∀ e ∈ es, ∀ st', Dr d c ns st st' → R e st'
theorem len_pick : ∀ ds st R Rx, spPick ds st R Rx → ds.length = 2 := by
  rintro ds st R Rx ⟨_, _, _, _, _, rfl, -⟩; rfl
theorem atI_mem {es : List D} {v : Int} (h0 : 0 ≤ v) (h1 : v < es.length) : ∃ e ∈ es, atI es v = some e := by
  obtain ⟨k, rfl⟩ := Int.eq_ofNat_of_zero_le h0
  have hk : k < es.length := by omega
  exact ⟨es[k], List.getElem_mem hk, atI_nat (List.getElem?_eq_getElem hk)⟩
theorem smN {n : Nat} (h0 : 0 < n) (h1 : n ≤ 1000000) : (n : Int).natAbs.log2 < 9000 := sm (by omega) (by omega)
theorem read_pick : ∀ ds st R Rx, spPick ds st R Rx → wb_law_pick spDraw (bodyEd R Rx) (startD 2 ds) st := by
  rintro ds st R Rx ⟨d, c, ns, row, es, rfl, dk, hne, hl, hrow, k⟩
  have hpos : 0 < es.length := List.length_pos_iff.mpr hne
  unfold wb_law_pick bodyEd
  rcases hrow with rfl | ⟨p, rfl, hp, hlst⟩
  · walk_at "s"
    refine ⟨d, c, ns, _, rfl, dk, by omega, smN hpos hl, fun v st' h0 h1 r => ?_⟩
    obtain ⟨e, he, ha⟩ := atI_mem h0 h1
    walk_at "s"
    exact s_end (k e he st' r)
  · walk_at "s"
    refine ⟨d, c, ns, _, rfl, dk, by omega, smN hpos hl, fun v st' h0 h1 r => ?_⟩
    obtain ⟨e, he, ha⟩ := atI_mem h0 h1
    have hl2 := r.sx p _ hp hlst
    walk_at "s"
    exact s_end (k e he st' r)
def spRare : SpD := fun ds st R _ => ∃ (d c : Addr) (ns : List Int) (many : Int), ds = [.ref d, .int many] ∧ DK st d c ns ∧ 0 < many ∧ many ≤ 1000000 ∧ ∀ b st', Dr d c ns st st' → R (.bl b) st'
theorem len_rare : ∀ ds st R Rx, spRare ds st R Rx → ds.length = 2 := by
  rintro ds st R Rx ⟨_, _, _, _, rfl, -⟩; rfl
theorem read_rare : ∀ ds st R Rx, spRare ds st R Rx → wb_law_rare spDraw (bodyEd R Rx) (startD 2 ds) st := by
  rintro ds st R Rx ⟨d, c, ns, many, rfl, dk, h0, h1, k⟩
  unfold wb_law_rare bodyEd
  walk_at "s"
  refine ⟨d, c, ns, _, rfl, dk, h0, sm h0 (by omega), fun v st' _ _ r => ?_⟩
  walk_at "s"
  exact s_end (k _ st' r)
/-- a row in another order -/
def spShuffled : SpD := fun ds st R _ => ∃ (d c : Addr) (ns : List Int) (row : D) (es : List D), ds = [.ref d, row] ∧ DK st d c ns ∧ es.length ≤ 1000000 ∧ (row = .tup es ∨ ∃ p, row = .ref p ∧ p ≠ d ∧ st p = some (.lst es)) ∧
  ∀ es' p st', es'.Perm es → st p = none → p ≠ d → Dr d c ns st st' → st' p = some (.lst es') → R (.ref p) st'
theorem len_shuffled : ∀ ds st R Rx, spShuffled ds st R Rx → ds.length = 2 := by
  rintro ds st R Rx ⟨_, _, _, _, _, rfl, -⟩; rfl
theorem ixN_in {n : Nat} {v : Int} (h0 : 0 ≤ v) (h1 : v < n) : ixN n v = some v.toNat := by
  unfold ixN
  rw [if_pos h0, if_pos h1]
theorem perm_erase {α : Type} : ∀ {l : List α} {k : Nat} (h : k < l.length), (l[k] :: l.eraseIdx k).Perm l
  | a :: l, 0, _ => List.Perm.refl _
  | a :: l, k + 1, h => by
    have ih := perm_erase (l := l) (k := k) (by simpa using h)
    show (l[k]'(by simpa using h) :: a :: l.eraseIdx k).Perm (a :: l)
    exact (List.Perm.swap _ _ _).trans (ih.cons a)
theorem Sx.put_off {d p : Addr} {s t : DS} {o : OB} (h : Sx d s t) (hp : s p = none) : Sx d s (DL.put t p o) := fun a u n e => by
  rw [put_ne (fun z => by rw [z, hp] at e; cases e)]; exact h a u n e
theorem DK.ne_new {st : DS} {d c p : Addr} {ns : List Int} (h : DK st d c ns) (hp : st p = none) : p ≠ d := fun e => by
  obtain ⟨⟨o, ho, _⟩, _⟩ := h
  rw [e, ho] at hp; cases hp
theorem DK.putL {st : DS} {d c p : Addr} {ns : List Int} {o : OB} (h : DK st d c ns) (hd : p ≠ d) (hc : p ≠ c) : DK (DL.put st p o) d c ns := by
  obtain ⟨⟨o', e, q⟩, hcc, ne⟩ := h
  exact ⟨⟨o', by rw [put_ne (Ne.symm hd)]; exact e, q⟩, by rw [put_ne (Ne.symm hc)]; exact hcc, ne⟩
theorem read_shuffled : ∀ ds st R Rx, spShuffled ds st R Rx → wb_law_shuffled spDraw (bodyEd R Rx) (startD 5 ds) st := by
  rintro ds st R Rx ⟨d, c, ns, row, es, rfl, dk, hl, hrow, k⟩
  unfold wb_law_shuffled bodyEd
  have go : ∀ p, st p = none → ∀ q, (put st p (.lst es)) q = none →
      forL (gN 4) (wDrop (wM appendD (wVar 3) (wACons (wM popD (wVar 2) (wACons (wCall spDraw (wACons (wVar 0) (wACons (wCB lenD (wACons (wVar 2) wANil)) wANil))) wANil)) wANil))) (fun _ => True)
        { nx := fun ep' st' => wRet (wVar 3) { nx := fun _ st' => ∃ s2, Sub s2 st' ∧ R .non s2, rt := fun d st' => ∃ s2, Sub s2 st' ∧ R d s2, bk := fun _ _ => False, ct := fun _ _ => False, ex := fun x _ st' => ∃ s2, Sub s2 st' ∧ Rx x s2 } ep' st',
          rt := fun d st' => ∃ s2, Sub s2 st' ∧ R d s2, bk := fun _ _ => False, ct := fun _ _ => False, ex := fun x _ st' => ∃ s2, Sub s2 st' ∧ Rx x s2 }
        ((List.range (es.length : Int).toNat).map fun i : Nat => D.int (0 + i)) [some (.ref d), some row, some (.ref p), some (.ref q), none] (put (put st p (.lst es)) q (.lst [])) := by
    intro p hp q hq
    have npq : p ≠ q := fun e => by rw [e, put_same] at hq; cases hq
    have hq0 : st q = none := by rwa [put_ne (Ne.symm npq)] at hq
    have pd := dk.ne_new hp
    have qd := dk.ne_new hq0
    have pc : p ≠ c := fun e => by rw [e, dk.hc] at hp; cases hp
    have qc : q ≠ c := fun e => by rw [e, dk.hc] at hq0; cases hq0
    refine for_ind (fun rest ep T => ∃ left found x4, ep = [some (.ref d), some row, some (.ref p), some (.ref q), x4] ∧ rest.length = left.length ∧ (found ++ left).Perm es ∧ T p = some (.lst left) ∧ T q = some (.lst found) ∧ Sx d st T ∧ DK T d c ns) ?_ ?_ _ _ _ ⟨es, [], none, rfl, by rw [List.length_map, List.length_range, Int.toNat_natCast], List.Perm.refl _, by rw [put_ne npq, put_same], put_same, (Sx.new hp).trans (Sx.new hq), (dk.new hp).new hq⟩
    · rintro ep T ⟨left, found, x4, rfl, hlen, pm, e1, e2, sx, dkT⟩
      refine ⟨trivial, ?_⟩
      walk_at "s"
      have : left = [] := List.eq_nil_of_length_eq_zero hlen.symm
      subst this
      rw [List.append_nil] at pm
      exact s_end (k found q T pm hq0 qd ⟨sx, dkT⟩ e2)
    · rintro d0 r ep T ⟨left, found, x4, rfl, hlen, pm, e1, e2, sx, dkT⟩ ih
      refine ⟨trivial, ?_⟩
      have hll : left.length ≤ es.length := by
        have := pm.length_eq
        rw [List.length_append] at this
        omega
      have hfl : found.length ≤ es.length := by
        have := pm.length_eq
        rw [List.length_append] at this
        omega
      simp only [List.length_cons] at hlen
      walk_at "s"
      refine ⟨d, c, ns, _, rfl, dkT, by omega, smN (by omega) (by omega), fun v T2 h0 h1 r2 => ?_⟩
      have f1 := r2.sx p _ pd e1
      have f2 := r2.sx q _ qd e2
      walk_at "s"
      obtain ⟨kk, rfl⟩ := Int.eq_ofNat_of_zero_le h0
      have hk : kk < left.length := by omega
      refine s_opt (ixN_in h0 h1) ?_
      rw [Int.toNat_natCast]
      refine s_opt (List.getElem?_eq_getElem hk) ?_
      walk_at "s"
      refine ⟨by show _ < 2 ^ 24; omega, ?_⟩
      refine ih _ _ ⟨left.eraseIdx kk, found ++ [left[kk]], _, rfl, by rw [List.length_eraseIdx, if_pos hk]; omega, ?_, ?_, put_same, ?_, ?_⟩
      · have := perm_erase hk
        rw [List.append_assoc]
        exact (List.Perm.append_left found this).trans pm
      · rw [put_ne npq, put_same]
      · exact ((sx.trans r2.sx).put_off hp).put_off hq0
      · exact (r2.dk.putL pd pc).putL qd qc
  rcases hrow with rfl | ⟨p, rfl, hp, hlst⟩
  · walk_at "s"
    intro p hp
    walk_at "s"
    intro q hq
    walk_at "s"
    exact go p hp q hq
  · walk_at "s"
    intro p2 hp2
    walk_at "s"
    intro q hq
    walk_at "s"
    exact go p2 hp2 q hq
end C
end DL

namespace DL
namespace C
open PySem L2
local macro_rules | `(tactic| walk_at "look") => `(tactic| first
  | assumption
  | exact put_same
  | (refine look_ne (by first | assumption | exact Ne.symm (by assumption)) ?_; walk_at "look")
  | (refine look_new (by assumption) ?_; walk_at "look"))
local macro_rules | `(tactic| walk_at "side") => `(tactic| first | assumption | exact trivial | decide | omega | exact ⟨by assumption, by assumption⟩ | exact ⟨by omega, by omega⟩ | exact ⟨by decide, by decide⟩ | exact ⟨by decide, by decide, by decide⟩ | (exact .inl (.inl ⟨by decide, by decide⟩)) | (exact .inl (.inr ⟨by decide, by decide⟩)) | (exact .inl (.inl ⟨by omega, by omega⟩)) | (exact .inl (.inr ⟨by omega, by omega⟩)))
local macro_rules | `(tactic| walk_at "opt") => `(tactic| first | (with_reducible exact atI_0 _ _) | (with_reducible exact atI_1 _ _ _) | (with_reducible exact atI_2 _ _ _ _) | (with_reducible exact atI_3 _ _ _ _ _) | (with_reducible exact atI_4 _ _ _ _ _ _) | assumption | exact atI_0 _ _ | exact atI_1 _ _ _ | exact atI_2 _ _ _ _ | exact atI_3 _ _ _ _ _ | exact atI_4 _ _ _ _ _ _ | exact boolsOf_map _ | exact intsOf_map _ | exact rfl)
local macro_rules | `(tactic| walk_at "s1") => `(tactic| first
  | ((with_reducible refine' s_var ?k1 ?_); (case k1 => exact rfl))
  | with_reducible refine s_bin ?_
  | with_reducible refine s_c ?_
  | with_reducible refine s_seqM ?_
  | with_reducible refine s_asB ?_
  | with_reducible refine s_asI ?_
  | with_reducible refine s_asRI ?_
  | with_reducible refine s_acons ?_
  | with_reducible refine s_anil ?_
  | with_reducible refine s_call ?_
  | with_reducible refine s_cb ?_
  | with_reducible refine s_set ?_
  | with_reducible refine s_ixT ?_
  | with_reducible refine s_ixL ?_
  | with_reducible refine s_ixS ?_
  | ((with_reducible refine' s_getL ?k1 ?_); (case k1 => walk_at "look"))
  | ((with_reducible refine' s_opt ?k1 ?_); (case k1 => walk_at "opt"))
  | with_reducible refine s_binT ?_
  | with_reducible refine s_tup ?_
  | with_reducible refine s_tpT ?_
  | with_reducible refine s_key ?_
  | with_reducible refine s_kII ?_
  | with_reducible refine s_kIII ?_
  | with_reducible refine s_dget ?_
  | ((with_reducible refine' s_atT ?k1 ?_); (case k1 => walk_at "look"))
  | ((with_reducible refine' s_atTl ?k1 ?_); (case k1 => walk_at "look"))
  | ((with_reducible refine' s_got ?k1 ?_); (case k1 => assumption))
  | with_reducible refine s_din ?_
  | with_reducible refine s_dinT ?_
  | with_reducible refine s_dgetor ?_
  | with_reducible refine s_dput ?_
  | with_reducible refine s_dnewT ?_
  | with_reducible refine s_disp1 ?_
  | with_reducible refine s_keys ?_
  | with_reducible refine s_ixK0 ?_
  | with_reducible refine s_ixK1 ?_
  | with_reducible refine s_bTK ?_
  | with_reducible refine s_gTK ?_
  | with_reducible refine s_lst ?_
  | with_reducible refine s_ret ?_
  | with_reducible refine s_if ?_
  | with_reducible refine s_nextM ?_
  | with_reducible refine s_drop ?_
  | with_reducible refine s_par ?_
  | with_reducible refine s_asg ?_
  | with_reducible refine s_gN ?_
  | ((with_reducible refine' s_gT ?k1 ?_); (case k1 => exact rfl))
  | with_reducible refine s_gsC ?_
  | with_reducible refine s_gsN ?_
  | with_reducible refine s_gIx ?_
  | with_reducible refine s_setD ?_
  | with_reducible refine s_for ?_
  | with_reducible refine s_b ?_
  | with_reducible refine s_and ?_
  | with_reducible refine s_or ?_
  | with_reducible refine s_not ?_
  | with_reducible refine s_ife ?_
  | with_reducible refine s_neg ?_
  | with_reducible refine s_notV ?_
  | with_reducible refine s_andV ?_
  | with_reducible refine s_orV ?_
  | with_reducible refine s_isi ?_
  | with_reducible refine s_m ?_
  | with_reducible refine s_none ?_
  | with_reducible refine s_noneT ?_
  | with_reducible refine s_sl ?_
  | with_reducible refine s_oN ?_
  | with_reducible refine s_oS ?_
  | with_reducible refine s_lc ?_
  | with_reducible refine s_bN ?_
  | with_reducible refine s_bT ?_
  | with_reducible refine s_bTC ?_
  | with_reducible refine s_bTN ?_
  | with_reducible refine s_it ?_
  | with_reducible refine s_rng ?_
  | with_reducible refine s_zip ?_
  | with_reducible refine s_zip2 ?_
  | with_reducible refine s_enum ?_
  | with_reducible refine s_enum1 ?_
  | with_reducible refine s_yes ?_
  | with_reducible refine s_cT ?_
  | with_reducible refine s_cF ?_
  | with_reducible refine s_retN ?_
  | with_reducible refine s_try ?_
  | with_reducible refine s_raise0 ?_
  | with_reducible refine s_raise1 ?_
  | with_reducible refine s_isE ?_
  | with_reducible refine s_fld ?_
  | with_reducible refine s_brk ?_
  | with_reducible refine s_cnt ?_
  | ((with_reducible refine' s_aug ?k1 ?_); (case k1 => exact rfl))
  | with_reducible refine s_augix ?_
  | with_reducible refine s_addI ?_
  | ((with_reducible refine' s_addT ?k1 ?_); (case k1 => walk_at "side"))
  | ((with_reducible refine' s_addS ?k1 ?_); (case k1 => walk_at "side"))
  | with_reducible refine s_catL ?_
  | with_reducible refine s_subI ?_
  | ((with_reducible refine' s_mulI ?k1 ?_); (case k1 => walk_at "side"))
  | ((with_reducible refine' s_divI ?k1 ?_); (case k1 => walk_at "side"))
  | ((with_reducible refine' s_modI ?k1 ?_); (case k1 => walk_at "side"))
  | ((with_reducible refine' s_powI ?k1 ?_); (case k1 => walk_at "side"))
  | ((with_reducible refine' s_shlI ?k1 ?_); (case k1 => walk_at "side"))
  | with_reducible refine s_iaddI ?_
  | ((with_reducible refine' s_iaddS ?k1 ?_); (case k1 => walk_at "side"))
  | with_reducible refine s_eqI ?_
  | with_reducible refine s_neI ?_
  | with_reducible refine s_eqS ?_
  | with_reducible refine s_neS ?_
  | with_reducible refine s_eqB ?_
  | with_reducible refine s_neB ?_
  | with_reducible refine s_cmp ?_
  | ((with_reducible refine' s_ixX ?k1 ?_); (case k1 => walk_at "side"))
  | with_reducible refine s_lenT ?_
  | with_reducible refine s_lenL ?_
  | with_reducible refine s_lenC ?_
  | ((with_reducible refine' s_lenS ?k1 ?_); (case k1 => walk_at "side"))
  | with_reducible refine s_abs ?_
  | with_reducible refine s_intI ?_
  | with_reducible refine s_intB ?_
  | with_reducible refine s_gcd ?_
  | with_reducible refine s_listT ?_
  | with_reducible refine s_listL ?_
  | with_reducible refine s_tupT ?_
  | with_reducible refine s_tupL ?_
  | with_reducible refine s_all ?_
  | with_reducible refine s_any ?_
  | with_reducible refine s_sum ?_
  | with_reducible refine s_sumAT ?_
  | with_reducible refine s_sumAL ?_
  | with_reducible refine s_cnT ?_
  | with_reducible refine s_cnF ?_
  | with_reducible refine s_par3 ?_
  | with_reducible refine s_max2 ?_
  | with_reducible refine s_min2 ?_
  | with_reducible refine s_chain ?_
  | with_reducible refine s_chainT ?_
  | with_reducible refine s_inL ?_
  | with_reducible refine s_inT ?_
  | with_reducible refine s_append ?_
  | with_reducible refine s_extend ?_
  | with_reducible refine s_popAt ?_
  | with_reducible refine s_pop ?_
  | with_reducible refine s_slT ?_
  | with_reducible refine s_slL ?_
  | with_reducible refine s_itT ?_
  | with_reducible refine s_itL ?_
  | with_reducible refine s_itC ?_
  | ((with_reducible refine' s_rng1 ?k1 ?_); (case k1 => walk_at "side"))
  | ((with_reducible refine' s_rng2 ?k1 ?_); (case k1 => walk_at "side"))
  | ((with_reducible refine' s_rngD ?k1 ?_); (case k1 => walk_at "side"))
  | ((with_reducible refine' And.intro (s_isDT ?k1) ?_); (case k1 => walk_at "look"))
  | ((with_reducible refine' s_isLst ?k1 ?_); (case k1 => walk_at "look"))
  | ((with_reducible refine' s_lstOkL ?k1 ?_); (case k1 => walk_at "look"))
  | ((with_reducible refine' And.intro ?k1 ?_); (case k1 => walk_at "side")))
local macro_rules | `(tactic| walk_at "s") => `(tactic| repeat (walk_at "s1"))
/-! rows of fractions -/
def spGreatest : SpD := fun ds st R _ => ∃ (row : D) (xs : List Rat) (k : Nat), ds = [row] ∧ RowAt st row (xs.map qD) ∧ xs ≠ [] ∧ k ≤ 100000 ∧ (∀ x ∈ xs, Bits k x) ∧ ∀ m ∈ xs, (∀ x ∈ xs, x ≤ m) → R (qD m) st
theorem len_greatest : ∀ ds st R Rx, spGreatest ds st R Rx → ds.length = 1 := by
  rintro ds st R Rx ⟨_, _, _, rfl, -⟩; rfl
theorem read_greatest : ∀ ds st R Rx, spGreatest ds st R Rx → wb_law_greatest spLess (bodyEd R Rx) (startD 3 ds) st := by
  rintro ds st R Rx ⟨row, xs, k, rfl, hrow, hne, hk, hb, kk⟩
  unfold wb_law_greatest bodyEd
  cases xs with
  | nil => exact absurd rfl hne
  | cons x0 xs =>
  walk_at "s"
  refine s_ixRow hrow ?_
  rw [List.map_cons]
  walk_at "s"
  refine s_itRow hrow fun G hG => ?_
  refine for_ind (fun rest ep st' => ∃ pre suf b x2, x0 :: xs = pre ++ suf ∧ rest = suf.map qD ∧ b ∈ x0 :: xs ∧ (∀ x ∈ pre, x ≤ b) ∧ ep = [some row, some (qD b), x2] ∧ st' = st) ?_ ?_ _ _ _ ⟨[], x0 :: xs, x0, none, rfl, rfl, List.mem_cons_self, fun x hx => by (cases hx), rfl, rfl⟩
  · rintro ep st' ⟨pre, suf, b, x2, e, e2, hb', hle, rfl, rfl⟩
    refine ⟨hG, ?_⟩
    walk_at "s"
    have : suf = [] := by cases suf with
      | nil => rfl
      | cons _ _ => cases e2
    subst this
    rw [List.append_nil] at e
    exact s_end (kk b hb' (by rw [e]; exact hle))
  · rintro d r ep st' ⟨pre, suf, b, x2, e, e2, hb', hle, rfl, rfl⟩ ih
    refine ⟨hG, ?_⟩
    cases suf with
    | nil => cases e2
    | cons s suf =>
    obtain ⟨rfl, rfl⟩ := List.cons.inj e2
    have hs : s ∈ x0 :: xs := by rw [e]; exact List.mem_append_right _ List.mem_cons_self
    walk_at "s"
    refine less_q (hb b hb') (hb s hs) (by omega) ?_
    walk_at "s"
    refine s_dec (fun e3 => ?_) (fun e3 => ?_)
    · walk_at "s"
      refine ih _ _ ⟨pre ++ [s], suf, s, _, by rw [e, List.append_assoc]; rfl, rfl, hs, fun x hx => ?_, rfl, rfl⟩
      rcases List.mem_append.mp hx with hx | hx
      · exact Rat.le_trans (hle x hx) (Rat.le_of_lt e3)
      · rw [List.mem_singleton.mp hx]; exact Rat.le_refl
    · walk_at "s"
      refine ih _ _ ⟨pre ++ [s], suf, b, _, by rw [e, List.append_assoc]; rfl, rfl, hb', fun x hx => ?_, rfl, rfl⟩
      rcases List.mem_append.mp hx with hx | hx
      · exact hle x hx
      · rw [List.mem_singleton.mp hx]; exact Rat.not_lt.mp e3
/-- the sum of a row -/
def sumQ : List Rat → Rat := fun l => l.foldr (· + ·) 0
theorem sumQ_append (a b : List Rat) : sumQ (a ++ b) = sumQ a + sumQ b := by
  induction a with
  | nil => show _ = 0 + _; rw [Rat.zero_add]; rfl
  | cons x a ih => show x + sumQ (a ++ b) = x + sumQ a + sumQ b; rw [ih, Rat.add_assoc]
theorem sumQ_one (x : Rat) : sumQ [x] = x := by show x + 0 = x; exact Rat.add_zero x
def spSumQ : SpD := fun ds st R _ => ∃ (row : D) (xs : List Rat) (k : Nat), ds = [row] ∧ RowAt st row (xs.map qD) ∧ 1 + xs.length * (k + 1) ≤ 8900 ∧ (∀ x ∈ xs, Bits k x) ∧ (Bits (1 + xs.length * (k + 1)) (sumQ xs) → R (qD (sumQ xs)) st)
theorem len_sumq : ∀ ds st R Rx, spSumQ ds st R Rx → ds.length = 1 := by
  rintro ds st R Rx ⟨_, _, _, rfl, -⟩; rfl
theorem gcd_parts {n d : Int} (hd : 0 < d) : ∃ g x y : Int, ((Nat.gcd n.natAbs d.natAbs : Nat) : Int) = g ∧ 0 < g ∧ n = g * x ∧ d = g * y ∧ n / g = x ∧ d / g = y ∧ 0 < y ∧ x.natAbs ≤ n.natAbs ∧ y.natAbs ≤ d.natAbs := by
  have hg : 0 < Nat.gcd n.natAbs d.natAbs := Nat.gcd_pos_of_pos_right _ (by omega)
  obtain ⟨x, hx⟩ : ((Nat.gcd n.natAbs d.natAbs : Nat) : Int) ∣ n := Int.ofNat_dvd_left.mpr (Nat.gcd_dvd_left _ _)
  obtain ⟨y, hy⟩ : ((Nat.gcd n.natAbs d.natAbs : Nat) : Int) ∣ d := Int.ofNat_dvd_left.mpr (Nat.gcd_dvd_right _ _)
  refine ⟨_, x, y, rfl, by omega, hx, hy, ?_, ?_, ?_, ?_, ?_⟩
  · conv => lhs; lhs; rw [hx]
    exact Int.mul_ediv_cancel_left _ (by omega)
  · conv => lhs; lhs; rw [hy]
    exact Int.mul_ediv_cancel_left _ (by omega)
  · rw [hy] at hd; exact Int.pos_of_mul_pos_right hd (by omega)
  · conv => rhs; rw [hx, Int.natAbs_mul, Int.natAbs_natCast]
    exact Nat.le_mul_of_pos_left _ hg
  · conv => rhs; rw [hy, Int.natAbs_mul, Int.natAbs_natCast]
    exact Nat.le_mul_of_pos_left _ hg
theorem f_sum {t g b n d : Rat} (hg : g ≠ 0) (hb : b ≠ 0) (hd : d ≠ 0) : (t * d + n * b) / (g * b * d) = t / (g * b) + n / (g * d) := by grind
theorem cast_ne {x : Int} (h : x ≠ 0) : (x : Rat) ≠ 0 := fun e => h (Rat.intCast_eq_zero_iff.mp e)
theorem read_sumq : ∀ ds st R Rx, spSumQ ds st R Rx → wb_law_sum spGcd spFrac (bodyEd R Rx) (startD 6 ds) st := by
  rintro ds st R Rx ⟨row, xs, k, rfl, hrow, hk, hb, kk⟩
  unfold wb_law_sum bodyEd
  walk_at "s"
  refine s_itRow hrow fun G hG => ?_
  refine for_ind (fun rest ep st' => ∃ pre suf, ∃ (t b : Int) (x3 x4 x5 : Option D), xs = pre ++ suf ∧ rest = suf.map qD ∧ 0 < b ∧ Bt (1 + pre.length * (k + 1)) t ∧ Bt (1 + pre.length * (k + 1)) b ∧ (t : Rat) / b = sumQ pre ∧ ep = [some row, some (.int t), some (.int b), x3, x4, x5] ∧ st' = st) ?_ ?_ _ _ _ ⟨[], xs, 0, 1, none, none, none, rfl, rfl, by decide, (show Bt 1 0 by unfold Bt; decide).mono (by omega), (show Bt 1 1 by unfold Bt; decide).mono (by omega), by show _ = (0 : Rat); grind, rfl, rfl⟩
  · rintro ep st' ⟨pre, suf, t, b, x3, x4, x5, e, e2, b0, bt, bb, hv, rfl, rfl⟩
    refine ⟨hG, ?_⟩
    have : suf = [] := by cases suf with
      | nil => rfl
      | cons _ _ => cases e2
    subst this
    rw [List.append_nil] at e
    subst e
    walk_at "s"
    refine ⟨_, _, rfl, by omega, bb.log9 (by omega), frac_rat (by omega) fun z ez z1 z2 => ?_⟩
    have e : z = sumQ xs := by rw [ez]; exact hv
    have bz := bits_of bt bb z1 z2
    rw [e] at bz ⊢
    exact s_end (kk bz)
  · rintro d r ep st' ⟨pre, suf, t, b, x3, x4, x5, e, e2, b0, bt, bb, hv, rfl, rfl⟩ ih
    refine ⟨hG, ?_⟩
    cases suf with
    | nil => cases e2
    | cons s suf =>
    obtain ⟨rfl, rfl⟩ := List.cons.inj e2
    have hs := hb s (by rw [e]; exact List.mem_append_right _ List.mem_cons_self)
    have sd := den_pos s
    have hlen : pre.length + 1 ≤ xs.length := by rw [e, List.length_append, List.length_cons]; omega
    have hmul : (pre.length + 1) * (k + 1) ≤ xs.length * (k + 1) := Nat.mul_le_mul_right _ hlen
    rw [Nat.succ_mul] at hmul
    obtain ⟨g, x, y, hg, g0, hx, hy, q1, q2, y0, lx, ly⟩ := gcd_parts (n := b) (d := (s.den : Int)) sd
    have x0 : 0 < x := by rw [hx] at b0; exact Int.pos_of_mul_pos_right b0 (by omega)
    have bx : Bt (1 + pre.length * (k + 1)) x := bb.of_le lx
    have by' : Bt k y := hs.d.of_le ly
    have gs : 0 < g ∧ g.natAbs.log2 < 9000 := by
      have := gcd_side (n := b) (d := (s.den : Int)) (by omega) (hs.d.log9 (by omega))
      rwa [hg] at this
    unfold qD
    walk_at "s"
    refine ⟨_, _, rfl, ?_⟩
    rw [hg]
    walk_at "s"
    rw [q2]
    refine s_mulI (bt.ok by' (by omega)) ?_
    walk_at "s"
    rw [q1]
    refine s_mulI (hs.n.ok bx (by omega)) ?_
    walk_at "s"
    rw [q2]
    refine s_mulI (bb.ok by' (by omega)) ?_
    walk_at "s"
    refine ih _ _ ⟨pre ++ [s], suf, _, _, _, _, _, by rw [e, List.append_assoc]; rfl, rfl, Int.mul_pos b0 y0, ?_, ?_, ?_, rfl, rfl⟩
    · rw [List.length_append, List.length_singleton, Nat.succ_mul]
      exact ((bt.mul by').add ((hs.n.mul bx).mono (by omega))).mono (by omega)
    · rw [List.length_append, List.length_singleton, Nat.succ_mul]
      exact (bb.mul by').mono (by omega)
    · rw [sumQ_append, sumQ_one, ← hv]
      conv => rhs; rhs; rw [← rat_cast s]
      conv => rhs; rw [hx, hy]
      conv => lhs; rw [hx]
      rw [Rat.intCast_add, Rat.intCast_mul, Rat.intCast_mul, Rat.intCast_mul, Rat.intCast_mul, Rat.intCast_mul]
      exact f_sum (cast_ne (x := g) (by omega)) (cast_ne (x := x) (by omega)) (cast_ne (x := y) (by omega))
/-- brought to one bottom -/
def topsOf (xs : List Rat) (L : Int) : List Int := xs.map fun x => x.num * (L / (x.den : Int))
def spShared : SpD := fun ds st R _ => ∃ (row : D) (xs : List Rat) (k : Nat), ds = [row] ∧ RowAt st row (xs.map qD) ∧ (1 + xs.length * k ≤ 8900 ∧ k ≤ 8900) ∧ xs.length ≤ 1000000 ∧ (∀ x ∈ xs, Bits k x) ∧ ∀ L, 0 < L → Bt (1 + xs.length * k) L → (∀ x ∈ xs, (x.den : Int) ∣ L) → R (.tup [.tup ((topsOf xs L).map D.int), .int L]) st
theorem len_shared : ∀ ds st R Rx, spShared ds st R Rx → ds.length = 1 := by
  rintro ds st R Rx ⟨_, _, _, rfl, -⟩; rfl
theorem read_shared : ∀ ds st R Rx, spShared ds st R Rx → wb_shared (bodyEd R Rx) (startD 4 ds) st := by
  rintro ds st R Rx ⟨row, xs, k, rfl, hrow, ⟨hk, hk2⟩, hl, hb, kk⟩
  unfold wb_shared bodyEd
  walk_at "s"
  refine s_itRow hrow fun G hG => ?_
  refine for_ind (fun rest ep st' => ∃ pre suf, ∃ (b : Int) (x3 x4 : Option D), xs = pre ++ suf ∧ rest = suf.map qD ∧ 0 < b ∧ Bt (1 + pre.length * k) b ∧ (∀ x ∈ pre, (x.den : Int) ∣ b) ∧ ep = [some row, some (.int b), x3, x4] ∧ st' = st) ?_ ?_ _ _ _ ⟨[], xs, 1, none, none, rfl, rfl, by decide, (show Bt 1 1 by unfold Bt; decide).mono (by omega), fun x hx => by (cases hx), rfl, rfl⟩
  · rintro ep st' ⟨pre, suf, b, x3, x4, e, e2, b0, bb, hd, rfl, rfl⟩
    refine ⟨hG, ?_⟩
    have : suf = [] := by cases suf with
      | nil => rfl
      | cons _ _ => cases e2
    subst this
    rw [List.append_nil] at e
    subst e
    walk_at "s"
    refine s_itRow hrow fun G hG => ?_
    refine lc_ind (fun items acc st2 => ∃ p2 s2, xs = p2 ++ s2 ∧ items = s2.map qD ∧ acc = (topsOf p2 b).map D.int ∧ st2 = st') ?_ ?_ _ _ _ ⟨[], xs, rfl, rfl, rfl, rfl⟩
    · rintro acc st2 ⟨p2, s2, e, e2, rfl, rfl⟩
      refine ⟨hG, ?_⟩
      have : s2 = [] := by cases s2 with
        | nil => rfl
        | cons _ _ => cases e2
      subst this
      rw [List.append_nil] at e
      subst e
      intro u hu
      walk_at "s"
      exact s_endS (Sub.put_new hu) (kk b b0 bb hd)
    · rintro d r acc st2 ⟨p2, s2, e, e2, rfl, rfl⟩ ih
      refine ⟨hG, ?_⟩
      cases s2 with
      | nil => cases e2
      | cons s s2 =>
      obtain ⟨rfl, rfl⟩ := List.cons.inj e2
      have hs := hb s (by rw [e]; exact List.mem_append_right _ List.mem_cons_self)
      have sd := den_pos s
      have hlen : p2.length + 1 ≤ xs.length := by rw [e, List.length_append, List.length_cons]; omega
      have bq : Bt (1 + xs.length * k) (b / (s.den : Int)) := bb.of_le (Int.natAbs_ediv_le_natAbs _ _)
      unfold qD
      walk_at "s"
      refine s_divI ⟨sd, hs.d.log9 (by omega)⟩ ?_
      walk_at "s"
      refine s_mulI (hs.n.ok bq (by omega)) ?_
      refine ⟨by rw [List.length_map, topsOf, List.length_map]; show _ < 2 ^ 24; omega, ?_⟩
      exact ih _ _ ⟨p2 ++ [s], s2, by rw [e, List.append_assoc]; rfl, rfl, by rw [topsOf, topsOf, List.map_append, List.map_append]; rfl, rfl⟩
  · rintro d r ep st' ⟨pre, suf, b, x3, x4, e, e2, b0, bb, hd, rfl, rfl⟩ ih
    refine ⟨hG, ?_⟩
    cases suf with
    | nil => cases e2
    | cons s suf =>
    obtain ⟨rfl, rfl⟩ := List.cons.inj e2
    have hs := hb s (by rw [e]; exact List.mem_append_right _ List.mem_cons_self)
    have sd := den_pos s
    have hlen : pre.length + 1 ≤ xs.length := by rw [e, List.length_append, List.length_cons]; omega
    have hmul : (pre.length + 1) * k ≤ xs.length * k := Nat.mul_le_mul_right _ hlen
    rw [Nat.succ_mul] at hmul
    obtain ⟨g, x, y, hg, g0, hx, hy, q1, q2, y0, lx, ly⟩ := gcd_parts (n := b) (d := (s.den : Int)) sd
    have x0 : 0 < x := by rw [hx] at b0; exact Int.pos_of_mul_pos_right b0 (by omega)
    have bx : Bt (1 + pre.length * k) x := bb.of_le lx
    have gs : 0 < g ∧ g.natAbs.log2 < 9000 := by
      have := gcd_side (n := b) (d := (s.den : Int)) (by omega) (hs.d.log9 (by omega))
      rwa [hg] at this
    unfold qD
    walk_at "s"
    rw [hg]
    walk_at "s"
    rw [q1]
    refine s_mulI (bx.ok hs.d (by omega)) ?_
    walk_at "s"
    have e5 : x * (s.den : Int) = b * y := by
      conv => rhs; rw [hx]
      conv => lhs; rw [hy]
      rw [Int.mul_assoc, Int.mul_left_comm]
    refine ih _ _ ⟨pre ++ [s], suf, _, _, _, by rw [e, List.append_assoc]; rfl, rfl, Int.mul_pos x0 sd, ?_, fun z hz => ?_, rfl, rfl⟩
    · rw [List.length_append, List.length_singleton, Nat.succ_mul]
      exact (bx.mul hs.d).mono (by omega)
    · rcases List.mem_append.mp hz with hz | hz
      · rw [e5]; exact Int.dvd_mul_of_dvd_left (hd z hz)
      · rw [List.mem_singleton.mp hz]; exact Int.dvd_mul_left _ _
end C
end DL

namespace DL
namespace C
open PySem L2
local macro_rules | `(tactic| walk_at "look") => `(tactic| first
  | assumption
  | exact put_same
  | (refine look_ne (by first | assumption | exact Ne.symm (by assumption)) ?_; walk_at "look")
  | (refine look_new (by assumption) ?_; walk_at "look"))
local macro_rules | `(tactic| walk_at "side") => `(tactic| first | assumption | exact trivial | decide | omega | exact ⟨by assumption, by assumption⟩ | exact ⟨by omega, by omega⟩ | exact ⟨by decide, by decide⟩ | exact ⟨by decide, by decide, by decide⟩ | (exact .inl (.inl ⟨by decide, by decide⟩)) | (exact .inl (.inr ⟨by decide, by decide⟩)) | (exact .inl (.inl ⟨by omega, by omega⟩)) | (exact .inl (.inr ⟨by omega, by omega⟩)))
local macro_rules | `(tactic| walk_at "opt") => `(tactic| first | (with_reducible exact atI_0 _ _) | (with_reducible exact atI_1 _ _ _) | (with_reducible exact atI_2 _ _ _ _) | (with_reducible exact atI_3 _ _ _ _ _) | (with_reducible exact atI_4 _ _ _ _ _ _) | assumption | exact atI_0 _ _ | exact atI_1 _ _ _ | exact atI_2 _ _ _ _ | exact atI_3 _ _ _ _ _ | exact atI_4 _ _ _ _ _ _ | exact boolsOf_map _ | exact intsOf_map _ | exact rfl)
local macro_rules | `(tactic| walk_at "s1") => `(tactic| first
  | ((with_reducible refine' s_var ?k1 ?_); (case k1 => exact rfl))
  | with_reducible refine s_bin ?_
  | with_reducible refine s_c ?_
  | with_reducible refine s_seqM ?_
  | with_reducible refine s_asB ?_
  | with_reducible refine s_asI ?_
  | with_reducible refine s_asRI ?_
  | with_reducible refine s_acons ?_
  | with_reducible refine s_anil ?_
  | with_reducible refine s_call ?_
  | with_reducible refine s_cb ?_
  | with_reducible refine s_set ?_
  | with_reducible refine s_ixT ?_
  | with_reducible refine s_ixL ?_
  | with_reducible refine s_ixS ?_
  | ((with_reducible refine' s_getL ?k1 ?_); (case k1 => walk_at "look"))
  | ((with_reducible refine' s_opt ?k1 ?_); (case k1 => walk_at "opt"))
  | with_reducible refine s_binT ?_
  | with_reducible refine s_tup ?_
  | with_reducible refine s_tpT ?_
  | with_reducible refine s_key ?_
  | with_reducible refine s_kII ?_
  | with_reducible refine s_kIII ?_
  | with_reducible refine s_dget ?_
  | ((with_reducible refine' s_atT ?k1 ?_); (case k1 => walk_at "look"))
  | ((with_reducible refine' s_atTl ?k1 ?_); (case k1 => walk_at "look"))
  | ((with_reducible refine' s_got ?k1 ?_); (case k1 => assumption))
  | with_reducible refine s_din ?_
  | with_reducible refine s_dinT ?_
  | with_reducible refine s_dgetor ?_
  | with_reducible refine s_dput ?_
  | with_reducible refine s_dnewT ?_
  | with_reducible refine s_disp1 ?_
  | with_reducible refine s_keys ?_
  | with_reducible refine s_ixK0 ?_
  | with_reducible refine s_ixK1 ?_
  | with_reducible refine s_bTK ?_
  | with_reducible refine s_gTK ?_
  | with_reducible refine s_lst ?_
  | with_reducible refine s_ret ?_
  | with_reducible refine s_if ?_
  | with_reducible refine s_nextM ?_
  | with_reducible refine s_drop ?_
  | with_reducible refine s_par ?_
  | with_reducible refine s_asg ?_
  | with_reducible refine s_gN ?_
  | ((with_reducible refine' s_gT ?k1 ?_); (case k1 => exact rfl))
  | with_reducible refine s_gsC ?_
  | with_reducible refine s_gsN ?_
  | with_reducible refine s_gIx ?_
  | with_reducible refine s_setD ?_
  | with_reducible refine s_for ?_
  | with_reducible refine s_b ?_
  | with_reducible refine s_and ?_
  | with_reducible refine s_or ?_
  | with_reducible refine s_not ?_
  | with_reducible refine s_ife ?_
  | with_reducible refine s_neg ?_
  | with_reducible refine s_notV ?_
  | with_reducible refine s_andV ?_
  | with_reducible refine s_orV ?_
  | with_reducible refine s_isi ?_
  | with_reducible refine s_m ?_
  | with_reducible refine s_none ?_
  | with_reducible refine s_noneT ?_
  | with_reducible refine s_sl ?_
  | with_reducible refine s_oN ?_
  | with_reducible refine s_oS ?_
  | with_reducible refine s_lc ?_
  | with_reducible refine s_bN ?_
  | with_reducible refine s_bT ?_
  | with_reducible refine s_bTC ?_
  | with_reducible refine s_bTN ?_
  | with_reducible refine s_it ?_
  | with_reducible refine s_rng ?_
  | with_reducible refine s_zip ?_
  | with_reducible refine s_zip2 ?_
  | with_reducible refine s_enum ?_
  | with_reducible refine s_enum1 ?_
  | with_reducible refine s_yes ?_
  | with_reducible refine s_cT ?_
  | with_reducible refine s_cF ?_
  | with_reducible refine s_retN ?_
  | with_reducible refine s_try ?_
  | with_reducible refine s_raise0 ?_
  | with_reducible refine s_raise1 ?_
  | with_reducible refine s_isE ?_
  | with_reducible refine s_fld ?_
  | with_reducible refine s_brk ?_
  | with_reducible refine s_cnt ?_
  | ((with_reducible refine' s_aug ?k1 ?_); (case k1 => exact rfl))
  | with_reducible refine s_augix ?_
  | with_reducible refine s_addI ?_
  | ((with_reducible refine' s_addT ?k1 ?_); (case k1 => walk_at "side"))
  | ((with_reducible refine' s_addS ?k1 ?_); (case k1 => walk_at "side"))
  | with_reducible refine s_catL ?_
  | with_reducible refine s_subI ?_
  | ((with_reducible refine' s_mulI ?k1 ?_); (case k1 => walk_at "side"))
  | ((with_reducible refine' s_divI ?k1 ?_); (case k1 => walk_at "side"))
  | ((with_reducible refine' s_modI ?k1 ?_); (case k1 => walk_at "side"))
  | ((with_reducible refine' s_powI ?k1 ?_); (case k1 => walk_at "side"))
  | ((with_reducible refine' s_shlI ?k1 ?_); (case k1 => walk_at "side"))
  | with_reducible refine s_iaddI ?_
  | ((with_reducible refine' s_iaddS ?k1 ?_); (case k1 => walk_at "side"))
  | with_reducible refine s_eqI ?_
  | with_reducible refine s_neI ?_
  | with_reducible refine s_eqS ?_
  | with_reducible refine s_neS ?_
  | with_reducible refine s_eqB ?_
  | with_reducible refine s_neB ?_
  | with_reducible refine s_cmp ?_
  | ((with_reducible refine' s_ixX ?k1 ?_); (case k1 => walk_at "side"))
  | with_reducible refine s_lenT ?_
  | with_reducible refine s_lenL ?_
  | with_reducible refine s_lenC ?_
  | ((with_reducible refine' s_lenS ?k1 ?_); (case k1 => walk_at "side"))
  | with_reducible refine s_abs ?_
  | with_reducible refine s_intI ?_
  | with_reducible refine s_intB ?_
  | with_reducible refine s_gcd ?_
  | with_reducible refine s_listT ?_
  | with_reducible refine s_listL ?_
  | with_reducible refine s_tupT ?_
  | with_reducible refine s_tupL ?_
  | with_reducible refine s_all ?_
  | with_reducible refine s_any ?_
  | with_reducible refine s_sum ?_
  | with_reducible refine s_sumAT ?_
  | with_reducible refine s_sumAL ?_
  | with_reducible refine s_cnT ?_
  | with_reducible refine s_cnF ?_
  | with_reducible refine s_par3 ?_
  | with_reducible refine s_max2 ?_
  | with_reducible refine s_min2 ?_
  | with_reducible refine s_chain ?_
  | with_reducible refine s_chainT ?_
  | with_reducible refine s_inL ?_
  | with_reducible refine s_inT ?_
  | with_reducible refine s_append ?_
  | with_reducible refine s_extend ?_
  | with_reducible refine s_popAt ?_
  | with_reducible refine s_pop ?_
  | with_reducible refine s_slT ?_
  | with_reducible refine s_slL ?_
  | with_reducible refine s_itT ?_
  | with_reducible refine s_itL ?_
  | with_reducible refine s_itC ?_
  | ((with_reducible refine' s_rng1 ?k1 ?_); (case k1 => walk_at "side"))
  | ((with_reducible refine' s_rng2 ?k1 ?_); (case k1 => walk_at "side"))
  | ((with_reducible refine' s_rngD ?k1 ?_); (case k1 => walk_at "side"))
  | ((with_reducible refine' And.intro (s_isDT ?k1) ?_); (case k1 => walk_at "look"))
  | ((with_reducible refine' s_isLst ?k1 ?_); (case k1 => walk_at "look"))
  | ((with_reducible refine' s_lstOkL ?k1 ?_); (case k1 => walk_at "look"))
  | ((with_reducible refine' And.intro ?k1 ?_); (case k1 => walk_at "side")))
local macro_rules | `(tactic| walk_at "s") => `(tactic| repeat (walk_at "s1"))
theorem intsOf_ints (ns : List Int) : intsOf (ns.map D.int) = some ns := intsOf_map ns
theorem bt_sum {K : Nat} : ∀ {l : List Int}, (∀ x ∈ l, Bt K x) → Bt (K + l.length) l.sum
  | [], _ => by show (0 : Int).natAbs < _; exact Nat.two_pow_pos _
  | x :: l, h => by
    have a := h x List.mem_cons_self
    have b := bt_sum (l := l) fun y hy => h y (List.mem_cons_of_mem _ hy)
    rw [List.sum_cons, List.length_cons]
    exact (a.mono (Nat.le_add_right _ l.length)).add b
theorem tops_sum {L : Int} (hL : 0 < L) : ∀ {xs : List Rat}, (∀ x ∈ xs, (x.den : Int) ∣ L) → (((topsOf xs L).sum : Int) : Rat) / L = sumQ xs
  | [], _ => by show ((0 : Int) : Rat) / L = 0; grind
  | x :: xs, h => by
    have ih := tops_sum hL (xs := xs) fun y hy => h y (List.mem_cons_of_mem _ hy)
    obtain ⟨m, hm⟩ := h x List.mem_cons_self
    have xd := den_pos x
    have e1 : L / (x.den : Int) = m := by rw [hm]; exact Int.mul_ediv_cancel_left _ (by omega)
    have m0 : m ≠ 0 := fun e => by rw [e, Int.mul_zero] at hm; omega
    show (((x.num * (L / (x.den : Int)) + (topsOf xs L).sum : Int)) : Rat) / L = x + sumQ xs
    rw [e1, ← ih, Rat.intCast_add, Rat.intCast_mul]
    have hx := rat_cast x
    have hLq : (L : Rat) = (x.den : Int) * (m : Rat) := by rw [← Rat.intCast_mul, ← hm]
    have c1 := cast_den x
    have c2 := cast_ne m0
    rw [hLq]
    generalize ((x.den : Int) : Rat) = dd at *
    generalize (m : Rat) = mm at *
    generalize (x.num : Rat) = nn at *
    generalize (((topsOf xs L).sum : Int) : Rat) = ss at *
    subst hx
    grind
def tbits (m k : Nat) : Nat := 1 + m * k + k + m
/-- m fractions of k bits may be brought to one bottom -/
def tok (m k : Nat) : Prop := 1 + m * k ≤ 8900 ∧ m + k ≤ 8900
theorem tok_b {m k : Nat} (h : tok m k) : tbits m k ≤ 30000 := by unfold tok at h; unfold tbits; omega
def spTotal : SpD := fun ds st R _ => ∃ (row : D) (xs : List Rat) (k : Nat), ds = [row] ∧ RowAt st row (xs.map qD) ∧ tok xs.length k ∧ (∀ x ∈ xs, Bits k x) ∧ (Bits (tbits xs.length k) (sumQ xs) → R (qD (sumQ xs)) st)
theorem len_total : ∀ ds st R Rx, spTotal ds st R Rx → ds.length = 1 := by
  rintro ds st R Rx ⟨_, _, _, rfl, -⟩; rfl
theorem read_total : ∀ ds st R Rx, spTotal ds st R Rx → wb_total spShared spFrac (bodyEd R Rx) (startD 3 ds) st := by
  rintro ds st R Rx ⟨row, xs, k, rfl, hrow, hk, hb, kk⟩
  have hk0 := hk
  unfold tok at hk
  unfold wb_total bodyEd
  walk_at "s"
  refine ⟨row, xs, k, rfl, hrow, ⟨by omega, by omega⟩, by omega, hb, fun L L0 bL hd => ?_⟩
  walk_at "s"
  refine ⟨_, _, rfl, by omega, bL.log9 (by omega), frac_rat (by omega) fun z ez z1 z2 => ?_⟩
  have e : z = sumQ xs := by rw [ez]; exact tops_sum L0 hd
  have bs : Bt (tbits xs.length k) (topsOf xs L).sum := by
    have := bt_sum (K := 1 + xs.length * k + k) (l := topsOf xs L) fun t ht => by
      obtain ⟨x, hx, rfl⟩ := List.mem_map.mp ht
      exact ((hb x hx).n.mul (bL.of_le (Int.natAbs_ediv_le_natAbs _ _))).mono (by omega)
    rw [topsOf, List.length_map] at this
    exact this
  have bz := bits_of bs (bL.mono (by unfold tbits; omega)) z1 z2
  rw [e] at bz ⊢
  exact s_end (kk bz)
/-! corners, tables -/
abbrev Mv := Int × Nat × Nat
def moveD (m : Mv) : D := .tup [.int m.1, .int (m.2.1 : Int), .int (m.2.2 : Int)]
def cornerD (c : List Mv) : D := .tup (c.map moveD)
def natsD (r : List Nat) : D := .tup (r.map fun i : Nat => D.int (i : Int))
def tabD (t : List (List Rat)) : D := .tup (t.map fun r => .tup (r.map qD))
def tabAt (t : List (List Rat)) (s n : Nat) : Rat := (t.getD s []).getD n 0
def wsum (c : List Mv) : Int := (c.map fun m => m.1).sum
structure MvOk (letters nodes : Nat) (m : Mv) : Prop where
  w0 : 0 < m.1
  w1 : m.1 ≤ 1000
  l : m.2.1 < letters
  a : m.2.2 < nodes
def spWsum : SpD := fun ds st R _ => ∃ c : List Mv, ds = [cornerD c] ∧ c.length ≤ 1000000 ∧ R (.int (wsum c)) st
theorem len_wsum : ∀ ds st R Rx, spWsum ds st R Rx → ds.length = 1 := by
  rintro ds st R Rx ⟨_, rfl, -⟩; rfl
theorem read_wsum : ∀ ds st R Rx, spWsum ds st R Rx → wb_law_weight_sum (bodyEd R Rx) (startD 2 ds) st := by
  rintro ds st R Rx ⟨c, rfl, hl, k⟩
  unfold wb_law_weight_sum bodyEd cornerD
  walk_at "s"
  refine lc_calm (fun d => match d with | .tup (x :: _) => x | d => d) (fun _ => true) trivial (by rw [List.length_map]; show _ ≤ 2 ^ 24; simp only [List.length_nil]; omega) (fun d hd kk kn h1 h2 => ?_) ?_
  · obtain ⟨m, -, rfl⟩ := List.mem_map.mp hd
    unfold moveD at h1 ⊢
    walk_at "s"
    exact h1 rfl
  · rw [List.filter_eq_self.mpr (fun _ _ => rfl), List.map_map, List.nil_append]
    intro u hu
    walk_at "s"
    have e9 : (c.map ((fun d => match d with | D.tup (x :: _) => x | d => d) ∘ moveD)) = (c.map fun m => m.1).map D.int := by rw [List.map_map]; rfl
    refine s_opt (z := c.map fun m => m.1) (by rw [e9]; exact intsOf_ints _) ?_
    walk_at "s"
    exact s_endS (Sub.put_new hu) k
def spCornerTotal : SpD := fun ds st R _ => ∃ c : List Mv, ds = [cornerD c] ∧ c.length ≤ 1000000 ∧ R (qD (wsum c : Rat)) st
theorem len_ctotal : ∀ ds st R Rx, spCornerTotal ds st R Rx → ds.length = 1 := by
  rintro ds st R Rx ⟨_, rfl, -⟩; rfl
theorem qD_int (i : Int) : qD (i : Rat) = .tup [.int i, .int 1] := rfl
theorem read_ctotal : ∀ ds st R Rx, spCornerTotal ds st R Rx → wb_corner_total (bodyEd R Rx) (startD 4 ds) st := by
  rintro ds st R Rx ⟨c, rfl, hl, k⟩
  unfold wb_corner_total bodyEd cornerD
  walk_at "s"
  refine lc_calm (fun d => match d with | .tup (x :: _) => x | d => d) (fun _ => true) trivial (by rw [List.length_map]; show _ ≤ 2 ^ 24; simp only [List.length_nil]; omega) (fun d hd kk kn h1 h2 => ?_) ?_
  · obtain ⟨m, -, rfl⟩ := List.mem_map.mp hd
    unfold moveD at h1 ⊢
    walk_at "s"
    exact h1 rfl
  · rw [List.filter_eq_self.mpr (fun _ _ => rfl), List.map_map, List.nil_append]
    intro u hu
    walk_at "s"
    have e9 : (c.map ((fun d => match d with | D.tup (x :: _) => x | d => d) ∘ moveD)) = (c.map fun m => m.1).map D.int := by rw [List.map_map]; rfl
    refine s_opt (z := c.map fun m => m.1) (by rw [e9]; exact intsOf_ints _) ?_
    walk_at "s"
    exact s_endS (Sub.put_new hu) k
structure TabB (k states nodes : Nat) (t : List (List Rat)) : Prop where
  len : t.length = states
  rows : ∀ r ∈ t, r.length = nodes
  bits : ∀ r ∈ t, ∀ x ∈ r, Bits k x
theorem TabB.row {k states nodes s : Nat} {t : List (List Rat)} (h : TabB k states nodes t) (hs : s < states) : t[s]? = some (t.getD s []) ∧ (t.getD s []).length = nodes ∧ ∀ x ∈ t.getD s [], Bits k x := by
  have hl : s < t.length := by rw [h.len]; exact hs
  have e : t.getD s [] = t[s] := by rw [List.getD_eq_getElem?_getD, List.getElem?_eq_getElem hl]; rfl
  rw [e]
  exact ⟨List.getElem?_eq_getElem hl, h.rows _ (List.getElem_mem hl), h.bits _ (List.getElem_mem hl)⟩
theorem TabB.at {k states nodes s n : Nat} {t : List (List Rat)} (h : TabB k states nodes t) (hs : s < states) (hn : n < nodes) : atI (t.map fun r => D.tup (r.map qD)) (s : Int) = some (.tup ((t.getD s []).map qD)) ∧ atI ((t.getD s []).map qD) (n : Int) = some (qD (tabAt t s n)) ∧ Bits k (tabAt t s n) := by
  obtain ⟨e1, e2, e3⟩ := h.row hs
  have hl : n < (t.getD s []).length := by rw [e2]; exact hn
  have e : tabAt t s n = (t.getD s [])[n] := by rw [tabAt, List.getD_eq_getElem?_getD, List.getElem?_eq_getElem hl]; rfl
  refine ⟨atI_nat (by rw [List.getElem?_map, e1]; rfl), atI_nat (by rw [List.getElem?_map, List.getElem?_eq_getElem hl, e]; rfl), ?_⟩
  rw [e]
  exact e3 _ (List.getElem_mem hl)
theorem nat_at {r : List Nat} {i : Nat} (h : i < r.length) : atI (r.map fun i : Nat => D.int (i : Int)) (i : Int) = some (.int (r.getD i 0 : Nat)) := by
  refine atI_nat ?_
  rw [List.getElem?_map, List.getElem?_eq_getElem h, List.getD_eq_getElem?_getD, List.getElem?_eq_getElem h]; rfl
/-- the sum that a corner brings together -/
def parts (c : List Mv) (r : List Nat) (t : List (List Rat)) : List Rat := c.map fun m => (m.1 : Rat) * tabAt t (r.getD m.2.1 0) m.2.2
structure StepOk (k letters states nodes : Nat) (c : List Mv) (r : List Nat) (t : List (List Rat)) : Prop where
  c : ∀ m ∈ c, MvOk letters nodes m
  rl : r.length = letters
  rs : ∀ i ∈ r, i < states
  t : TabB k states nodes t
theorem StepOk.st {k letters states nodes : Nat} {c : List Mv} {r : List Nat} {t : List (List Rat)} (h : StepOk k letters states nodes c r t) {m : Mv} (hm : m ∈ c) : r.getD m.2.1 0 < states := by
  have := (h.c m hm).l
  have hl : m.2.1 < r.length := by rw [h.rl]; exact this
  rw [List.getD_eq_getElem?_getD, List.getElem?_eq_getElem hl]
  exact h.rs _ (List.getElem_mem hl)
theorem bits_w {m : Mv} {l n : Nat} (h : MvOk l n m) : Bits 10 ((m.1 : Int) : Rat) := by
  have := h.w0
  have := h.w1
  refine ⟨?_, ?_⟩
  · show m.1.natAbs < 2 ^ 10
    omega
  · show (1 : Int).natAbs < 2 ^ 10
    decide
theorem moveD_0 {m : Mv} : atI [D.int m.1, D.int (m.2.1 : Int), D.int (m.2.2 : Int)] 0 = some (.int m.1) := atI_0 _ _
theorem Bits.mul {k l : Nat} {x y : Rat} (h : Bits k x) (g : Bits l y) : Bits (k + l) (x * y) := by
  refine ⟨?_, ?_⟩
  · rw [Rat.num_mul]
    exact (h.n.mul g.n).of_le (Int.natAbs_ediv_le_natAbs _ _)
  · rw [Rat.den_mul]
    refine (h.d.mul g.d).of_le ?_
    have e : ((x.den : Int) * (y.den : Int)).natAbs = x.den * y.den := by rw [Int.natAbs_mul, Int.natAbs_natCast, Int.natAbs_natCast]
    rw [e, Int.natAbs_natCast]
    exact Nat.div_le_self _ _
def spWeighed : SpD := fun ds st R _ => ∃ (c : List Mv) (r : List Nat) (t : List (List Rat)) (k letters states nodes : Nat), ds = [cornerD c, natsD r, tabD t] ∧ StepOk k letters states nodes c r t ∧ c.length ≤ 1000 ∧ tok c.length (k + 10) ∧ (Bits (tbits c.length (k + 10)) (sumQ (parts c r t)) → R (qD (sumQ (parts c r t))) st)
theorem len_weighed : ∀ ds st R Rx, spWeighed ds st R Rx → ds.length = 3 := by
  rintro ds st R Rx ⟨_, _, _, _, _, _, _, rfl, -⟩; rfl
theorem parts_map {c : List Mv} {r : List Nat} {t : List (List Rat)} : (parts c r t).length = c.length := List.length_map ..
theorem parts_bits {k letters states nodes : Nat} {c : List Mv} {r : List Nat} {t : List (List Rat)} (h : StepOk k letters states nodes c r t) : ∀ x ∈ parts c r t, Bits (k + 10) x := by
  intro x hx
  obtain ⟨m, hm, rfl⟩ := List.mem_map.mp hx
  have b := (h.t.at (h.st hm) (h.c m hm).a).2.2
  exact ((bits_w (h.c m hm)).mul b).mono (by omega)
theorem read_weighed : ∀ ds st R Rx, spWeighed ds st R Rx → wb_weighed_entries spTotal spTimes (bodyEd R Rx) (startD 6 ds) st := by
  rintro ds st R Rx ⟨c, r, t, k, letters, states, nodes, rfl, ok, hl, hb, kk⟩
  have hk : k + 10 ≤ 8900 := Nat.le_trans (Nat.le_add_left _ _) hb.2
  unfold wb_weighed_entries bodyEd cornerD natsD tabD
  walk_at "s"
  refine lc_ind (fun items acc st2 => ∃ p2 s2, c = p2 ++ s2 ∧ items = s2.map moveD ∧ acc = (parts p2 r t).map qD ∧ st2 = st) ?_ ?_ _ _ _ ⟨[], c, rfl, rfl, rfl, rfl⟩
  · rintro acc st2 ⟨p2, s2, e, e2, rfl, rfl⟩
    refine ⟨trivial, ?_⟩
    have : s2 = [] := by cases s2 with
      | nil => rfl
      | cons _ _ => cases e2
    subst this
    rw [List.append_nil] at e
    subst e
    intro u hu
    refine ⟨_, parts c r t, k + 10, rfl, .inr ⟨u, rfl, put_same⟩, by rw [parts_map]; exact hb, parts_bits ok, fun hz => ?_⟩
    rw [parts_map] at hz
    exact s_endS (Sub.put_new hu) (kk hz)
  · rintro d rr acc st2 ⟨p2, s2, e, e2, rfl, rfl⟩ ih
    refine ⟨trivial, ?_⟩
    cases s2 with
    | nil => cases e2
    | cons m s2 =>
    obtain ⟨rfl, rfl⟩ := List.cons.inj e2
    have hm : m ∈ c := by rw [e]; exact List.mem_append_right _ List.mem_cons_self
    have hlen : p2.length + 1 ≤ c.length := by rw [e, List.length_append, List.length_cons]; omega
    have mo := ok.c m hm
    have a1 := nat_at (r := r) (i := m.2.1) (by rw [ok.rl]; exact mo.l)
    obtain ⟨a2, a3, b3⟩ := ok.t.at (ok.st hm) mo.a
    unfold moveD
    walk_at "s"
    refine times_q (x := ((m.1 : Int) : Rat)) (bits_w mo) b3 (by omega) fun _ => ?_
    refine ⟨by rw [List.length_map, parts_map]; show _ < 2 ^ 24; omega, ?_⟩
    exact ih _ _ ⟨p2 ++ [m], s2, by rw [e, List.append_assoc]; rfl, rfl, by rw [parts, parts, List.map_append, List.map_append]; rfl, rfl⟩
theorem wsum_bt {letters nodes : Nat} {c : List Mv} (h : ∀ m ∈ c, MvOk letters nodes m) : Bt (10 + c.length) (wsum c) := by
  have := bt_sum (K := 10) (l := c.map fun m => m.1) fun x hx => by
    obtain ⟨m, hm, rfl⟩ := List.mem_map.mp hx
    exact (bits_w (h m hm)).n
  rwa [List.length_map] at this
theorem bits_int {k : Nat} {i : Int} (h : Bt k i) (hk : 0 < k) : Bits k (i : Rat) := ⟨h, (show Bt 1 1 by unfold Bt; decide).mono hk⟩
def Grow (c : List Mv) (r : List Nat) (t : List (List Rat)) (e : Rat) : Prop := (wsum c : Rat) * e < sumQ (parts c r t)
instance {c r t e} : Decidable (Grow c r t e) := by unfold Grow; infer_instance
def spGrow : SpD := fun ds st R _ => ∃ (c : List Mv) (r : List Nat) (t : List (List Rat)) (e : Rat) (k letters states nodes : Nat), ds = [cornerD c, natsD r, tabD t, qD e] ∧ StepOk k letters states nodes c r t ∧ Bits k e ∧ c.length ≤ 1000 ∧ tok c.length (k + 10) ∧ R (.bl (decide (Grow c r t e))) st
theorem len_grow : ∀ ds st R Rx, spGrow ds st R Rx → ds.length = 4 := by
  rintro ds st R Rx ⟨_, _, _, _, _, _, _, _, rfl, -⟩; rfl
theorem read_growing : ∀ ds st R Rx, spGrow ds st R Rx → wb_is_growing_by spAtMost spWeighed spTimes spCornerTotal (bodyEd R Rx) (startD 4 ds) st := by
  rintro ds st R Rx ⟨c, r, t, e, k, letters, states, nodes, rfl, ok, be, hl, hb, kk⟩
  have hb' := tok_b hb
  have hb3 := tok_b hb
  have hb2 := hb
  unfold tok at hb2
  unfold tbits at hb'
  unfold wb_is_growing_by bodyEd
  walk_at "s"
  refine ⟨c, r, t, k, letters, states, nodes, rfl, ok, hl, hb, fun bz => ?_⟩
  walk_at "s"
  refine ⟨c, rfl, by omega, ?_⟩
  walk_at "s"
  refine times_q (bits_int (wsum_bt ok.c) (by omega)) be (by omega) fun bw => ?_
  walk_at "s"
  refine atmost_q bz bw (by omega) ?_
  walk_at "s"
  have : (!decide (sumQ (parts c r t) ≤ (wsum c : Rat) * e)) = decide (Grow c r t e) := by
    unfold Grow
    rw [← decide_not]
    exact decide_eq_decide.mpr Rat.not_le
  rw [this]
  exact s_end kk
end C
end DL

namespace DL
namespace C
open PySem L2
local macro_rules | `(tactic| walk_at "look") => `(tactic| first
  | assumption
  | exact put_same
  | (refine look_ne (by first | assumption | exact Ne.symm (by assumption)) ?_; walk_at "look")
  | (refine look_new (by assumption) ?_; walk_at "look"))
local macro_rules | `(tactic| walk_at "side") => `(tactic| first | assumption | exact trivial | decide | omega | exact ⟨by assumption, by assumption⟩ | exact ⟨by omega, by omega⟩ | exact ⟨by decide, by decide⟩ | exact ⟨by decide, by decide, by decide⟩ | (exact .inl (.inl ⟨by decide, by decide⟩)) | (exact .inl (.inr ⟨by decide, by decide⟩)) | (exact .inl (.inl ⟨by omega, by omega⟩)) | (exact .inl (.inr ⟨by omega, by omega⟩)))
local macro_rules | `(tactic| walk_at "opt") => `(tactic| first | (with_reducible exact atI_0 _ _) | (with_reducible exact atI_1 _ _ _) | (with_reducible exact atI_2 _ _ _ _) | (with_reducible exact atI_3 _ _ _ _ _) | (with_reducible exact atI_4 _ _ _ _ _ _) | assumption | exact atI_0 _ _ | exact atI_1 _ _ _ | exact atI_2 _ _ _ _ | exact atI_3 _ _ _ _ _ | exact atI_4 _ _ _ _ _ _ | exact boolsOf_map _ | exact intsOf_map _ | exact rfl)
local macro_rules | `(tactic| walk_at "s1") => `(tactic| first
  | ((with_reducible refine' s_var ?k1 ?_); (case k1 => exact rfl))
  | with_reducible refine s_bin ?_
  | with_reducible refine s_c ?_
  | with_reducible refine s_seqM ?_
  | with_reducible refine s_asB ?_
  | with_reducible refine s_asI ?_
  | with_reducible refine s_asRI ?_
  | with_reducible refine s_acons ?_
  | with_reducible refine s_anil ?_
  | with_reducible refine s_call ?_
  | with_reducible refine s_cb ?_
  | with_reducible refine s_set ?_
  | with_reducible refine s_ixT ?_
  | with_reducible refine s_ixL ?_
  | with_reducible refine s_ixS ?_
  | ((with_reducible refine' s_getL ?k1 ?_); (case k1 => walk_at "look"))
  | ((with_reducible refine' s_opt ?k1 ?_); (case k1 => walk_at "opt"))
  | with_reducible refine s_binT ?_
  | with_reducible refine s_tup ?_
  | with_reducible refine s_tpT ?_
  | with_reducible refine s_key ?_
  | with_reducible refine s_kII ?_
  | with_reducible refine s_kIII ?_
  | with_reducible refine s_dget ?_
  | ((with_reducible refine' s_atT ?k1 ?_); (case k1 => walk_at "look"))
  | ((with_reducible refine' s_atTl ?k1 ?_); (case k1 => walk_at "look"))
  | ((with_reducible refine' s_got ?k1 ?_); (case k1 => assumption))
  | with_reducible refine s_din ?_
  | with_reducible refine s_dinT ?_
  | with_reducible refine s_dgetor ?_
  | with_reducible refine s_dput ?_
  | with_reducible refine s_dnewT ?_
  | with_reducible refine s_disp1 ?_
  | with_reducible refine s_keys ?_
  | with_reducible refine s_ixK0 ?_
  | with_reducible refine s_ixK1 ?_
  | with_reducible refine s_bTK ?_
  | with_reducible refine s_gTK ?_
  | with_reducible refine s_lst ?_
  | with_reducible refine s_ret ?_
  | with_reducible refine s_if ?_
  | with_reducible refine s_nextM ?_
  | with_reducible refine s_drop ?_
  | with_reducible refine s_par ?_
  | with_reducible refine s_asg ?_
  | with_reducible refine s_gN ?_
  | ((with_reducible refine' s_gT ?k1 ?_); (case k1 => exact rfl))
  | with_reducible refine s_gsC ?_
  | with_reducible refine s_gsN ?_
  | with_reducible refine s_gIx ?_
  | with_reducible refine s_setD ?_
  | with_reducible refine s_for ?_
  | with_reducible refine s_b ?_
  | with_reducible refine s_and ?_
  | with_reducible refine s_or ?_
  | with_reducible refine s_not ?_
  | with_reducible refine s_ife ?_
  | with_reducible refine s_neg ?_
  | with_reducible refine s_notV ?_
  | with_reducible refine s_andV ?_
  | with_reducible refine s_orV ?_
  | with_reducible refine s_isi ?_
  | with_reducible refine s_m ?_
  | with_reducible refine s_none ?_
  | with_reducible refine s_noneT ?_
  | with_reducible refine s_sl ?_
  | with_reducible refine s_oN ?_
  | with_reducible refine s_oS ?_
  | with_reducible refine s_lc ?_
  | with_reducible refine s_bN ?_
  | with_reducible refine s_bT ?_
  | with_reducible refine s_bTC ?_
  | with_reducible refine s_bTN ?_
  | with_reducible refine s_it ?_
  | with_reducible refine s_rng ?_
  | with_reducible refine s_zip ?_
  | with_reducible refine s_zip2 ?_
  | with_reducible refine s_enum ?_
  | with_reducible refine s_enum1 ?_
  | with_reducible refine s_yes ?_
  | with_reducible refine s_cT ?_
  | with_reducible refine s_cF ?_
  | with_reducible refine s_retN ?_
  | with_reducible refine s_try ?_
  | with_reducible refine s_raise0 ?_
  | with_reducible refine s_raise1 ?_
  | with_reducible refine s_isE ?_
  | with_reducible refine s_fld ?_
  | with_reducible refine s_brk ?_
  | with_reducible refine s_cnt ?_
  | ((with_reducible refine' s_aug ?k1 ?_); (case k1 => exact rfl))
  | with_reducible refine s_augix ?_
  | with_reducible refine s_addI ?_
  | ((with_reducible refine' s_addT ?k1 ?_); (case k1 => walk_at "side"))
  | ((with_reducible refine' s_addS ?k1 ?_); (case k1 => walk_at "side"))
  | with_reducible refine s_catL ?_
  | with_reducible refine s_subI ?_
  | ((with_reducible refine' s_mulI ?k1 ?_); (case k1 => walk_at "side"))
  | ((with_reducible refine' s_divI ?k1 ?_); (case k1 => walk_at "side"))
  | ((with_reducible refine' s_modI ?k1 ?_); (case k1 => walk_at "side"))
  | ((with_reducible refine' s_powI ?k1 ?_); (case k1 => walk_at "side"))
  | ((with_reducible refine' s_shlI ?k1 ?_); (case k1 => walk_at "side"))
  | with_reducible refine s_iaddI ?_
  | ((with_reducible refine' s_iaddS ?k1 ?_); (case k1 => walk_at "side"))
  | with_reducible refine s_eqI ?_
  | with_reducible refine s_neI ?_
  | with_reducible refine s_eqS ?_
  | with_reducible refine s_neS ?_
  | with_reducible refine s_eqB ?_
  | with_reducible refine s_neB ?_
  | with_reducible refine s_cmp ?_
  | ((with_reducible refine' s_ixX ?k1 ?_); (case k1 => walk_at "side"))
  | with_reducible refine s_lenT ?_
  | with_reducible refine s_lenL ?_
  | with_reducible refine s_lenC ?_
  | ((with_reducible refine' s_lenS ?k1 ?_); (case k1 => walk_at "side"))
  | with_reducible refine s_abs ?_
  | with_reducible refine s_intI ?_
  | with_reducible refine s_intB ?_
  | with_reducible refine s_gcd ?_
  | with_reducible refine s_listT ?_
  | with_reducible refine s_listL ?_
  | with_reducible refine s_tupT ?_
  | with_reducible refine s_tupL ?_
  | with_reducible refine s_all ?_
  | with_reducible refine s_any ?_
  | with_reducible refine s_sum ?_
  | with_reducible refine s_sumAT ?_
  | with_reducible refine s_sumAL ?_
  | with_reducible refine s_cnT ?_
  | with_reducible refine s_cnF ?_
  | with_reducible refine s_par3 ?_
  | with_reducible refine s_max2 ?_
  | with_reducible refine s_min2 ?_
  | with_reducible refine s_chain ?_
  | with_reducible refine s_chainT ?_
  | with_reducible refine s_inL ?_
  | with_reducible refine s_inT ?_
  | with_reducible refine s_append ?_
  | with_reducible refine s_extend ?_
  | with_reducible refine s_popAt ?_
  | with_reducible refine s_pop ?_
  | with_reducible refine s_slT ?_
  | with_reducible refine s_slL ?_
  | with_reducible refine s_itT ?_
  | with_reducible refine s_itL ?_
  | with_reducible refine s_itC ?_
  | ((with_reducible refine' s_rng1 ?k1 ?_); (case k1 => walk_at "side"))
  | ((with_reducible refine' s_rng2 ?k1 ?_); (case k1 => walk_at "side"))
  | ((with_reducible refine' s_rngD ?k1 ?_); (case k1 => walk_at "side"))
  | ((with_reducible refine' And.intro (s_isDT ?k1) ?_); (case k1 => walk_at "look"))
  | ((with_reducible refine' s_isLst ?k1 ?_); (case k1 => walk_at "look"))
  | ((with_reducible refine' s_lstOkL ?k1 ?_); (case k1 => walk_at "look"))
  | ((with_reducible refine' And.intro ?k1 ?_); (case k1 => walk_at "side")))
local macro_rules | `(tactic| walk_at "s") => `(tactic| repeat (walk_at "s1"))
/-! tables as things -/
inductive PureD : D → Prop where
  | non : PureD .non
  | bl (b : Bool) : PureD (.bl b)
  | int (i : Int) : PureD (.int i)
  | str (x : Str) : PureD (.str x)
  | tup {es : List D} (h : ∀ e ∈ es, PureD e) : PureD (.tup es)
theorem PureD.nr {d : D} (h : PureD d) : nr d = true := by cases h <;> rfl
theorem PureD.mem {es : List D} (h : PureD (.tup es)) : ∀ e ∈ es, PureD e := by cases h with | tup h => exact h
theorem PureD.two {d : D} (h : PureD d) : ∀ x y, d = .tup [x, y] → C.nr x = true ∧ C.nr y = true := by
  rintro x y rfl
  exact ⟨(h.mem x List.mem_cons_self).nr, (h.mem y (List.mem_cons_of_mem _ List.mem_cons_self)).nr⟩
theorem pure_q (x : Rat) : PureD (qD x) := .tup fun e he => by
  rcases List.mem_cons.mp he with rfl | he
  · exact .int _
  · rw [List.mem_singleton.mp he]; exact .int _
def isRow (n : Nat) : D → Bool
  | .tup es => decide (es.length = n)
  | _ => false
def isGrid (s n : Nat) : D → Bool
  | .tup rows => decide (rows.length = s) && rows.all (isRow n)
  | _ => false
def allFr : D → Bool
  | .tup es => es.all isFr
  | _ => true
def isTable (s n : Nat) (d : D) : Bool := isGrid s n d && match d with
  | .tup rows => rows.all allFr
  | _ => true
def spGrid : SpD := fun ds st R _ => ∃ (d : D) (s n : Nat), ds = [d, .int s, .int n] ∧ PureD d ∧ (∀ es, d = .tup es → es.length ≤ 1000000) ∧ R (.bl (isGrid s n d)) st
theorem len_grid : ∀ ds st R Rx, spGrid ds st R Rx → ds.length = 3 := by
  rintro ds st R Rx ⟨_, _, _, rfl, -⟩; rfl
theorem isGrid_no {s n : Nat} {d : D} (h : isTy .tup d = false) : isGrid s n d = false := by
  cases d <;> first | rfl | cases h
theorem isRow_no {n : Nat} {d : D} (h : isTy .tup d = false) : isRow n d = false := by
  cases d <;> first | rfl | cases h
theorem read_grid : ∀ ds st R Rx, spGrid ds st R Rx → wb_is_grid (bodyEd R Rx) (startD 4 ds) st := by
  rintro ds st R Rx ⟨d, s, n, rfl, hp, hl, k⟩
  have ok := nr_ok (st := st) hp.nr
  unfold wb_is_grid bodyEd
  walk_at "s"
  cases ht : isTy .tup d with
  | false =>
    rw [isGrid_no ht] at k
    walk_at "s"
    exact s_end k
  | true =>
    cases d with
    | tup es =>
      walk_at "s"
      by_cases he : es.length = s
      · refine s_nnoP (by omega) ?_
        walk_at "s"
        refine lc_calm (fun d => .bl (isRow n d)) (fun _ => true) trivial (by have := hl es rfl; show _ ≤ 2 ^ 24; simp only [List.length_nil]; omega) (fun d hd kk kn h1 h2 => ?_) ?_
        · have okd := nr_ok (st := st) (hp.mem d hd).nr
          walk_at "s"
          cases hd2 : isTy .tup d with
          | false =>
            rw [isRow_no hd2] at h1
            refine s_noB rfl ?_
            exact h1 rfl
          | true =>
            cases d with
            | tup fs =>
              refine s_yesB rfl ?_
              walk_at "s"
              have := h1 rfl
              rw [show isRow n (.tup fs) = decide ((fs.length : Int) = n) from decide_eq_decide.mpr (by omega)] at this
              exact this
            | _ => cases hd2
        · rw [List.filter_eq_self.mpr (fun _ _ => rfl), List.nil_append]
          intro u hu
          walk_at "s"
          have e1 : boolsOf (es.map fun d => D.bl (isRow n d)) = some (es.map (isRow n)) := by
            have := boolsOf_map (es.map (isRow n))
            rwa [List.map_map] at this
          refine s_opt e1 ?_
          walk_at "s"
          have e2 : isGrid s n (.tup es) = (es.map (isRow n)).all fun b => b := by
            show (decide (es.length = s) && es.all (isRow n)) = _
            rw [decide_eq_true he, Bool.true_and, List.all_map]; rfl
          rw [e2] at k
          exact s_endS (Sub.put_new hu) k
      · have e2 : isGrid s n (.tup es) = false := by
          show (decide (es.length = s) && es.all (isRow n)) = _
          rw [decide_eq_false he, Bool.false_and]
        rw [e2] at k
        refine s_nyesP (by omega) ?_
        walk_at "s"
        exact s_end k
    | _ => cases ht
theorem lc2I_ind {bind : D → DE → (DE → Prop) → Prop} {ep0 : DE} {wt : WT} {we : WE} {G : DS → Prop} {p : Addr} {k : DS → Prop} (I : List D → DS → Prop) (h0 : ∀ st, I [] st → G st ∧ k st)
    (hs : ∀ d r st, I (d :: r) st → (∀ st', I r st' → lc2I bind ep0 wt we G p k r st') → G st ∧ bind d ep0 fun ep => wt ep st (fun b st2 => cnd b (fun _ => we ep st2 (fun y st3 => getL st3 p fun acc => acc.length < sizeLine ∧ lc2I bind ep0 wt we G p k r (put st3 p (.lst (acc ++ [y])))) (fun _ _ => False)) (fun _ => lc2I bind ep0 wt we G p k r st2)) (fun _ _ => False)) :
    ∀ items st, I items st → lc2I bind ep0 wt we G p k items st := by
  intro items
  induction items with
  | nil => exact fun st i => h0 st i
  | cons d r ih => exact fun st i => hs d r st i ih
theorem lc2O_ind {bind : D → DE → (DE → Prop) → Prop} {ep0 : DE} {wt : WT} {wi1 : WI} {bind1 : D → DE → (DE → Prop) → Prop} {vs1 : List Nat} {wt1 : WT} {we : WE} {G : DS → Prop} {p : Addr} {k : DS → Prop} (I : List D → DS → Prop) (h0 : ∀ st, I [] st → G st ∧ k st)
    (hs : ∀ d r st, I (d :: r) st → (∀ st', I r st' → lc2O bind ep0 wt wi1 bind1 vs1 wt1 we G p k r st') → G st ∧ bind d ep0 fun ep => wt ep st (fun b st2 => cnd b (fun _ => wi1 ep st2 (fun items1 G1 st3 => lc2I bind1 (wipeD ep vs1) wt1 we G1 p (lc2O bind ep0 wt wi1 bind1 vs1 wt1 we G p k r) items1 st3) (fun _ _ => False)) (fun _ => lc2O bind ep0 wt wi1 bind1 vs1 wt1 we G p k r st2)) (fun _ _ => False)) :
    ∀ items st, I items st → lc2O bind ep0 wt wi1 bind1 vs1 wt1 we G p k items st := by
  intro items
  induction items with
  | nil => exact fun st i => h0 st i
  | cons d r ih => exact fun st i => hs d r st i ih
def spTable : SpD := fun ds st R _ => ∃ (d : D) (s n : Nat), ds = [d, .int s, .int n] ∧ PureD d ∧ (∀ es, d = .tup es → es.length ≤ 100) ∧ n ≤ 100 ∧ R (.bl (isTable s n d)) st
theorem len_table : ∀ ds st R Rx, spTable ds st R Rx → ds.length = 3 := by
  rintro ds st R Rx ⟨_, _, _, rfl, -⟩; rfl
theorem isRow_tup {n : Nat} {d : D} (h : isRow n d = true) : ∃ es, d = .tup es ∧ es.length = n := by
  cases d with
  | tup es => exact ⟨es, rfl, of_decide_eq_true h⟩
  | _ => cases h
theorem read_table : ∀ ds st R Rx, spTable ds st R Rx → wb_is_table spGrid spIsFr (bodyEd R Rx) (startD 5 ds) st := by
  rintro ds st R Rx ⟨d, s, n, rfl, hp, hl, hn, k⟩
  unfold wb_is_table bodyEd
  walk_at "s"
  refine ⟨d, s, n, rfl, hp, fun es e => Nat.le_trans (hl es e) (by decide), ?_⟩
  walk_at "s"
  cases hg : isGrid s n d with
  | false =>
    have : isTable s n d = false := by unfold isTable; rw [hg]; rfl
    rw [this] at k
    walk_at "s"
    exact s_end k
  | true =>
    cases d with
    | tup rows =>
      have hg' : (decide (rows.length = s) && rows.all (isRow n)) = true := hg
      have hrows := List.all_eq_true.mp (Bool.and_eq_true_iff.mp hg').2
      have e0 : isTable s n (.tup rows) = rows.all allFr := by unfold isTable; rw [hg]; rfl
      rw [e0] at k
      have hl' := hl rows rfl
      walk_at "s"
      unfold wLc2
      walk_at "s"
      intro p hpn
      have hpt := hp.mem
      refine lc2O_ind (fun suf T => (∀ r ∈ suf, r ∈ rows) ∧ ∃ acc : List Bool, Sub st T ∧ T p = some (.lst (acc.map D.bl)) ∧ acc.length + suf.length * n ≤ 10000 ∧ rows.all allFr = (acc.all (fun b => b) && suf.all allFr)) ?_ ?_ _ _ ⟨fun r h => h, [], Sub.put_new hpn, put_same, by have := Nat.mul_le_mul hl' hn; simp only [List.length_nil]; omega, rfl⟩
      · rintro T ⟨-, acc, sT, hT, -, e⟩
        refine ⟨trivial, ?_⟩
        walk_at "s"
        rw [List.all_nil, Bool.and_true] at e
        rw [← e]
        exact s_endS sT k
      · rintro d r T ⟨hmem, acc, sT, hT, hlen, e⟩ ih
        refine ⟨trivial, ?_⟩
        have hd := hmem d List.mem_cons_self
        obtain ⟨es, rfl, hes⟩ := isRow_tup (hrows d hd)
        have hpe := (hpt _ hd).mem
        rw [List.length_cons, Nat.succ_mul] at hlen
        rw [List.all_cons] at e
        walk_at "s"
        refine lc2I_ind (fun suf T => (∀ x ∈ suf, x ∈ es) ∧ ∃ acc2 : List Bool, Sub st T ∧ T p = some (.lst (acc2.map D.bl)) ∧ acc2.length + suf.length + r.length * n ≤ 10000 ∧ rows.all allFr = (acc2.all (fun b => b) && (suf.all isFr && r.all allFr))) ?_ ?_ _ _ ⟨fun r h => h, acc, sT, hT, by omega, e⟩
        · rintro T ⟨-, acc2, sT, hT, hlen, e⟩
          refine ⟨trivial, ih T ⟨fun x hx => hmem x (List.mem_cons_of_mem _ hx), acc2, sT, hT, by simp only [List.length_nil] at hlen; omega, by rw [e, List.all_nil, Bool.true_and]⟩⟩
        · rintro x rr T ⟨hx, acc2, sT, hT, hlen, e⟩ ih2
          refine ⟨trivial, ?_⟩
          have px := hpe x (hx x List.mem_cons_self)
          walk_at "s"
          refine ⟨x, rfl, px.nr, px.two, ?_⟩
          walk_at "s"
          rw [List.length_cons] at hlen
          rw [List.all_cons] at e
          refine ⟨by rw [List.length_map]; show _ < 2 ^ 24; omega, ?_⟩
          refine ih2 _ ⟨fun z hz => hx z (List.mem_cons_of_mem _ hz), acc2 ++ [isFr x], sT.put_to _ hpn, by rw [put_same, List.map_append]; rfl, by rw [List.length_append, List.length_singleton]; omega, ?_⟩
          rw [e, List.all_append, List.all_cons, List.all_nil, Bool.and_true, Bool.and_assoc, Bool.and_assoc]
    | _ => cases hg
/-! gauges, webs, the judge -/
structure GW where
  letters : Nat
  rows : List (List Nat)
  shows : List Rat
  web : List (List (List Mv))
def nodeD (n : List (List Mv)) : D := .tup (n.map cornerD)
def webD (w : List (List (List Mv))) : D := .tup (w.map nodeD)
def gaugeD (letters : Nat) (rows : List (List Nat)) (shows : List Rat) : D := .tup [.str (PySem.Str.ofString "gauge"), .int (letters : Int), .tup (rows.map natsD), .tup (shows.map qD)]
/-- k: bits of what is shown; m: moves of a corner -/
structure GOk (k letters states : Nat) (rows : List (List Nat)) (shows : List Rat) : Prop where
  rl : rows.length = states
  sl : shows.length = states
  r : ∀ r ∈ rows, r.length = letters ∧ ∀ i ∈ r, i < states
  b : ∀ x ∈ shows, Bits k x
  s0 : 0 < states
  s1 : states ≤ 64
  l0 : 0 < letters
  l1 : letters ≤ 64
structure WOk (m letters nodes : Nat) (web : List (List (List Mv))) : Prop where
  wl : web.length = nodes
  n : ∀ nd ∈ web, nd.length ≤ 64 ∧ ∀ c ∈ nd, c ≠ [] ∧ c.length ≤ m ∧ ∀ v ∈ c, MvOk letters nodes v
  n0 : 0 < nodes
  n1 : nodes ≤ 64
def belowD (s n : Nat) : D := .tup [.str (PySem.Str.ofString "below"), .int (s : Int), .int (n : Int)]
def growsD (s n a : Nat) : D := .tup [.str (PySem.Str.ofString "grows"), .int (s : Int), .int (n : Int), .int (a : Int)]
def cAt (nd : List (List Mv)) (a : Nat) : List Mv := nd.getD a []
def hV (rows : List (List Nat)) (nd : List (List Mv)) (t : List (List Rat)) (s n : Nat) (a : Nat) : Option D := if Grow (cAt nd a) (rows.getD s []) t (tabAt t s n) then some (growsD s n a) else none
def gV (rows : List (List Nat)) (shows : List Rat) (web : List (List (List Mv))) (t : List (List Rat)) (s n : Nat) : Option D :=
  if tabAt t s n < shows.getD s 0 then some (belowD s n) else (List.range (web.getD n []).length).findSome? (hV rows (web.getD n []) t s n)
def fV (rows : List (List Nat)) (shows : List Rat) (web : List (List (List Mv))) (t : List (List Rat)) (nodes s : Nat) : Option D := (List.range nodes).findSome? (gV rows shows web t s)
def verdict (rows : List (List Nat)) (shows : List Rat) (web : List (List (List Mv))) (t : List (List Rat)) : D := ((List.range rows.length).findSome? (fV rows shows web t web.length)).getD .non
theorem fs_cons {α β : Type} {f : α → Option β} {a : α} {l : List α} : (a :: l).findSome? f = (f a).or (l.findSome? f) := by
  rw [List.findSome?_cons]
  cases f a <;> rfl
structure JOk (k m letters states nodes : Nat) (rows : List (List Nat)) (shows : List Rat) (web : List (List (List Mv))) (t : List (List Rat)) : Prop where
  g : GOk k letters states rows shows
  w : WOk m letters nodes web
  t : TabB k states nodes t
  z : tok m (k + 10)
theorem tbits_mono {a b k : Nat} (h : a ≤ b) : tbits a k ≤ tbits b k := by
  unfold tbits
  have := Nat.mul_le_mul_right k h
  omega
section
variable {k m letters states nodes : Nat} {rows : List (List Nat)} {shows : List Rat} {web : List (List (List Mv))} {t : List (List Rat)}
theorem JOk.step (h : JOk k m letters states nodes rows shows web t) {s n a : Nat} (hs : s < states) (hn : n < nodes) (ha : a < (web.getD n []).length) : StepOk k letters states nodes (cAt (web.getD n []) a) (rows.getD s []) t ∧ (cAt (web.getD n []) a).length ≤ 1000 ∧ tok (cAt (web.getD n []) a).length (k + 10) ∧
    rows[s]? = some (rows.getD s []) ∧ web[n]? = some (web.getD n []) ∧ (web.getD n [])[a]? = some (cAt (web.getD n []) a) := by
  have hr : s < rows.length := by rw [h.g.rl]; exact hs
  have hw : n < web.length := by rw [h.w.wl]; exact hn
  have er : rows.getD s [] = rows[s] := by rw [List.getD_eq_getElem?_getD, List.getElem?_eq_getElem hr]; rfl
  have ew : web.getD n [] = web[n] := by rw [List.getD_eq_getElem?_getD, List.getElem?_eq_getElem hw]; rfl
  have ec : cAt (web.getD n []) a = (web.getD n [])[a] := by rw [cAt, List.getD_eq_getElem?_getD, List.getElem?_eq_getElem ha]; rfl
  have hnd := h.w.n (web.getD n []) (by rw [ew]; exact List.getElem_mem hw)
  have hc := hnd.2 (cAt (web.getD n []) a) (by rw [ec]; exact List.getElem_mem ha)
  have hrr := h.g.r (rows.getD s []) (by rw [er]; exact List.getElem_mem hr)
  have hz := h.z
  have hle := hc.2.1
  have hmul : (cAt (web.getD n []) a).length * (k + 10) ≤ m * (k + 10) := Nat.mul_le_mul_right _ hle
  have hmul2 : m * 10 ≤ m * (k + 10) := Nat.mul_le_mul_left _ (by omega)
  unfold tok at hz
  refine ⟨⟨hc.2.2, hrr.1, hrr.2, h.t⟩, by omega, ⟨by omega, by omega⟩, by rw [er]; exact List.getElem?_eq_getElem hr, by rw [ew]; exact List.getElem?_eq_getElem hw, by rw [ec]; exact List.getElem?_eq_getElem ha⟩
theorem JOk.show (h : JOk k m letters states nodes rows shows web t) {s : Nat} (hs : s < states) : shows[s]? = some (shows.getD s 0) ∧ Bits k (shows.getD s 0) ∧ rows[s]? = some (rows.getD s []) := by
  have hl : s < shows.length := by rw [h.g.sl]; exact hs
  have hr : s < rows.length := by rw [h.g.rl]; exact hs
  have e : shows.getD s 0 = shows[s] := by rw [List.getD_eq_getElem?_getD, List.getElem?_eq_getElem hl]; rfl
  have er : rows.getD s [] = rows[s] := by rw [List.getD_eq_getElem?_getD, List.getElem?_eq_getElem hr]; rfl
  rw [e, er]
  exact ⟨List.getElem?_eq_getElem hl, h.g.b _ (List.getElem_mem hl), List.getElem?_eq_getElem hr⟩
theorem JOk.node (h : JOk k m letters states nodes rows shows web t) {n : Nat} (hn : n < nodes) : web[n]? = some (web.getD n []) ∧ (web.getD n []).length ≤ 64 := by
  have hw : n < web.length := by rw [h.w.wl]; exact hn
  have ew : web.getD n [] = web[n] := by rw [List.getD_eq_getElem?_getD, List.getElem?_eq_getElem hw]; rfl
  have hnd := h.w.n (web.getD n []) (by rw [ew]; exact List.getElem_mem hw)
  exact ⟨by rw [ew]; exact List.getElem?_eq_getElem hw, hnd.1⟩
end
theorem atI_map {α : Type} {f : α → D} {l : List α} {i : Nat} {x : α} (h : l[i]? = some x) : atI (l.map f) (i : Int) = some (f x) := atI_nat (by rw [List.getElem?_map, h]; rfl)
def spFirst : SpD := fun ds st R _ => ∃ (k m letters states nodes : Nat) (rows : List (List Nat)) (shows : List Rat) (web : List (List (List Mv))) (t : List (List Rat)), ds = [gaugeD letters rows shows, webD web, tabD t] ∧ JOk k m letters states nodes rows shows web t ∧ R (verdict rows shows web t) st
theorem len_first : ∀ ds st R Rx, spFirst ds st R Rx → ds.length = 3 := by
  rintro ds st R Rx ⟨_, _, _, _, _, _, _, _, _, rfl, -⟩; rfl
end C
end DL

namespace DL
namespace C
open PySem L2
local macro_rules | `(tactic| walk_at "look") => `(tactic| first
  | assumption
  | exact put_same
  | (refine look_ne (by first | assumption | exact Ne.symm (by assumption)) ?_; walk_at "look")
  | (refine look_new (by assumption) ?_; walk_at "look"))
local macro_rules | `(tactic| walk_at "side") => `(tactic| first | assumption | exact trivial | decide | omega | exact ⟨by assumption, by assumption⟩ | exact ⟨by omega, by omega⟩ | exact ⟨by decide, by decide⟩ | exact ⟨by decide, by decide, by decide⟩ | (exact .inl (.inl ⟨by decide, by decide⟩)) | (exact .inl (.inr ⟨by decide, by decide⟩)) | (exact .inl (.inl ⟨by omega, by omega⟩)) | (exact .inl (.inr ⟨by omega, by omega⟩)))
local macro_rules | `(tactic| walk_at "opt") => `(tactic| first | (with_reducible exact atI_0 _ _) | (with_reducible exact atI_1 _ _ _) | (with_reducible exact atI_2 _ _ _ _) | (with_reducible exact atI_3 _ _ _ _ _) | (with_reducible exact atI_4 _ _ _ _ _ _) | assumption | exact atI_0 _ _ | exact atI_1 _ _ _ | exact atI_2 _ _ _ _ | exact atI_3 _ _ _ _ _ | exact atI_4 _ _ _ _ _ _ | exact boolsOf_map _ | exact intsOf_map _ | exact rfl)
local macro_rules | `(tactic| walk_at "s1") => `(tactic| first
  | ((with_reducible refine' s_var ?k1 ?_); (case k1 => exact rfl))
  | with_reducible refine s_bin ?_
  | with_reducible refine s_c ?_
  | with_reducible refine s_seqM ?_
  | with_reducible refine s_asB ?_
  | with_reducible refine s_asI ?_
  | with_reducible refine s_asRI ?_
  | with_reducible refine s_acons ?_
  | with_reducible refine s_anil ?_
  | with_reducible refine s_call ?_
  | with_reducible refine s_cb ?_
  | with_reducible refine s_set ?_
  | with_reducible refine s_ixT ?_
  | with_reducible refine s_ixL ?_
  | with_reducible refine s_ixS ?_
  | ((with_reducible refine' s_getL ?k1 ?_); (case k1 => walk_at "look"))
  | ((with_reducible refine' s_opt ?k1 ?_); (case k1 => walk_at "opt"))
  | with_reducible refine s_binT ?_
  | with_reducible refine s_tup ?_
  | with_reducible refine s_tpT ?_
  | with_reducible refine s_key ?_
  | with_reducible refine s_kII ?_
  | with_reducible refine s_kIII ?_
  | with_reducible refine s_dget ?_
  | ((with_reducible refine' s_atT ?k1 ?_); (case k1 => walk_at "look"))
  | ((with_reducible refine' s_atTl ?k1 ?_); (case k1 => walk_at "look"))
  | ((with_reducible refine' s_got ?k1 ?_); (case k1 => assumption))
  | with_reducible refine s_din ?_
  | with_reducible refine s_dinT ?_
  | with_reducible refine s_dgetor ?_
  | with_reducible refine s_dput ?_
  | with_reducible refine s_dnewT ?_
  | with_reducible refine s_disp1 ?_
  | with_reducible refine s_keys ?_
  | with_reducible refine s_ixK0 ?_
  | with_reducible refine s_ixK1 ?_
  | with_reducible refine s_bTK ?_
  | with_reducible refine s_gTK ?_
  | with_reducible refine s_lst ?_
  | with_reducible refine s_ret ?_
  | with_reducible refine s_if ?_
  | with_reducible refine s_nextM ?_
  | with_reducible refine s_drop ?_
  | with_reducible refine s_par ?_
  | with_reducible refine s_asg ?_
  | with_reducible refine s_gN ?_
  | ((with_reducible refine' s_gT ?k1 ?_); (case k1 => exact rfl))
  | with_reducible refine s_gsC ?_
  | with_reducible refine s_gsN ?_
  | with_reducible refine s_gIx ?_
  | with_reducible refine s_setD ?_
  | with_reducible refine s_for ?_
  | with_reducible refine s_b ?_
  | with_reducible refine s_and ?_
  | with_reducible refine s_or ?_
  | with_reducible refine s_not ?_
  | with_reducible refine s_ife ?_
  | with_reducible refine s_neg ?_
  | with_reducible refine s_notV ?_
  | with_reducible refine s_andV ?_
  | with_reducible refine s_orV ?_
  | with_reducible refine s_isi ?_
  | with_reducible refine s_m ?_
  | with_reducible refine s_none ?_
  | with_reducible refine s_noneT ?_
  | with_reducible refine s_sl ?_
  | with_reducible refine s_oN ?_
  | with_reducible refine s_oS ?_
  | with_reducible refine s_lc ?_
  | with_reducible refine s_bN ?_
  | with_reducible refine s_bT ?_
  | with_reducible refine s_bTC ?_
  | with_reducible refine s_bTN ?_
  | with_reducible refine s_it ?_
  | with_reducible refine s_rng ?_
  | with_reducible refine s_zip ?_
  | with_reducible refine s_zip2 ?_
  | with_reducible refine s_enum ?_
  | with_reducible refine s_enum1 ?_
  | with_reducible refine s_yes ?_
  | with_reducible refine s_cT ?_
  | with_reducible refine s_cF ?_
  | with_reducible refine s_retN ?_
  | with_reducible refine s_try ?_
  | with_reducible refine s_raise0 ?_
  | with_reducible refine s_raise1 ?_
  | with_reducible refine s_isE ?_
  | with_reducible refine s_fld ?_
  | with_reducible refine s_brk ?_
  | with_reducible refine s_cnt ?_
  | ((with_reducible refine' s_aug ?k1 ?_); (case k1 => exact rfl))
  | with_reducible refine s_augix ?_
  | with_reducible refine s_addI ?_
  | ((with_reducible refine' s_addT ?k1 ?_); (case k1 => walk_at "side"))
  | ((with_reducible refine' s_addS ?k1 ?_); (case k1 => walk_at "side"))
  | with_reducible refine s_catL ?_
  | with_reducible refine s_subI ?_
  | ((with_reducible refine' s_mulI ?k1 ?_); (case k1 => walk_at "side"))
  | ((with_reducible refine' s_divI ?k1 ?_); (case k1 => walk_at "side"))
  | ((with_reducible refine' s_modI ?k1 ?_); (case k1 => walk_at "side"))
  | ((with_reducible refine' s_powI ?k1 ?_); (case k1 => walk_at "side"))
  | ((with_reducible refine' s_shlI ?k1 ?_); (case k1 => walk_at "side"))
  | with_reducible refine s_iaddI ?_
  | ((with_reducible refine' s_iaddS ?k1 ?_); (case k1 => walk_at "side"))
  | with_reducible refine s_eqI ?_
  | with_reducible refine s_neI ?_
  | with_reducible refine s_eqS ?_
  | with_reducible refine s_neS ?_
  | with_reducible refine s_eqB ?_
  | with_reducible refine s_neB ?_
  | with_reducible refine s_cmp ?_
  | ((with_reducible refine' s_ixX ?k1 ?_); (case k1 => walk_at "side"))
  | with_reducible refine s_lenT ?_
  | with_reducible refine s_lenL ?_
  | with_reducible refine s_lenC ?_
  | ((with_reducible refine' s_lenS ?k1 ?_); (case k1 => walk_at "side"))
  | with_reducible refine s_abs ?_
  | with_reducible refine s_intI ?_
  | with_reducible refine s_intB ?_
  | with_reducible refine s_gcd ?_
  | with_reducible refine s_listT ?_
  | with_reducible refine s_listL ?_
  | with_reducible refine s_tupT ?_
  | with_reducible refine s_tupL ?_
  | with_reducible refine s_all ?_
  | with_reducible refine s_any ?_
  | with_reducible refine s_sum ?_
  | with_reducible refine s_sumAT ?_
  | with_reducible refine s_sumAL ?_
  | with_reducible refine s_cnT ?_
  | with_reducible refine s_cnF ?_
  | with_reducible refine s_par3 ?_
  | with_reducible refine s_max2 ?_
  | with_reducible refine s_min2 ?_
  | with_reducible refine s_chain ?_
  | with_reducible refine s_chainT ?_
  | with_reducible refine s_inL ?_
  | with_reducible refine s_inT ?_
  | with_reducible refine s_append ?_
  | with_reducible refine s_extend ?_
  | with_reducible refine s_popAt ?_
  | with_reducible refine s_pop ?_
  | with_reducible refine s_slT ?_
  | with_reducible refine s_slL ?_
  | with_reducible refine s_itT ?_
  | with_reducible refine s_itL ?_
  | with_reducible refine s_itC ?_
  | ((with_reducible refine' s_rng1 ?k1 ?_); (case k1 => walk_at "side"))
  | ((with_reducible refine' s_rng2 ?k1 ?_); (case k1 => walk_at "side"))
  | ((with_reducible refine' s_rngD ?k1 ?_); (case k1 => walk_at "side"))
  | ((with_reducible refine' And.intro (s_isDT ?k1) ?_); (case k1 => walk_at "look"))
  | ((with_reducible refine' s_isLst ?k1 ?_); (case k1 => walk_at "look"))
  | ((with_reducible refine' s_lstOkL ?k1 ?_); (case k1 => walk_at "look"))
  | ((with_reducible refine' And.intro ?k1 ?_); (case k1 => walk_at "side")))
local macro_rules | `(tactic| walk_at "s") => `(tactic| repeat (walk_at "s1"))
theorem cut_to {ds : List D} {z : Int} (h0 : 0 ≤ z) (h1 : z ≤ ds.length) : cutD ds none (some z) = ds.take z.toNat := by
  have e1 : HT.sIx ds.length 0 none = 0 := rfl
  have e2 : HT.sIx ds.length ds.length (some z) = z.toNat := by
    unfold HT.sIx
    simp only []
    first | (split <;> omega) | omega
  unfold cutD
  rw [e1, e2, List.drop_zero, Nat.sub_zero]
theorem cut_from {ds : List D} {z : Int} (h0 : 0 ≤ z) (h1 : z ≤ ds.length) : cutD ds (some z) none = ds.drop z.toNat := by
  have e1 : HT.sIx ds.length 0 (some z) = z.toNat := by
    unfold HT.sIx
    simp only []
    first | (split <;> omega) | omega
  have e2 : HT.sIx ds.length ds.length none = ds.length := rfl
  unfold cutD
  rw [e1, e2, List.take_of_length_le (by rw [List.length_drop]; omega)]
/-! drawn webs and gauges -/
def spWeight : SpD := fun ds st R _ => ∃ (d c : Addr) (ns : List Int), ds = [.ref d] ∧ DK st d c ns ∧ ∀ w st', 0 < w → w ≤ 1000 → Dr d c ns st st' → R (.int w) st'
theorem len_weight : ∀ ds st R Rx, spWeight ds st R Rx → ds.length = 1 := by
  rintro ds st R Rx ⟨_, _, _, rfl, -⟩; rfl
theorem read_weight : ∀ ds st R Rx, spWeight ds st R Rx → wb_law_weight spRare spDraw (bodyEd R Rx) (startD 1 ds) st := by
  rintro ds st R Rx ⟨d, c, ns, rfl, dk, k⟩
  unfold wb_law_weight bodyEd
  walk_at "s"
  refine ⟨d, c, ns, _, rfl, dk, by omega, by omega, fun b st1 r1 => ?_⟩
  walk_at "s"
  refine s_b2 (fun e => ?_) (fun e => ?_)
  · walk_at "s"
    refine ⟨d, c, ns, _, rfl, r1.dk, by omega, sm (by omega) (by omega), fun v st2 h0 h1 r2 => ?_⟩
    walk_at "s"
    exact s_end (k _ _ (by omega) (by omega) (r1.trans r2))
  · walk_at "s"
    refine ⟨d, c, ns, _, rfl, r1.dk, by omega, sm (by omega) (by omega), fun v st2 h0 h1 r2 => ?_⟩
    walk_at "s"
    exact s_end (k _ _ (by omega) (by omega) (r1.trans r2))
def spCorner : SpD := fun ds st R _ => ∃ (d c : Addr) (ns : List Int) (letters nodes most : Nat), ds = [.ref d, .int (letters : Int), .int (nodes : Int), .int (most : Int)] ∧ DK st d c ns ∧ 0 < letters ∧ letters ≤ 64 ∧ 0 < nodes ∧ nodes ≤ 64 ∧ 0 < most ∧ most ≤ 64 ∧
  ∀ cr st', cr ≠ [] → cr.length ≤ most → (∀ m ∈ cr, MvOk letters nodes m) → Dr d c ns st st' → R (cornerD cr) st'
theorem len_corner : ∀ ds st R Rx, spCorner ds st R Rx → ds.length = 4 := by
  rintro ds st R Rx ⟨_, _, _, _, _, _, rfl, -⟩; rfl
/-- pairs of a letter and a node -/
def pairD (p : Nat × Nat) : D := .tup [.int (p.1 : Int), .int (p.2 : Int)]
theorem pairs_perm {ps : List (Nat × Nat)} : ∀ {es : List D}, es.Perm (ps.map pairD) → ∃ qs : List (Nat × Nat), es = qs.map pairD ∧ qs.Perm ps := by
  intro es h
  generalize hp : ps.map pairD = l at h
  induction h generalizing ps with
  | nil =>
    cases ps with
    | nil => exact ⟨[], rfl, .nil⟩
    | cons _ _ => cases hp
  | cons x _ ih =>
    cases ps with
    | nil => cases hp
    | cons p ps =>
      obtain ⟨rfl, rfl⟩ := List.cons.inj hp
      obtain ⟨qs, rfl, pm⟩ := ih rfl
      exact ⟨p :: qs, rfl, pm.cons p⟩
  | swap x y l =>
    match ps, hp with
    | p :: q :: ps, hp =>
      obtain ⟨rfl, h2⟩ := List.cons.inj hp
      obtain ⟨rfl, rfl⟩ := List.cons.inj h2
      exact ⟨q :: p :: ps, rfl, .swap ..⟩
  | trans _ _ ih1 ih2 =>
    obtain ⟨qs, rfl, pm⟩ := ih2 hp
    obtain ⟨rs, rfl, pm2⟩ := ih1 rfl
    exact ⟨rs, rfl, pm2.trans pm⟩
theorem read_corner : ∀ ds st R Rx, spCorner ds st R Rx → wb_law_corner spShuffled spDraw spWeight (bodyEd R Rx) (startD 9 ds) st := by
  rintro ds st R Rx ⟨d, c, ns, letters, nodes, most, rfl, dk, hl0, hl1, hn0, hn1, hm0, hm1, k⟩
  unfold wb_law_corner bodyEd
  walk_at "s"
  intro p hp
  have pd := dk.ne_new hp
  have pc : p ≠ c := fun e => by rw [e, dk.hc] at hp; cases hp
  walk_at "s"
  rw [Int.toNat_natCast]
  refine for_ind (fun rest ep T => ∃ (j : Nat) (ps : List (Nat × Nat)) (x5 x6 x7 x8 : Option D), rest = ((List.range letters).drop j).map (fun i : Nat => D.int (0 + (i : Int))) ∧ j ≤ letters ∧ ps.length = j * nodes ∧ (∀ q ∈ ps, q.1 < letters ∧ q.2 < nodes) ∧ T p = some (.lst (ps.map pairD)) ∧ Dr d c ns st T ∧
    ep = [some (.ref d), some (.int (letters : Int)), some (.int (nodes : Int)), some (.int (most : Int)), some (.ref p), x5, x6, x7, x8]) ?_ ?_ _ _ _ ⟨0, [], none, none, none, none, rfl, Nat.zero_le _, by rw [Nat.zero_mul]; rfl, fun q hq => by (cases hq), put_same, (Dr.refl dk).new hp, rfl⟩
  · rintro ep T ⟨j, ps, x5, x6, x7, x8, e, hj, hlen, hps, hT, r, rfl⟩
    refine ⟨trivial, ?_⟩
    have hj2 : j = letters := by
      have : ((List.range letters).drop j) = [] := by
        cases q : (List.range letters).drop j with
        | nil => rfl
        | cons _ _ => rw [q] at e; cases e
      have := congrArg List.length this
      rw [List.length_drop, List.length_range] at this
      simp only [List.length_nil] at this
      omega
    subst hj2
    have hpos : 0 < j * nodes := Nat.mul_pos hl0 hn0
    have hle : j * nodes ≤ 64 * 64 := Nat.mul_le_mul hl1 hn1
    walk_at "s"
    refine ⟨d, c, ns, _, ps.map pairD, rfl, r.dk, by rw [List.length_map]; omega, .inr ⟨p, rfl, pd, hT⟩, fun es q T2 pm hq qd r2 hq2 => ?_⟩
    obtain ⟨qs, rfl, pm2⟩ := pairs_perm pm
    have hT2 := r2.sx p _ pd hT
    walk_at "s"
    refine ⟨d, c, ns, _, rfl, r2.dk, by omega, sm (by omega) (by omega), fun v T3 h0 h1 r3 => ?_⟩
    have hq3 := r3.sx q _ qd hq2
    have hT3 := r3.sx p _ pd hT2
    walk_at "s"
    intro u hu
    have nqu : q ≠ u := fun e => by rw [e, hu] at hq3; cases hq3
    have l1 : ps.length = qs.length := pm2.length_eq.symm
    rw [List.length_map]
    have hz : ∃ z : Int, (if 1 + v < (ps.length : Int) then 1 + v else (ps.length : Int)) = z ∧ 0 < z ∧ z ≤ ps.length ∧ z ≤ 1 + v := by
      split
      · exact ⟨_, rfl, by omega, by omega, by omega⟩
      · exact ⟨_, rfl, by omega, by omega, by omega⟩
    obtain ⟨z, ez, z0, z1, z2⟩ := hz
    rw [ez, cut_to (by omega) (by rw [List.length_map, ← l1]; exact z1), ← List.map_take]
    have hcut : ∀ x ∈ qs.take z.toNat, x.1 < j ∧ x.2 < nodes := fun x hx => hps x (pm2.mem_iff.mp (List.mem_of_mem_take hx))
    have hclen : (qs.take z.toNat).length = z.toNat := by rw [List.length_take]; omega
    have dk3 := r3.dk.new (o := .lst ((qs.take z.toNat).map pairD)) hu
    have hu3 := put_same (st := T3) (a := u) (o := .lst ((qs.take z.toNat).map pairD))
    have r13 : Dr d c ns st (DL.put T3 u (.lst ((qs.take z.toNat).map pairD))) := ((r.trans r2).trans r3).new hu
    generalize DL.put T3 u (.lst ((qs.take z.toNat).map pairD)) = T4 at dk3 hu3 r13 ⊢
    generalize qs.take z.toNat = cs at hcut hclen hu3 ⊢
    walk_at "s"
    refine s_getL hu3 (.inr ⟨fun x hx => ?_, fun es' w pm3 _ hw => ?_⟩)
    · obtain ⟨y, -, rfl⟩ := List.mem_map.mp hx
      exact ⟨_, _, rfl⟩
    obtain ⟨ts, rfl, pm4⟩ := pairs_perm pm3
    walk_at "s"
    have wd := dk3.ne_new hw
    refine lc_ind (fun items acc T => ∃ (done : List Mv) (suf : List (Nat × Nat)), items = suf.map pairD ∧ acc = done.map moveD ∧ done.length + suf.length = z.toNat ∧ (∀ x ∈ suf, x.1 < j ∧ x.2 < nodes) ∧ (∀ m ∈ done, MvOk j nodes m) ∧ Dr d c ns st T ∧ T w = some (.lst (ts.map pairD))) ?_ ?_ _ _ _ ⟨[], ts, rfl, rfl, by rw [pm4.length_eq, hclen]; exact Nat.zero_add _, fun x hx => hcut x (pm4.mem_iff.mp hx), fun m hm => by (cases hm), r13.new hw, put_same⟩
    · rintro acc T5 ⟨done, suf, e5, rfl, hlen5, -, hdone, r5, hw5⟩
      refine ⟨hw5, ?_⟩
      have : suf = [] := by cases suf with
        | nil => rfl
        | cons _ _ => cases e5
      subst this
      rw [List.length_nil, Nat.add_zero] at hlen5
      intro y hy
      walk_at "s"
      refine s_endS (Sub.put_new hy) (k done _ (fun e => by rw [e] at hlen5; simp only [List.length_nil] at hlen5; omega) (by omega) hdone r5)
    · rintro x rr acc T5 ⟨done, suf, e5, rfl, hlen5, hsuf, hdone, r5, hw5⟩ ih5
      refine ⟨hw5, ?_⟩
      cases suf with
      | nil => cases e5
      | cons y suf =>
      obtain ⟨rfl, rfl⟩ := List.cons.inj e5
      have hy := hsuf y List.mem_cons_self
      rw [List.length_cons] at hlen5
      unfold pairD
      walk_at "s"
      refine ⟨d, c, ns, rfl, r5.dk, fun wt T6 w0 w1 r6 => ?_⟩
      walk_at "s"
      refine ⟨by rw [List.length_map]; show _ < 2 ^ 24; omega, ?_⟩
      refine ih5 _ _ ⟨done ++ [(wt, y.1, y.2)], suf, rfl, by rw [List.map_append]; rfl, by rw [List.length_append, List.length_singleton]; omega, fun q hq => hsuf q (List.mem_cons_of_mem _ hq), fun m hm => ?_, r5.trans r6, r6.sx w _ wd hw5⟩
      rcases List.mem_append.mp hm with hm | hm
      · exact hdone m hm
      · rw [List.mem_singleton.mp hm]
        exact ⟨w0, w1, hy.1, hy.2⟩
  · rintro d0 rr ep T ⟨j, ps, x5, x6, x7, x8, e, hj, hlen, hps, hT, r, rfl⟩ ih
    refine ⟨trivial, ?_⟩
    have hjl : j < letters := by
      rcases Nat.lt_or_ge j letters with h | h
      · exact h
      · rw [List.drop_eq_nil_of_le (by rw [List.length_range]; exact h)] at e; cases e
    rw [List.drop_eq_getElem_cons (by rw [List.length_range]; exact hjl), List.getElem_range] at e
    obtain ⟨rfl, rfl⟩ := List.cons.inj e
    have hle : (j + 1) * nodes ≤ 64 * 64 := Nat.mul_le_mul (by omega) hn1
    rw [Nat.succ_mul] at hle
    walk_at "s"
    rw [Int.toNat_natCast]
    refine lc_calm (fun x => .tup [.int (j : Int), x]) (fun _ => true) trivial (by rw [List.length_map, List.length_range]; show _ ≤ 2 ^ 24; simp only [List.length_nil]; omega) (fun x hx kk kn h1 h2 => ?_) ?_
    · obtain ⟨i, -, rfl⟩ := List.mem_map.mp hx
      walk_at "s"
      have := h1 rfl
      rw [← Int.zero_add (j : Int)] at this
      exact this
    · rw [List.filter_eq_self.mpr (fun _ _ => rfl), List.map_map, List.nil_append]
      intro u hu
      have npu : p ≠ u := fun e => by rw [e, hu] at hT; cases hT
      have nud := r.dk.ne_new hu
      have nuc : u ≠ c := fun e => by rw [e, r.dk.hc] at hu; cases hu
      walk_at "s"
      refine ⟨by rw [List.length_map, List.length_map, List.length_range, hlen]; show _ ≤ 2 ^ 24; omega, ?_⟩
      refine ih _ _ ⟨j + 1, ps ++ (List.range nodes).map fun i => (j, i), _, _, _, _, rfl, hjl, ?_, fun q hq => ?_, ?_, ⟨(r.sx.trans (Sx.new hu)).put_off hp, (r.dk.new hu).putL pd pc⟩, rfl⟩
      · rw [List.length_append, List.length_map, List.length_range, hlen, Nat.succ_mul]
      · rcases List.mem_append.mp hq with hq | hq
        · exact hps q hq
        · obtain ⟨i, hi, rfl⟩ := List.mem_map.mp hq
          exact ⟨hjl, List.mem_range.mp hi⟩
      · rw [put_same, List.map_append, List.map_map]
        congr 3
        refine List.map_congr_left fun i _ => ?_
        show D.tup [.int (j : Int), .int (0 + (i : Int))] = D.tup [.int (j : Int), .int (i : Int)]
        rw [Int.zero_add]
end C
end DL

namespace DL
namespace C
open PySem L2
local macro_rules | `(tactic| walk_at "look") => `(tactic| first
  | assumption
  | exact put_same
  | (refine look_ne (by first | assumption | exact Ne.symm (by assumption)) ?_; walk_at "look")
  | (refine look_new (by assumption) ?_; walk_at "look"))
local macro_rules | `(tactic| walk_at "side") => `(tactic| first | assumption | exact trivial | decide | omega | exact ⟨by assumption, by assumption⟩ | exact ⟨by omega, by omega⟩ | exact ⟨by decide, by decide⟩ | exact ⟨by decide, by decide, by decide⟩ | (exact .inl (.inl ⟨by decide, by decide⟩)) | (exact .inl (.inr ⟨by decide, by decide⟩)) | (exact .inl (.inl ⟨by omega, by omega⟩)) | (exact .inl (.inr ⟨by omega, by omega⟩)))
local macro_rules | `(tactic| walk_at "opt") => `(tactic| first | (with_reducible exact atI_0 _ _) | (with_reducible exact atI_1 _ _ _) | (with_reducible exact atI_2 _ _ _ _) | (with_reducible exact atI_3 _ _ _ _ _) | (with_reducible exact atI_4 _ _ _ _ _ _) | assumption | exact atI_0 _ _ | exact atI_1 _ _ _ | exact atI_2 _ _ _ _ | exact atI_3 _ _ _ _ _ | exact atI_4 _ _ _ _ _ _ | exact boolsOf_map _ | exact intsOf_map _ | exact rfl)
local macro_rules | `(tactic| walk_at "s1") => `(tactic| first
  | ((with_reducible refine' s_var ?k1 ?_); (case k1 => exact rfl))
  | with_reducible refine s_bin ?_
  | with_reducible refine s_c ?_
  | with_reducible refine s_seqM ?_
  | with_reducible refine s_asB ?_
  | with_reducible refine s_asI ?_
  | with_reducible refine s_asRI ?_
  | with_reducible refine s_acons ?_
  | with_reducible refine s_anil ?_
  | with_reducible refine s_call ?_
  | with_reducible refine s_cb ?_
  | with_reducible refine s_set ?_
  | with_reducible refine s_ixT ?_
  | with_reducible refine s_ixL ?_
  | with_reducible refine s_ixS ?_
  | ((with_reducible refine' s_getL ?k1 ?_); (case k1 => walk_at "look"))
  | ((with_reducible refine' s_opt ?k1 ?_); (case k1 => walk_at "opt"))
  | with_reducible refine s_binT ?_
  | with_reducible refine s_tup ?_
  | with_reducible refine s_tpT ?_
  | with_reducible refine s_key ?_
  | with_reducible refine s_kII ?_
  | with_reducible refine s_kIII ?_
  | with_reducible refine s_dget ?_
  | ((with_reducible refine' s_atT ?k1 ?_); (case k1 => walk_at "look"))
  | ((with_reducible refine' s_atTl ?k1 ?_); (case k1 => walk_at "look"))
  | ((with_reducible refine' s_got ?k1 ?_); (case k1 => assumption))
  | with_reducible refine s_din ?_
  | with_reducible refine s_dinT ?_
  | with_reducible refine s_dgetor ?_
  | with_reducible refine s_dput ?_
  | with_reducible refine s_dnewT ?_
  | with_reducible refine s_disp1 ?_
  | with_reducible refine s_keys ?_
  | with_reducible refine s_ixK0 ?_
  | with_reducible refine s_ixK1 ?_
  | with_reducible refine s_bTK ?_
  | with_reducible refine s_gTK ?_
  | with_reducible refine s_lst ?_
  | with_reducible refine s_ret ?_
  | with_reducible refine s_if ?_
  | with_reducible refine s_nextM ?_
  | with_reducible refine s_drop ?_
  | with_reducible refine s_par ?_
  | with_reducible refine s_asg ?_
  | with_reducible refine s_gN ?_
  | ((with_reducible refine' s_gT ?k1 ?_); (case k1 => exact rfl))
  | with_reducible refine s_gsC ?_
  | with_reducible refine s_gsN ?_
  | with_reducible refine s_gIx ?_
  | with_reducible refine s_setD ?_
  | with_reducible refine s_for ?_
  | with_reducible refine s_b ?_
  | with_reducible refine s_and ?_
  | with_reducible refine s_or ?_
  | with_reducible refine s_not ?_
  | with_reducible refine s_ife ?_
  | with_reducible refine s_neg ?_
  | with_reducible refine s_notV ?_
  | with_reducible refine s_andV ?_
  | with_reducible refine s_orV ?_
  | with_reducible refine s_isi ?_
  | with_reducible refine s_m ?_
  | with_reducible refine s_none ?_
  | with_reducible refine s_noneT ?_
  | with_reducible refine s_sl ?_
  | with_reducible refine s_oN ?_
  | with_reducible refine s_oS ?_
  | with_reducible refine s_lc ?_
  | with_reducible refine s_bN ?_
  | with_reducible refine s_bT ?_
  | with_reducible refine s_bTC ?_
  | with_reducible refine s_bTN ?_
  | with_reducible refine s_it ?_
  | with_reducible refine s_rng ?_
  | with_reducible refine s_zip ?_
  | with_reducible refine s_zip2 ?_
  | with_reducible refine s_enum ?_
  | with_reducible refine s_enum1 ?_
  | with_reducible refine s_yes ?_
  | with_reducible refine s_cT ?_
  | with_reducible refine s_cF ?_
  | with_reducible refine s_retN ?_
  | with_reducible refine s_try ?_
  | with_reducible refine s_raise0 ?_
  | with_reducible refine s_raise1 ?_
  | with_reducible refine s_isE ?_
  | with_reducible refine s_fld ?_
  | with_reducible refine s_brk ?_
  | with_reducible refine s_cnt ?_
  | ((with_reducible refine' s_aug ?k1 ?_); (case k1 => exact rfl))
  | with_reducible refine s_augix ?_
  | with_reducible refine s_addI ?_
  | ((with_reducible refine' s_addT ?k1 ?_); (case k1 => walk_at "side"))
  | ((with_reducible refine' s_addS ?k1 ?_); (case k1 => walk_at "side"))
  | with_reducible refine s_catL ?_
  | with_reducible refine s_subI ?_
  | ((with_reducible refine' s_mulI ?k1 ?_); (case k1 => walk_at "side"))
  | ((with_reducible refine' s_divI ?k1 ?_); (case k1 => walk_at "side"))
  | ((with_reducible refine' s_modI ?k1 ?_); (case k1 => walk_at "side"))
  | ((with_reducible refine' s_powI ?k1 ?_); (case k1 => walk_at "side"))
  | ((with_reducible refine' s_shlI ?k1 ?_); (case k1 => walk_at "side"))
  | with_reducible refine s_iaddI ?_
  | ((with_reducible refine' s_iaddS ?k1 ?_); (case k1 => walk_at "side"))
  | with_reducible refine s_eqI ?_
  | with_reducible refine s_neI ?_
  | with_reducible refine s_eqS ?_
  | with_reducible refine s_neS ?_
  | with_reducible refine s_eqB ?_
  | with_reducible refine s_neB ?_
  | with_reducible refine s_cmp ?_
  | ((with_reducible refine' s_ixX ?k1 ?_); (case k1 => walk_at "side"))
  | with_reducible refine s_lenT ?_
  | with_reducible refine s_lenL ?_
  | with_reducible refine s_lenC ?_
  | ((with_reducible refine' s_lenS ?k1 ?_); (case k1 => walk_at "side"))
  | with_reducible refine s_abs ?_
  | with_reducible refine s_intI ?_
  | with_reducible refine s_intB ?_
  | with_reducible refine s_gcd ?_
  | with_reducible refine s_listT ?_
  | with_reducible refine s_listL ?_
  | with_reducible refine s_tupT ?_
  | with_reducible refine s_tupL ?_
  | with_reducible refine s_all ?_
  | with_reducible refine s_any ?_
  | with_reducible refine s_sum ?_
  | with_reducible refine s_sumAT ?_
  | with_reducible refine s_sumAL ?_
  | with_reducible refine s_cnT ?_
  | with_reducible refine s_cnF ?_
  | with_reducible refine s_par3 ?_
  | with_reducible refine s_max2 ?_
  | with_reducible refine s_min2 ?_
  | with_reducible refine s_chain ?_
  | with_reducible refine s_chainT ?_
  | with_reducible refine s_inL ?_
  | with_reducible refine s_inT ?_
  | with_reducible refine s_append ?_
  | with_reducible refine s_extend ?_
  | with_reducible refine s_popAt ?_
  | with_reducible refine s_pop ?_
  | with_reducible refine s_slT ?_
  | with_reducible refine s_slL ?_
  | with_reducible refine s_itT ?_
  | with_reducible refine s_itL ?_
  | with_reducible refine s_itC ?_
  | ((with_reducible refine' s_rng1 ?k1 ?_); (case k1 => walk_at "side"))
  | ((with_reducible refine' s_rng2 ?k1 ?_); (case k1 => walk_at "side"))
  | ((with_reducible refine' s_rngD ?k1 ?_); (case k1 => walk_at "side"))
  | ((with_reducible refine' And.intro (s_isDT ?k1) ?_); (case k1 => walk_at "look"))
  | ((with_reducible refine' s_isLst ?k1 ?_); (case k1 => walk_at "look"))
  | ((with_reducible refine' s_lstOkL ?k1 ?_); (case k1 => walk_at "look"))
  | ((with_reducible refine' And.intro ?k1 ?_); (case k1 => walk_at "side")))
local macro_rules | `(tactic| walk_at "s") => `(tactic| repeat (walk_at "s1"))
/-- a node of a web -/
structure NdOk (m letters nodes : Nat) (nd : List (List Mv)) : Prop where
  l : nd.length ≤ 64
  c : ∀ c ∈ nd, c ≠ [] ∧ c.length ≤ m ∧ ∀ v ∈ c, MvOk letters nodes v
def spWeb : SpD := fun ds st R _ => ∃ (d c : Addr) (ns : List Int) (letters nodes corners most : Nat), ds = [.ref d, .int (letters : Int), .int (nodes : Int), .int (corners : Int), .int (most : Int)] ∧ DK st d c ns ∧ 0 < letters ∧ letters ≤ 64 ∧ 0 < nodes ∧ nodes ≤ 64 ∧ 0 < corners ∧ corners ≤ 64 ∧ 0 < most ∧ most ≤ 64 ∧
  ∀ web st', WOk most letters nodes web → Dr d c ns st st' → R (webD web) st'
theorem len_web : ∀ ds st R Rx, spWeb ds st R Rx → ds.length = 5 := by
  rintro ds st R Rx ⟨_, _, _, _, _, _, _, rfl, -⟩; rfl
theorem drop_end {α : Type} {f : Nat → α} {j n : Nat} (e : [] = ((List.range n).drop j).map f) (hj : j ≤ n) : j = n := by
  have : ((List.range n).drop j) = [] := by
    cases q : (List.range n).drop j with
    | nil => rfl
    | cons _ _ => rw [q] at e; cases e
  have := congrArg List.length this
  rw [List.length_drop, List.length_range] at this
  simp only [List.length_nil] at this
  omega
theorem drop_more {α : Type} {f : Nat → α} {j n : Nat} {x : α} {r : List α} (e : x :: r = ((List.range n).drop j).map f) : j < n ∧ x = f j ∧ r = ((List.range n).drop (j + 1)).map f := by
  have hj : j < n := by
    rcases Nat.lt_or_ge j n with h | h
    · exact h
    · rw [List.drop_eq_nil_of_le (by rw [List.length_range]; exact h)] at e; cases e
  rw [List.drop_eq_getElem_cons (by rw [List.length_range]; exact hj), List.getElem_range] at e
  obtain ⟨e1, e2⟩ := List.cons.inj e
  exact ⟨hj, e1, e2⟩
structure NdC (cn m letters nodes : Nat) (nd : List (List Mv)) : Prop where
  l : nd.length ≤ cn
  c : ∀ c ∈ nd, c ≠ [] ∧ c.length ≤ m ∧ ∀ v ∈ c, MvOk letters nodes v
/-- a web, the corners of a node counted -/
def spWebC : SpD := fun ds st R _ => ∃ (d c : Addr) (ns : List Int) (letters nodes corners most : Nat), ds = [.ref d, .int (letters : Int), .int (nodes : Int), .int (corners : Int), .int (most : Int)] ∧ DK st d c ns ∧ 0 < letters ∧ letters ≤ 64 ∧ 0 < nodes ∧ nodes ≤ 64 ∧ 0 < corners ∧ corners ≤ 64 ∧ 0 < most ∧ most ≤ 64 ∧
  ∀ web st', WOk most letters nodes web → (∀ nd ∈ web, nd.length ≤ corners) → Dr d c ns st st' → R (webD web) st'
theorem len_webC : ∀ ds st R Rx, spWebC ds st R Rx → ds.length = 5 := by
  rintro ds st R Rx ⟨_, _, _, _, _, _, _, rfl, -⟩; rfl
theorem read_webC : ∀ ds st R Rx, spWebC ds st R Rx → wb_law_web spDraw spCorner (bodyEd R Rx) (startD 8 ds) st := by
  rintro ds st R Rx ⟨d, c, ns, letters, nodes, corners, most, rfl, dk, hl0, hl1, hn0, hn1, hc0, hc1, hm0, hm1, k⟩
  unfold wb_law_web bodyEd
  walk_at "s"
  intro p hp
  have pd := dk.ne_new hp
  have pc : p ≠ c := fun e => by rw [e, dk.hc] at hp; cases hp
  walk_at "s"
  rw [Int.toNat_natCast]
  refine for_ind (fun rest ep T => ∃ (j : Nat) (web : List (List (List Mv))) (x6 x7 : Option D), rest = ((List.range nodes).drop j).map (fun i : Nat => D.int (0 + (i : Int))) ∧ j ≤ nodes ∧ web.length = j ∧ (∀ nd ∈ web, NdC corners most letters nodes nd) ∧ T p = some (.lst (web.map nodeD)) ∧ Dr d c ns st T ∧
    ep = [some (.ref d), some (.int (letters : Int)), some (.int (nodes : Int)), some (.int (corners : Int)), some (.int (most : Int)), some (.ref p), x6, x7]) ?_ ?_ _ _ _ ⟨0, [], none, none, rfl, Nat.zero_le _, rfl, fun q hq => by (cases hq), put_same, (Dr.refl dk).new hp, rfl⟩
  · rintro ep T ⟨j, web, x6, x7, e, hj, hlen, hw, hT, r, rfl⟩
    refine ⟨trivial, ?_⟩
    have := drop_end e hj
    walk_at "s"
    exact s_end (k web T ⟨by omega, fun nd h => ⟨Nat.le_trans (hw nd h).l hc1, (hw nd h).c⟩, hn0, hn1⟩ (fun nd h => (hw nd h).l) r)
  · rintro d0 rr ep T ⟨j, web, x6, x7, e, hj, hlen, hw, hT, r, rfl⟩ ih
    refine ⟨trivial, ?_⟩
    obtain ⟨hjl, rfl, rfl⟩ := drop_more e
    have full : ∀ (nx : DE → DS → Prop) (rt : D → DS → Prop) (bk ct : DE → DS → Prop) (ex : Xn → DE → DS → Prop), (∀ nd st', NdC corners most letters nodes nd → st' p = some (.lst ((web ++ [nd]).map nodeD)) → Dr d c ns st st' →
          nx [some (.ref d), some (.int (letters : Int)), some (.int (nodes : Int)), some (.int (corners : Int)), some (.int (most : Int)), some (.ref p), some (.int (0 + (j : Int))), x7] st') → ∀ T2, Dr d c ns T T2 →
        (wDrop (wM appendD (wVar 5) (wACons (wCB tupleD (wACons (wLc (wRng (wACons (wBin addD (wC (.int 1)) (wCall spDraw (wACons (wVar 0) (wACons (wVar 3) wANil)))) wANil)) (bN 7) [7] wYes (wCall spCorner (wACons (wVar 0) (wACons (wVar 1) (wACons (wVar 2) (wACons (wVar 4) wANil)))))) wANil)) wANil)))
          { nx := nx, rt := rt, bk := bk, ct := ct, ex := ex }
          [some (.ref d), some (.int (letters : Int)), some (.int (nodes : Int)), some (.int (corners : Int)), some (.int (most : Int)), some (.ref p), some (.int (0 + (j : Int))), x7] T2 := by
      intro nx rt bk ct ex hnx
      intro T2 r2
      have hT2 := r2.sx p _ pd hT
      walk_at "s"
      refine ⟨d, c, ns, _, rfl, r2.dk, by omega, sm (by omega) (by omega), fun v T3 v0 v1 r3 => ?_⟩
      have hT3 := r3.sx p _ pd hT2
      walk_at "s"
      refine lc_ind (fun items acc T => ∃ nd : List (List Mv), acc = nd.map cornerD ∧ items.length + nd.length = (1 + v).toNat ∧ (∀ c ∈ nd, c ≠ [] ∧ c.length ≤ most ∧ ∀ v ∈ c, MvOk letters nodes v) ∧ T p = some (.lst (web.map nodeD)) ∧ Dr d c ns st T) ?_ ?_ _ _ _ ⟨[], rfl, by rw [List.length_map, List.length_range]; rfl, fun q hq => by (cases hq), hT3, (r.trans r2).trans r3⟩
      · rintro acc T4 ⟨nd, rfl, hl4, hnd, hT4, r4⟩
        refine ⟨trivial, ?_⟩
        intro u hu
        have npu : p ≠ u := fun e => by rw [e, hu] at hT4; cases hT4
        walk_at "s"
        refine ⟨by rw [List.length_map]; show _ < 2 ^ 24; omega, ?_⟩
        simp only [List.length_nil] at hl4
        exact hnx nd _ ⟨by omega, hnd⟩ (by rw [put_same, List.map_append]; rfl) ⟨(r4.sx.trans (Sx.new hu)).put_off hp, (r4.dk.new hu).putL pd pc⟩
      · rintro x rr2 acc T4 ⟨nd, rfl, hl4, hnd, hT4, r4⟩ ih4
        refine ⟨trivial, ?_⟩
        simp only [List.length_cons] at hl4
        walk_at "s"
        refine ⟨d, c, ns, letters, nodes, most, rfl, r4.dk, hl0, hl1, hn0, hn1, hm0, hm1, fun cr T5 c1 c2 c3 r5 => ?_⟩
        refine ⟨by rw [List.length_map]; show _ < 2 ^ 24; omega, ?_⟩
        refine ih4 _ _ ⟨nd ++ [cr], by rw [List.map_append]; rfl, by rw [List.length_append, List.length_singleton]; omega, fun q hq => ?_, r5.sx p _ pd hT4, r4.trans r5⟩
        rcases List.mem_append.mp hq with hq | hq
        · exact hnd q hq
        · rw [List.mem_singleton.mp hq]; exact ⟨c1, c2, c3⟩
    have next : ∀ nd st', NdC corners most letters nodes nd → st' p = some (.lst ((web ++ [nd]).map nodeD)) → Dr d c ns st st' → _ := fun nd st' h1 h2 h3 => ih [some (.ref d), some (.int (letters : Int)), some (.int (nodes : Int)), some (.int (corners : Int)), some (.int (most : Int)), some (.ref p), some (.int (0 + (j : Int))), x7] st'
      ⟨j + 1, web ++ [nd], _, _, rfl, hjl, by rw [List.length_append, List.length_singleton, hlen], fun q hq => by
        rcases List.mem_append.mp hq with hq | hq
        · exact hw q hq
        · rw [List.mem_singleton.mp hq]; exact h1, h2, h3, rfl⟩
    walk_at "s"
    refine s_dec (fun e1 => ?_) (fun e1 => ?_)
    · walk_at "s"
      refine ⟨d, c, ns, _, rfl, r.dk, by omega, sm (by omega) (by omega), fun v T2 v0 v1 r2 => ?_⟩
      have hT2 := r2.sx p _ pd hT
      walk_at "s"
      refine s_dec (fun e2 => ?_) (fun e2 => ?_)
      · walk_at "s"
        refine ⟨by rw [List.length_map]; show _ < 2 ^ 24; omega, ?_⟩
        refine next [] _ ⟨Nat.zero_le _, fun q hq => by (cases hq)⟩ (by rw [put_same, List.map_append]; rfl) ⟨(r.trans r2).sx.put_off hp, r2.dk.putL pd pc⟩
      · exact full _ _ _ _ _ next T2 r2
    · first
        | exact full _ _ _ _ _ next T (Dr.refl r.dk)
        | (refine s_cF ?_; exact full _ _ _ _ _ next T (Dr.refl r.dk))
theorem read_web : ∀ ds st R Rx, spWeb ds st R Rx → wb_law_web spDraw spCorner (bodyEd R Rx) (startD 8 ds) st := fun ds st R Rx h =>
  let ⟨d, c, ns, letters, nodes, corners, most, e, dk, a1, a2, a3, a4, a5, a6, a7, a8, k⟩ := h
  read_webC ds st R Rx ⟨d, c, ns, letters, nodes, corners, most, e, dk, a1, a2, a3, a4, a5, a6, a7, a8, fun web st' h1 _ h3 => k web st' h1 h3⟩
def spRows : SpD := fun ds st R _ => ∃ (d c : Addr) (ns : List Int) (letters states : Nat), ds = [.ref d, .int (letters : Int), .int (states : Int)] ∧ DK st d c ns ∧ 0 < letters ∧ letters ≤ 64 ∧ 0 < states ∧ states ≤ 64 ∧
  ∀ (rows : List (List Nat)) (st' : DS), rows.length = states → (∀ r ∈ rows, r.length = letters ∧ ∀ i ∈ r, i < states) → Dr d c ns st st' → R (.tup (rows.map natsD)) st'
theorem len_rows : ∀ ds st R Rx, spRows ds st R Rx → ds.length = 3 := by
  rintro ds st R Rx ⟨_, _, _, _, _, rfl, -⟩; rfl
theorem read_rows : ∀ ds st R Rx, spRows ds st R Rx → wb_law_rows_of_states spDraw (bodyEd R Rx) (startD 5 ds) st := by
  rintro ds st R Rx ⟨d, c, ns, letters, states, rfl, dk, hl0, hl1, hs0, hs1, k⟩
  unfold wb_law_rows_of_states bodyEd
  walk_at "s"
  rw [Int.toNat_natCast]
  refine lc_ind (fun items acc T => ∃ rows : List (List Nat), acc = rows.map natsD ∧ items.length + rows.length = states ∧ (∀ r ∈ rows, r.length = letters ∧ ∀ i ∈ r, i < states) ∧ Dr d c ns st T) ?_ ?_ _ _ _ ⟨[], rfl, by rw [List.length_map, List.length_range]; rfl, fun q hq => by (cases hq), Dr.refl dk⟩
  · rintro acc T ⟨rows, rfl, hl, hr, r⟩
    refine ⟨trivial, ?_⟩
    intro u hu
    walk_at "s"
    exact s_end (k rows _ (by simp only [List.length_nil] at hl; omega) hr (r.new hu))
  · rintro x rr acc T ⟨rows, rfl, hl, hr, r⟩ ih
    refine ⟨trivial, ?_⟩
    simp only [List.length_cons] at hl
    walk_at "s"
    rw [Int.toNat_natCast]
    refine lc_ind (fun items acc T => ∃ row : List Nat, acc = row.map (fun i : Nat => D.int (i : Int)) ∧ items.length + row.length = letters ∧ (∀ i ∈ row, i < states) ∧ Dr d c ns st T) ?_ ?_ _ _ _ ⟨[], rfl, by rw [List.length_map, List.length_range]; rfl, fun q hq => by (cases hq), r⟩
    · rintro acc T2 ⟨row, rfl, hl2, hr2, r2⟩
      refine ⟨trivial, ?_⟩
      intro u hu
      walk_at "s"
      refine ⟨by rw [List.length_map]; show _ < 2 ^ 24; omega, ?_⟩
      refine ih _ _ ⟨rows ++ [row], by rw [List.map_append]; rfl, by rw [List.length_append, List.length_singleton]; omega, fun q hq => ?_, r2.new hu⟩
      rcases List.mem_append.mp hq with hq | hq
      · exact hr q hq
      · rw [List.mem_singleton.mp hq]; exact ⟨by simp only [List.length_nil] at hl2; omega, hr2⟩
    · rintro y rr2 acc T2 ⟨row, rfl, hl2, hr2, r2⟩ ih2
      refine ⟨trivial, ?_⟩
      simp only [List.length_cons] at hl2
      walk_at "s"
      refine ⟨d, c, ns, _, rfl, r2.dk, by omega, sm (by omega) (by omega), fun v T3 v0 v1 r3 => ?_⟩
      obtain ⟨i, rfl⟩ := Int.eq_ofNat_of_zero_le v0
      refine ⟨by rw [List.length_map]; show _ < 2 ^ 24; omega, ?_⟩
      refine ih2 _ _ ⟨row ++ [i], by rw [List.map_append]; rfl, by rw [List.length_append, List.length_singleton]; omega, fun q hq => ?_, r2.trans r3⟩
      rcases List.mem_append.mp hq with hq | hq
      · exact hr2 q hq
      · rw [List.mem_singleton.mp hq]; omega
end C
end DL

namespace DL
namespace C
open PySem L2
local macro_rules | `(tactic| walk_at "look") => `(tactic| first
  | assumption
  | exact put_same
  | (refine look_ne (by first | assumption | exact Ne.symm (by assumption)) ?_; walk_at "look")
  | (refine look_new (by assumption) ?_; walk_at "look"))
local macro_rules | `(tactic| walk_at "side") => `(tactic| first | assumption | exact trivial | decide | omega | exact ⟨by assumption, by assumption⟩ | exact ⟨by omega, by omega⟩ | exact ⟨by decide, by decide⟩ | exact ⟨by decide, by decide, by decide⟩ | (exact .inl (.inl ⟨by decide, by decide⟩)) | (exact .inl (.inr ⟨by decide, by decide⟩)) | (exact .inl (.inl ⟨by omega, by omega⟩)) | (exact .inl (.inr ⟨by omega, by omega⟩)))
local macro_rules | `(tactic| walk_at "opt") => `(tactic| first | (with_reducible exact atI_0 _ _) | (with_reducible exact atI_1 _ _ _) | (with_reducible exact atI_2 _ _ _ _) | (with_reducible exact atI_3 _ _ _ _ _) | (with_reducible exact atI_4 _ _ _ _ _ _) | assumption | exact atI_0 _ _ | exact atI_1 _ _ _ | exact atI_2 _ _ _ _ | exact atI_3 _ _ _ _ _ | exact atI_4 _ _ _ _ _ _ | exact boolsOf_map _ | exact intsOf_map _ | exact rfl)
local macro_rules | `(tactic| walk_at "s1") => `(tactic| first
  | ((with_reducible refine' s_var ?k1 ?_); (case k1 => exact rfl))
  | with_reducible refine s_bin ?_
  | with_reducible refine s_c ?_
  | with_reducible refine s_seqM ?_
  | with_reducible refine s_asB ?_
  | with_reducible refine s_asI ?_
  | with_reducible refine s_asRI ?_
  | with_reducible refine s_acons ?_
  | with_reducible refine s_anil ?_
  | with_reducible refine s_call ?_
  | with_reducible refine s_cb ?_
  | with_reducible refine s_set ?_
  | with_reducible refine s_ixT ?_
  | with_reducible refine s_ixL ?_
  | with_reducible refine s_ixS ?_
  | ((with_reducible refine' s_getL ?k1 ?_); (case k1 => walk_at "look"))
  | ((with_reducible refine' s_opt ?k1 ?_); (case k1 => walk_at "opt"))
  | with_reducible refine s_binT ?_
  | with_reducible refine s_tup ?_
  | with_reducible refine s_tpT ?_
  | with_reducible refine s_key ?_
  | with_reducible refine s_kII ?_
  | with_reducible refine s_kIII ?_
  | with_reducible refine s_dget ?_
  | ((with_reducible refine' s_atT ?k1 ?_); (case k1 => walk_at "look"))
  | ((with_reducible refine' s_atTl ?k1 ?_); (case k1 => walk_at "look"))
  | ((with_reducible refine' s_got ?k1 ?_); (case k1 => assumption))
  | with_reducible refine s_din ?_
  | with_reducible refine s_dinT ?_
  | with_reducible refine s_dgetor ?_
  | with_reducible refine s_dput ?_
  | with_reducible refine s_dnewT ?_
  | with_reducible refine s_disp1 ?_
  | with_reducible refine s_keys ?_
  | with_reducible refine s_ixK0 ?_
  | with_reducible refine s_ixK1 ?_
  | with_reducible refine s_bTK ?_
  | with_reducible refine s_gTK ?_
  | with_reducible refine s_lst ?_
  | with_reducible refine s_ret ?_
  | with_reducible refine s_if ?_
  | with_reducible refine s_nextM ?_
  | with_reducible refine s_drop ?_
  | with_reducible refine s_par ?_
  | with_reducible refine s_asg ?_
  | with_reducible refine s_gN ?_
  | ((with_reducible refine' s_gT ?k1 ?_); (case k1 => exact rfl))
  | with_reducible refine s_gsC ?_
  | with_reducible refine s_gsN ?_
  | with_reducible refine s_gIx ?_
  | with_reducible refine s_setD ?_
  | with_reducible refine s_for ?_
  | with_reducible refine s_b ?_
  | with_reducible refine s_and ?_
  | with_reducible refine s_or ?_
  | with_reducible refine s_not ?_
  | with_reducible refine s_ife ?_
  | with_reducible refine s_neg ?_
  | with_reducible refine s_notV ?_
  | with_reducible refine s_andV ?_
  | with_reducible refine s_orV ?_
  | with_reducible refine s_isi ?_
  | with_reducible refine s_m ?_
  | with_reducible refine s_none ?_
  | with_reducible refine s_noneT ?_
  | with_reducible refine s_sl ?_
  | with_reducible refine s_oN ?_
  | with_reducible refine s_oS ?_
  | with_reducible refine s_lc ?_
  | with_reducible refine s_bN ?_
  | with_reducible refine s_bT ?_
  | with_reducible refine s_bTC ?_
  | with_reducible refine s_bTN ?_
  | with_reducible refine s_it ?_
  | with_reducible refine s_rng ?_
  | with_reducible refine s_zip ?_
  | with_reducible refine s_zip2 ?_
  | with_reducible refine s_enum ?_
  | with_reducible refine s_enum1 ?_
  | with_reducible refine s_yes ?_
  | with_reducible refine s_cT ?_
  | with_reducible refine s_cF ?_
  | with_reducible refine s_retN ?_
  | with_reducible refine s_try ?_
  | with_reducible refine s_raise0 ?_
  | with_reducible refine s_raise1 ?_
  | with_reducible refine s_isE ?_
  | with_reducible refine s_fld ?_
  | with_reducible refine s_brk ?_
  | with_reducible refine s_cnt ?_
  | ((with_reducible refine' s_aug ?k1 ?_); (case k1 => exact rfl))
  | with_reducible refine s_augix ?_
  | with_reducible refine s_addI ?_
  | ((with_reducible refine' s_addT ?k1 ?_); (case k1 => walk_at "side"))
  | ((with_reducible refine' s_addS ?k1 ?_); (case k1 => walk_at "side"))
  | with_reducible refine s_catL ?_
  | with_reducible refine s_subI ?_
  | ((with_reducible refine' s_mulI ?k1 ?_); (case k1 => walk_at "side"))
  | ((with_reducible refine' s_divI ?k1 ?_); (case k1 => walk_at "side"))
  | ((with_reducible refine' s_modI ?k1 ?_); (case k1 => walk_at "side"))
  | ((with_reducible refine' s_powI ?k1 ?_); (case k1 => walk_at "side"))
  | ((with_reducible refine' s_shlI ?k1 ?_); (case k1 => walk_at "side"))
  | with_reducible refine s_iaddI ?_
  | ((with_reducible refine' s_iaddS ?k1 ?_); (case k1 => walk_at "side"))
  | with_reducible refine s_eqI ?_
  | with_reducible refine s_neI ?_
  | with_reducible refine s_eqS ?_
  | with_reducible refine s_neS ?_
  | with_reducible refine s_eqB ?_
  | with_reducible refine s_neB ?_
  | with_reducible refine s_cmp ?_
  | ((with_reducible refine' s_ixX ?k1 ?_); (case k1 => walk_at "side"))
  | with_reducible refine s_lenT ?_
  | with_reducible refine s_lenL ?_
  | with_reducible refine s_lenC ?_
  | ((with_reducible refine' s_lenS ?k1 ?_); (case k1 => walk_at "side"))
  | with_reducible refine s_abs ?_
  | with_reducible refine s_intI ?_
  | with_reducible refine s_intB ?_
  | with_reducible refine s_gcd ?_
  | with_reducible refine s_listT ?_
  | with_reducible refine s_listL ?_
  | with_reducible refine s_tupT ?_
  | with_reducible refine s_tupL ?_
  | with_reducible refine s_all ?_
  | with_reducible refine s_any ?_
  | with_reducible refine s_sum ?_
  | with_reducible refine s_sumAT ?_
  | with_reducible refine s_sumAL ?_
  | with_reducible refine s_cnT ?_
  | with_reducible refine s_cnF ?_
  | with_reducible refine s_par3 ?_
  | with_reducible refine s_max2 ?_
  | with_reducible refine s_min2 ?_
  | with_reducible refine s_chain ?_
  | with_reducible refine s_chainT ?_
  | with_reducible refine s_inL ?_
  | with_reducible refine s_inT ?_
  | with_reducible refine s_append ?_
  | with_reducible refine s_extend ?_
  | with_reducible refine s_popAt ?_
  | with_reducible refine s_pop ?_
  | with_reducible refine s_slT ?_
  | with_reducible refine s_slL ?_
  | with_reducible refine s_itT ?_
  | with_reducible refine s_itL ?_
  | with_reducible refine s_itC ?_
  | ((with_reducible refine' s_rng1 ?k1 ?_); (case k1 => walk_at "side"))
  | ((with_reducible refine' s_rng2 ?k1 ?_); (case k1 => walk_at "side"))
  | ((with_reducible refine' s_rngD ?k1 ?_); (case k1 => walk_at "side"))
  | ((with_reducible refine' And.intro (s_isDT ?k1) ?_); (case k1 => walk_at "look"))
  | ((with_reducible refine' s_isLst ?k1 ?_); (case k1 => walk_at "look"))
  | ((with_reducible refine' s_lstOkL ?k1 ?_); (case k1 => walk_at "look"))
  | ((with_reducible refine' And.intro ?k1 ?_); (case k1 => walk_at "side")))
local macro_rules | `(tactic| walk_at "s") => `(tactic| repeat (walk_at "s1"))
theorem fr_q {n m : Int} (hm : 0 < m) (hc : Nat.gcd n.natAbs m.natAbs = 1) : fr n m = qD ((n : Rat) / m) := by
  obtain ⟨e1, e2⟩ := rat_of hm hc rfl
  unfold fr qD
  rw [e1, e2]
theorem fr_bits {k : Nat} {n m : Int} (hm : 0 < m) (hc : Nat.gcd n.natAbs m.natAbs = 1) (hn : Bt k n) (hb : Bt k m) : Bits k ((n : Rat) / m) := by
  obtain ⟨e1, e2⟩ := rat_of hm hc rfl
  exact ⟨by rw [e1]; exact hn, by rw [e2]; exact hb⟩
theorem q_zero : qD 0 = .tup [.int 0, .int 1] := rfl
theorem bits_zero {k : Nat} (h : 0 < k) : Bits k 0 := ⟨(show Bt 1 0 by unfold Bt; decide).mono h, (show Bt 1 1 by unfold Bt; decide).mono h⟩
/-- what is shown, drawn: one entry for each state -/
def spGauge (on : Bool) : SpD := fun ds st R _ => ∃ (d c : Addr) (ns : List Int) (letters states : Nat) (rows0 : List (List Nat)), (ds = if on = true then [.ref d, .tup (rows0.map natsD), .int (letters : Int)] else [.ref d, .int (letters : Int), .int (states : Int)]) ∧ DK st d c ns ∧ 0 < letters ∧ letters ≤ 64 ∧ 0 < states ∧ states ≤ 64 ∧
  (on = true → rows0.length = states ∧ ∀ r ∈ rows0, r.length = letters ∧ ∀ i ∈ r, i < states) ∧ ∀ rows shows st', (on = true → rows = rows0) → GOk 3 letters states rows shows → Dr d c ns st st' → R (gaugeD letters rows shows) st'
theorem len_gauge {on : Bool} : ∀ ds st R Rx, spGauge on ds st R Rx → ds.length = 3 := by
  rintro ds st R Rx ⟨_, _, _, _, _, _, e, -⟩
  rw [e]
  cases on <;> rfl
theorem bt3 {i : Int} (h0 : 0 ≤ i) (h1 : i ≤ 7) : Bt 3 i := by unfold Bt; show _ < 8; omega
theorem read_gauge : ∀ ds st R Rx, spGauge false ds st R Rx → wb_law_gauge spDraw spFraction spRows (bodyEd R Rx) (startD 5 ds) st := by
  rintro ds st R Rx ⟨d, c, ns, letters, states, rows0, rfl, dk, hl0, hl1, hs0, hs1, -, k⟩
  rw [if_neg Bool.false_ne_true]
  unfold wb_law_gauge bodyEd
  walk_at "s"
  rw [Int.toNat_natCast]
  refine lc_ind (fun items acc T => ∃ shows : List Rat, acc = shows.map qD ∧ items.length + shows.length = states ∧ (∀ x ∈ shows, Bits 3 x) ∧ Dr d c ns st T) ?_ ?_ _ _ _ ⟨[], rfl, by rw [List.length_map, List.length_range]; rfl, fun q hq => by (cases hq), Dr.refl dk⟩
  · rintro acc T ⟨shows, rfl, hl, hb, r⟩
    refine ⟨trivial, ?_⟩
    intro u hu
    have ud := r.dk.ne_new hu
    simp only [List.length_nil] at hl
    walk_at "s"
    refine ⟨d, c, ns, letters, states, rfl, r.dk.new hu, hl0, hl1, hs0, hs1, fun rows T2 r1 r2 r3 => ?_⟩
    have hu2 := r3.sx u _ ud put_same
    walk_at "s"
    exact s_end (k rows shows T2 (fun z => Bool.noConfusion z) ⟨r1, by omega, r2, hb, hs0, hs1, hl0, hl1⟩ ((r.new hu).trans r3))
  · rintro x rr acc T ⟨shows, rfl, hl, hb, r⟩ ih
    refine ⟨trivial, ?_⟩
    simp only [List.length_cons] at hl
    walk_at "s"
    refine ⟨d, c, ns, _, rfl, r.dk, by omega, sm (by omega) (by omega), fun v T2 v0 v1 r2 => ?_⟩
    walk_at "s"
    refine s_dec (fun e => ?_) (fun e => ?_)
    · walk_at "s"
      refine ⟨d, c, ns, _, _, rfl, r2.dk, by omega, sm (by omega) (by omega), by omega, sm (by omega) (by omega), fun n m T3 n0 n1 m0 m1 hc r3 => ?_⟩
      refine ⟨by rw [List.length_map]; show _ < 2 ^ 24; omega, ?_⟩
      refine ih _ _ ⟨shows ++ [(n : Rat) / m], by rw [List.map_append, fr_q m0 hc]; rfl, by rw [List.length_append, List.length_singleton]; omega, fun q hq => ?_, (r.trans r2).trans r3⟩
      rcases List.mem_append.mp hq with hq | hq
      · exact hb q hq
      · rw [List.mem_singleton.mp hq]; exact fr_bits m0 hc (bt3 n0 (by omega)) (bt3 (by omega) (by omega))
    · walk_at "s"
      refine ⟨by rw [List.length_map]; show _ < 2 ^ 24; omega, ?_⟩
      refine ih _ _ ⟨shows ++ [0], by rw [List.map_append]; rfl, by rw [List.length_append, List.length_singleton]; omega, fun q hq => ?_, r.trans r2⟩
      rcases List.mem_append.mp hq with hq | hq
      · exact hb q hq
      · rw [List.mem_singleton.mp hq]; exact bits_zero (by decide)
theorem read_gauge_on : ∀ ds st R Rx, spGauge true ds st R Rx → wb_law_gauge_on spDraw spFraction (bodyEd R Rx) (startD 5 ds) st := by
  rintro ds st R Rx ⟨d, c, ns, letters, states, rows0, rfl, dk, hl0, hl1, hs0, hs1, hr, k⟩
  obtain ⟨hr1, hr2⟩ := hr rfl
  rw [if_pos rfl]
  unfold wb_law_gauge_on bodyEd
  walk_at "s"
  refine lc_ind (fun items acc T => ∃ shows : List Rat, acc = shows.map qD ∧ items.length + shows.length = states ∧ (∀ x ∈ shows, Bits 3 x) ∧ Dr d c ns st T) ?_ ?_ _ _ _ ⟨[], rfl, by rw [List.length_map, hr1]; rfl, fun q hq => by (cases hq), Dr.refl dk⟩
  · rintro acc T ⟨shows, rfl, hl, hb, r⟩
    refine ⟨trivial, ?_⟩
    intro u hu
    simp only [List.length_nil] at hl
    walk_at "s"
    exact s_end (k rows0 shows _ (fun _ => rfl) ⟨hr1, by omega, hr2, hb, hs0, hs1, hl0, hl1⟩ (r.new hu))
  · rintro x rr acc T ⟨shows, rfl, hl, hb, r⟩ ih
    refine ⟨trivial, ?_⟩
    simp only [List.length_cons] at hl
    walk_at "s"
    refine ⟨d, c, ns, _, rfl, r.dk, by omega, sm (by omega) (by omega), fun v T2 v0 v1 r2 => ?_⟩
    walk_at "s"
    refine s_dec (fun e => ?_) (fun e => ?_)
    · walk_at "s"
      refine ⟨d, c, ns, _, _, rfl, r2.dk, by omega, sm (by omega) (by omega), by omega, sm (by omega) (by omega), fun n m T3 n0 n1 m0 m1 hc r3 => ?_⟩
      refine ⟨by rw [List.length_map]; show _ < 2 ^ 24; omega, ?_⟩
      refine ih _ _ ⟨shows ++ [(n : Rat) / m], by rw [List.map_append, fr_q m0 hc]; rfl, by rw [List.length_append, List.length_singleton]; omega, fun q hq => ?_, (r.trans r2).trans r3⟩
      rcases List.mem_append.mp hq with hq | hq
      · exact hb q hq
      · rw [List.mem_singleton.mp hq]; exact fr_bits m0 hc (bt3 n0 (by omega)) (bt3 (by omega) (by omega))
    · walk_at "s"
      refine ⟨by rw [List.length_map]; show _ < 2 ^ 24; omega, ?_⟩
      refine ih _ _ ⟨shows ++ [0], by rw [List.map_append]; rfl, by rw [List.length_append, List.length_singleton]; omega, fun q hq => ?_, r.trans r2⟩
      rcases List.mem_append.mp hq with hq | hq
      · exact hb q hq
      · rw [List.mem_singleton.mp hq]; exact bits_zero (by decide)
/-! the mean of a corner, a step -/
def meanQ (c : List Mv) (r : List Nat) (t : List (List Rat)) : Rat := sumQ (parts c r t) / (wsum c : Rat)
def mbits (m k : Nat) : Nat := (1 + m * (k + 11)) + (10 + m)
theorem wsum_pos {letters nodes : Nat} : ∀ {c : List Mv}, c ≠ [] → (∀ m ∈ c, MvOk letters nodes m) → 0 < wsum c
  | [], h, _ => absurd rfl h
  | [m], _, h => by
    have := (h m List.mem_cons_self).w0
    show 0 < m.1 + 0
    omega
  | m :: m2 :: c, _, h => by
    have a := (h m List.mem_cons_self).w0
    have b := wsum_pos (c := m2 :: c) (List.cons_ne_nil _ _) fun x hx => h x (List.mem_cons_of_mem _ hx)
    show 0 < m.1 + wsum (m2 :: c)
    omega
def spMean : SpD := fun ds st R _ => ∃ (c : List Mv) (r : List Nat) (t : List (List Rat)) (k m letters states nodes : Nat), ds = [cornerD c, natsD r, tabD t] ∧ StepOk k letters states nodes c r t ∧ c ≠ [] ∧ c.length ≤ m ∧ mbits m k ≤ 8800 ∧ (Bits (mbits m k) (meanQ c r t) → R (qD (meanQ c r t)) st)
theorem len_mean : ∀ ds st R Rx, spMean ds st R Rx → ds.length = 3 := by
  rintro ds st R Rx ⟨_, _, _, _, _, _, _, _, rfl, -⟩; rfl
theorem read_mean : ∀ ds st R Rx, spMean ds st R Rx → wb_law_mean spWsum spOver spSumQ spTimes (bodyEd R Rx) (startD 5 ds) st := by
  rintro ds st R Rx ⟨c, r, t, k, m, letters, states, nodes, rfl, ok, hne, hl, hb, kk⟩
  unfold mbits at hb
  have hcl : c.length * (k + 11) ≤ m * (k + 11) := Nat.mul_le_mul_right _ hl
  have hcl2 : c.length * (k + 10 + 1) = c.length * (k + 11) := rfl
  have hm1 : m * 1 ≤ m * (k + 11) := Nat.mul_le_mul_left _ (by omega)
  have hc0 : 0 < c.length := List.length_pos_iff.mpr hne
  have hk : k + 11 ≤ 8800 := by
    have : 1 * (k + 11) ≤ c.length * (k + 11) := Nat.mul_le_mul_right _ hc0
    omega
  unfold wb_law_mean bodyEd
  walk_at "s"
  refine ⟨c, rfl, by omega, ?_⟩
  unfold cornerD natsD tabD
  walk_at "s"
  refine lc_ind (fun items acc st2 => ∃ p2 s2, c = p2 ++ s2 ∧ items = s2.map moveD ∧ acc = (parts p2 r t).map qD ∧ st2 = st) ?_ ?_ _ _ _ ⟨[], c, rfl, rfl, rfl, rfl⟩
  · rintro acc st2 ⟨p2, s2, e, e2, rfl, rfl⟩
    refine ⟨trivial, ?_⟩
    have : s2 = [] := by cases s2 with
      | nil => rfl
      | cons _ _ => cases e2
    subst this
    rw [List.append_nil] at e
    subst e
    intro u hu
    refine ⟨_, parts c r t, k + 10, rfl, .inr ⟨u, rfl, put_same⟩, by rw [parts_map]; omega, parts_bits ok, fun hz => ?_⟩
    rw [parts_map] at hz
    walk_at "s"
    have w0 := wsum_pos hne ok.c
    refine over_q (y := (wsum c : Rat)) hz (bits_int (wsum_bt ok.c) (by omega)) (cast_ne (by omega)) (by omega) fun bz => ?_
    exact s_endS (Sub.put_new hu) (kk (bz.mono (by unfold mbits; omega)))
  · rintro d rr acc st2 ⟨p2, s2, e, e2, rfl, rfl⟩ ih
    refine ⟨trivial, ?_⟩
    cases s2 with
    | nil => cases e2
    | cons mv s2 =>
    obtain ⟨rfl, rfl⟩ := List.cons.inj e2
    have hm : mv ∈ c := by rw [e]; exact List.mem_append_right _ List.mem_cons_self
    have hlen : p2.length + 1 ≤ c.length := by rw [e, List.length_append, List.length_cons]; omega
    have mo := ok.c mv hm
    have a1 := nat_at (r := r) (i := mv.2.1) (by rw [ok.rl]; exact mo.l)
    obtain ⟨a2, a3, b3⟩ := ok.t.at (ok.st hm) mo.a
    unfold moveD
    walk_at "s"
    refine times_q (x := ((mv.1 : Int) : Rat)) (bits_w mo) b3 (by omega) fun _ => ?_
    refine ⟨by rw [List.length_map, parts_map]; show _ < 2 ^ 24; omega, ?_⟩
    exact ih _ _ ⟨p2 ++ [mv], s2, by rw [e, List.append_assoc]; rfl, rfl, by rw [parts, parts, List.map_append, List.map_append]; rfl, rfl⟩
end C
end DL

namespace DL
namespace C
open PySem L2
local macro_rules | `(tactic| walk_at "look") => `(tactic| first
  | assumption
  | exact put_same
  | (refine look_ne (by first | assumption | exact Ne.symm (by assumption)) ?_; walk_at "look")
  | (refine look_new (by assumption) ?_; walk_at "look"))
local macro_rules | `(tactic| walk_at "side") => `(tactic| first | assumption | exact trivial | decide | omega | exact ⟨by assumption, by assumption⟩ | exact ⟨by omega, by omega⟩ | exact ⟨by decide, by decide⟩ | exact ⟨by decide, by decide, by decide⟩ | (exact .inl (.inl ⟨by decide, by decide⟩)) | (exact .inl (.inr ⟨by decide, by decide⟩)) | (exact .inl (.inl ⟨by omega, by omega⟩)) | (exact .inl (.inr ⟨by omega, by omega⟩)))
local macro_rules | `(tactic| walk_at "opt") => `(tactic| first | (with_reducible exact atI_0 _ _) | (with_reducible exact atI_1 _ _ _) | (with_reducible exact atI_2 _ _ _ _) | (with_reducible exact atI_3 _ _ _ _ _) | (with_reducible exact atI_4 _ _ _ _ _ _) | assumption | exact atI_0 _ _ | exact atI_1 _ _ _ | exact atI_2 _ _ _ _ | exact atI_3 _ _ _ _ _ | exact atI_4 _ _ _ _ _ _ | exact boolsOf_map _ | exact intsOf_map _ | exact rfl)
local macro_rules | `(tactic| walk_at "s1") => `(tactic| first
  | ((with_reducible refine' s_var ?k1 ?_); (case k1 => exact rfl))
  | with_reducible refine s_bin ?_
  | with_reducible refine s_c ?_
  | with_reducible refine s_seqM ?_
  | with_reducible refine s_asB ?_
  | with_reducible refine s_asI ?_
  | with_reducible refine s_asRI ?_
  | with_reducible refine s_acons ?_
  | with_reducible refine s_anil ?_
  | with_reducible refine s_call ?_
  | with_reducible refine s_cb ?_
  | with_reducible refine s_set ?_
  | with_reducible refine s_ixT ?_
  | with_reducible refine s_ixL ?_
  | with_reducible refine s_ixS ?_
  | ((with_reducible refine' s_getL ?k1 ?_); (case k1 => walk_at "look"))
  | ((with_reducible refine' s_opt ?k1 ?_); (case k1 => walk_at "opt"))
  | with_reducible refine s_binT ?_
  | with_reducible refine s_tup ?_
  | with_reducible refine s_tpT ?_
  | with_reducible refine s_key ?_
  | with_reducible refine s_kII ?_
  | with_reducible refine s_kIII ?_
  | with_reducible refine s_dget ?_
  | ((with_reducible refine' s_atT ?k1 ?_); (case k1 => walk_at "look"))
  | ((with_reducible refine' s_atTl ?k1 ?_); (case k1 => walk_at "look"))
  | ((with_reducible refine' s_got ?k1 ?_); (case k1 => assumption))
  | with_reducible refine s_din ?_
  | with_reducible refine s_dinT ?_
  | with_reducible refine s_dgetor ?_
  | with_reducible refine s_dput ?_
  | with_reducible refine s_dnewT ?_
  | with_reducible refine s_disp1 ?_
  | with_reducible refine s_keys ?_
  | with_reducible refine s_ixK0 ?_
  | with_reducible refine s_ixK1 ?_
  | with_reducible refine s_bTK ?_
  | with_reducible refine s_gTK ?_
  | with_reducible refine s_lst ?_
  | with_reducible refine s_ret ?_
  | with_reducible refine s_if ?_
  | with_reducible refine s_nextM ?_
  | with_reducible refine s_drop ?_
  | with_reducible refine s_par ?_
  | with_reducible refine s_asg ?_
  | with_reducible refine s_gN ?_
  | ((with_reducible refine' s_gT ?k1 ?_); (case k1 => exact rfl))
  | with_reducible refine s_gsC ?_
  | with_reducible refine s_gsN ?_
  | with_reducible refine s_gIx ?_
  | with_reducible refine s_setD ?_
  | with_reducible refine s_for ?_
  | with_reducible refine s_b ?_
  | with_reducible refine s_and ?_
  | with_reducible refine s_or ?_
  | with_reducible refine s_not ?_
  | with_reducible refine s_ife ?_
  | with_reducible refine s_neg ?_
  | with_reducible refine s_notV ?_
  | with_reducible refine s_andV ?_
  | with_reducible refine s_orV ?_
  | with_reducible refine s_isi ?_
  | with_reducible refine s_m ?_
  | with_reducible refine s_none ?_
  | with_reducible refine s_noneT ?_
  | with_reducible refine s_sl ?_
  | with_reducible refine s_oN ?_
  | with_reducible refine s_oS ?_
  | with_reducible refine s_lc ?_
  | with_reducible refine s_bN ?_
  | with_reducible refine s_bT ?_
  | with_reducible refine s_bTC ?_
  | with_reducible refine s_bTN ?_
  | with_reducible refine s_it ?_
  | with_reducible refine s_rng ?_
  | with_reducible refine s_zip ?_
  | with_reducible refine s_zip2 ?_
  | with_reducible refine s_enum ?_
  | with_reducible refine s_enum1 ?_
  | with_reducible refine s_yes ?_
  | with_reducible refine s_cT ?_
  | with_reducible refine s_cF ?_
  | with_reducible refine s_retN ?_
  | with_reducible refine s_try ?_
  | with_reducible refine s_raise0 ?_
  | with_reducible refine s_raise1 ?_
  | with_reducible refine s_isE ?_
  | with_reducible refine s_fld ?_
  | with_reducible refine s_brk ?_
  | with_reducible refine s_cnt ?_
  | ((with_reducible refine' s_aug ?k1 ?_); (case k1 => exact rfl))
  | with_reducible refine s_augix ?_
  | with_reducible refine s_addI ?_
  | ((with_reducible refine' s_addT ?k1 ?_); (case k1 => walk_at "side"))
  | ((with_reducible refine' s_addS ?k1 ?_); (case k1 => walk_at "side"))
  | with_reducible refine s_catL ?_
  | with_reducible refine s_subI ?_
  | ((with_reducible refine' s_mulI ?k1 ?_); (case k1 => walk_at "side"))
  | ((with_reducible refine' s_divI ?k1 ?_); (case k1 => walk_at "side"))
  | ((with_reducible refine' s_modI ?k1 ?_); (case k1 => walk_at "side"))
  | ((with_reducible refine' s_powI ?k1 ?_); (case k1 => walk_at "side"))
  | ((with_reducible refine' s_shlI ?k1 ?_); (case k1 => walk_at "side"))
  | with_reducible refine s_iaddI ?_
  | ((with_reducible refine' s_iaddS ?k1 ?_); (case k1 => walk_at "side"))
  | with_reducible refine s_eqI ?_
  | with_reducible refine s_neI ?_
  | with_reducible refine s_eqS ?_
  | with_reducible refine s_neS ?_
  | with_reducible refine s_eqB ?_
  | with_reducible refine s_neB ?_
  | with_reducible refine s_cmp ?_
  | ((with_reducible refine' s_ixX ?k1 ?_); (case k1 => walk_at "side"))
  | with_reducible refine s_lenT ?_
  | with_reducible refine s_lenL ?_
  | with_reducible refine s_lenC ?_
  | ((with_reducible refine' s_lenS ?k1 ?_); (case k1 => walk_at "side"))
  | with_reducible refine s_abs ?_
  | with_reducible refine s_intI ?_
  | with_reducible refine s_intB ?_
  | with_reducible refine s_gcd ?_
  | with_reducible refine s_listT ?_
  | with_reducible refine s_listL ?_
  | with_reducible refine s_tupT ?_
  | with_reducible refine s_tupL ?_
  | with_reducible refine s_all ?_
  | with_reducible refine s_any ?_
  | with_reducible refine s_sum ?_
  | with_reducible refine s_sumAT ?_
  | with_reducible refine s_sumAL ?_
  | with_reducible refine s_cnT ?_
  | with_reducible refine s_cnF ?_
  | with_reducible refine s_par3 ?_
  | with_reducible refine s_max2 ?_
  | with_reducible refine s_min2 ?_
  | with_reducible refine s_chain ?_
  | with_reducible refine s_chainT ?_
  | with_reducible refine s_inL ?_
  | with_reducible refine s_inT ?_
  | with_reducible refine s_append ?_
  | with_reducible refine s_extend ?_
  | with_reducible refine s_popAt ?_
  | with_reducible refine s_pop ?_
  | with_reducible refine s_slT ?_
  | with_reducible refine s_slL ?_
  | with_reducible refine s_itT ?_
  | with_reducible refine s_itL ?_
  | with_reducible refine s_itC ?_
  | ((with_reducible refine' s_rng1 ?k1 ?_); (case k1 => walk_at "side"))
  | ((with_reducible refine' s_rng2 ?k1 ?_); (case k1 => walk_at "side"))
  | ((with_reducible refine' s_rngD ?k1 ?_); (case k1 => walk_at "side"))
  | ((with_reducible refine' And.intro (s_isDT ?k1) ?_); (case k1 => walk_at "look"))
  | ((with_reducible refine' s_isLst ?k1 ?_); (case k1 => walk_at "look"))
  | ((with_reducible refine' s_lstOkL ?k1 ?_); (case k1 => walk_at "look"))
  | ((with_reducible refine' And.intro ?k1 ?_); (case k1 => walk_at "side")))
local macro_rules | `(tactic| walk_at "s") => `(tactic| repeat (walk_at "s1"))
/-! fractions over one common multiple M -/
structure Fit (M : Int) (c : Nat) (x : Rat) : Prop where
  d : (x.den : Int) ∣ M
  n : x.num.natAbs ≤ c * x.den
theorem Fit.den_le {M : Int} {c : Nat} {x : Rat} (h : Fit M c x) (hM : 0 < M) : (x.den : Int) ≤ M := Int.le_of_dvd hM h.d
theorem Fit.bits {M : Int} {c m e : Nat} {x : Rat} (h : Fit M c x) (hM : 0 < M) (bM : Bt m M) (hc : c ≤ 2 ^ e) : Bits (m + e) x := by
  have hd := h.den_le hM
  have hm : (x.den : Int).natAbs ≤ M.natAbs := by omega
  refine ⟨?_, (bM.of_le hm).mono (Nat.le_add_right _ _)⟩
  unfold Bt at *
  have h1 : x.num.natAbs ≤ 2 ^ e * M.natAbs := Nat.le_trans h.n (Nat.mul_le_mul hc (by omega))
  rw [Nat.pow_add, Nat.mul_comm]
  exact Nat.lt_of_le_of_lt h1 (Nat.mul_lt_mul_of_pos_left bM (Nat.two_pow_pos _))
theorem Fit.mono {M M' : Int} {c c' : Nat} {x : Rat} (h : Fit M c x) (hM : M ∣ M') (hc : c ≤ c') : Fit M' c' x := ⟨Int.dvd_trans h.d hM, Nat.le_trans h.n (Nat.mul_le_mul_right _ hc)⟩
/-- a quotient that stands over M -/
theorem fit_of {M n d : Int} {c : Nat} {x : Rat} (hd : 0 < d) (e : x = (n : Rat) / d) (hM : d ∣ M) (hn : n.natAbs ≤ c * d.natAbs) : Fit M c x := by
  have xd := den_pos x
  have dq := cast_ne (x := d) (by omega)
  have xq := cast_ne (x := (x.den : Int)) (by omega)
  have k : x.num * d = n * (x.den : Int) := by
    have h1 := rat_cast x
    rw [e] at h1
    have h2 : (x.num : Rat) * d = n * ((x.den : Int) : Rat) := by
      rw [← e] at h1
      have : (x.num : Rat) = x * ((x.den : Int) : Rat) := by
        conv => rhs; lhs; rw [← rat_cast x]
        grind
      rw [this, e]
      grind
    rw [← Rat.intCast_mul, ← Rat.intCast_mul] at h2
    exact Rat.intCast_inj.mp h2
  have hco : Nat.gcd x.num.natAbs x.den = 1 := x.reduced
  have dv : (x.den : Int) ∣ d := by
    have h3 : (x.den : Int) ∣ x.num * d := ⟨n, by rw [k, Int.mul_comm]⟩
    have h4 : x.den ∣ x.num.natAbs * d.natAbs := by
      have := Int.natAbs_dvd_natAbs.mpr h3
      rwa [Int.natAbs_mul, Int.natAbs_natCast] at this
    have h5 : x.den ∣ d.natAbs := (Nat.Coprime.dvd_of_dvd_mul_left (Nat.Coprime.symm hco) h4)
    exact Int.ofNat_dvd_left.mpr h5
  refine ⟨Int.dvd_trans dv hM, ?_⟩
  have k2 : x.num.natAbs * d.natAbs = n.natAbs * x.den := by
    have := congrArg Int.natAbs k
    rwa [Int.natAbs_mul, Int.natAbs_mul, Int.natAbs_natCast] at this
  have d0 : 0 < d.natAbs := by omega
  refine Nat.le_of_mul_le_mul_right ?_ d0
  rw [k2]
  calc n.natAbs * x.den ≤ c * d.natAbs * x.den := Nat.mul_le_mul_right _ hn
    _ = c * x.den * d.natAbs := by rw [Nat.mul_assoc, Nat.mul_assoc, Nat.mul_comm d.natAbs]
theorem Fit.zero (M : Int) : Fit M 0 0 := ⟨⟨M, by show M = ((1 : Nat) : Int) * M; rw [Int.natCast_one, Int.one_mul]⟩, Nat.zero_le _⟩
theorem Fit.mul {M M' : Int} {c c' : Nat} {x y : Rat} (h : Fit M c x) (g : Fit M' c' y) : Fit (M * M') (c * c') (x * y) := by
  have d1 := den_pos x
  have d2 := den_pos y
  refine fit_of (n := x.num * y.num) (d := (x.den : Int) * (y.den : Int)) (Int.mul_pos d1 d2) ?_ (Int.mul_dvd_mul h.d g.d) ?_
  · rw [Rat.intCast_mul, Rat.intCast_mul]
    have a := rat_cast x
    have b := rat_cast y
    have q1 := cast_ne (x := (x.den : Int)) (by omega)
    have q2 := cast_ne (x := (y.den : Int)) (by omega)
    conv => lhs; rw [← a, ← b]
    grind
  · rw [Int.natAbs_mul, Int.natAbs_mul, Int.natAbs_natCast, Int.natAbs_natCast]
    calc x.num.natAbs * y.num.natAbs ≤ (c * x.den) * (c' * y.den) := Nat.mul_le_mul h.n g.n
      _ = c * c' * (x.den * y.den) := by rw [Nat.mul_assoc, Nat.mul_assoc, Nat.mul_left_comm x.den]
/-- over the multiple itself -/
theorem Fit.over {M : Int} {c : Nat} {x : Rat} (h : Fit M c x) (hM : 0 < M) : ∃ t : Int, x = (t : Rat) / M ∧ t.natAbs ≤ c * M.natAbs := by
  have xd := den_pos x
  obtain ⟨m, hm⟩ := h.d
  refine ⟨x.num * m, ?_, ?_⟩
  · have a := rat_cast x
    have q1 := cast_ne (x := (x.den : Int)) (by omega)
    have q2 : (m : Rat) ≠ 0 := cast_ne (fun e => by rw [e, Int.mul_zero] at hm; omega)
    conv => lhs; rw [← a]
    rw [hm, Rat.intCast_mul, Rat.intCast_mul]
    grind
  · rw [Int.natAbs_mul]
    have e : M.natAbs = x.den * m.natAbs := by
      have := congrArg Int.natAbs hm
      rwa [Int.natAbs_mul, Int.natAbs_natCast] at this
    rw [e, ← Nat.mul_assoc]
    exact Nat.mul_le_mul_right _ h.n
theorem Fit.add {M : Int} {c c' : Nat} {x y : Rat} (h : Fit M c x) (g : Fit M c' y) (hM : 0 < M) : Fit M (c + c') (x + y) := by
  obtain ⟨t, ex, ht⟩ := h.over hM
  obtain ⟨u, ey, hu⟩ := g.over hM
  refine fit_of (n := t + u) (d := M) hM ?_ (Int.dvd_refl _) ?_
  · rw [ex, ey, Rat.intCast_add]
    have := cast_ne (x := M) (by omega)
    grind
  · have := Int.natAbs_add_le t u
    rw [Nat.add_mul]
    omega
theorem fit_sum {M : Int} {c : Nat} (hM : 0 < M) : ∀ {xs : List Rat}, (∀ x ∈ xs, Fit M c x) → Fit M (xs.length * c) (sumQ xs)
  | [], _ => by rw [List.length_nil, Nat.zero_mul]; exact Fit.zero M
  | x :: xs, h => by
    rw [List.length_cons, Nat.succ_mul, Nat.add_comm]
    exact (h x List.mem_cons_self).add (fit_sum hM fun y hy => h y (List.mem_cons_of_mem _ hy)) hM
/-- a bound told as an order of fractions -/
theorem fit_abs {M : Int} {c c' : Nat} {x : Rat} (h : Fit M c x) (h0 : 0 ≤ x) (h1 : x ≤ (c' : Rat)) : Fit M c' x := by
  refine ⟨h.d, ?_⟩
  have xd := den_pos x
  have n0 : 0 ≤ x.num := Rat.num_nonneg.mpr h0
  have := (Rat.le_iff x (c' : Rat)).mp h1
  rw [Rat.num_natCast, Rat.den_natCast] at this
  have e : ((x.num.natAbs : Nat) : Int) ≤ (c' : Int) * (x.den : Int) := by omega
  exact_mod_cast e
end C
end DL

namespace DL
namespace C
open PySem L2
local macro_rules | `(tactic| walk_at "look") => `(tactic| first
  | assumption
  | exact put_same
  | (refine look_ne (by first | assumption | exact Ne.symm (by assumption)) ?_; walk_at "look")
  | (refine look_new (by assumption) ?_; walk_at "look"))
local macro_rules | `(tactic| walk_at "side") => `(tactic| first | assumption | exact trivial | decide | omega | exact ⟨by assumption, by assumption⟩ | exact ⟨by omega, by omega⟩ | exact ⟨by decide, by decide⟩ | exact ⟨by decide, by decide, by decide⟩ | (exact .inl (.inl ⟨by decide, by decide⟩)) | (exact .inl (.inr ⟨by decide, by decide⟩)) | (exact .inl (.inl ⟨by omega, by omega⟩)) | (exact .inl (.inr ⟨by omega, by omega⟩)))
local macro_rules | `(tactic| walk_at "opt") => `(tactic| first | (with_reducible exact atI_0 _ _) | (with_reducible exact atI_1 _ _ _) | (with_reducible exact atI_2 _ _ _ _) | (with_reducible exact atI_3 _ _ _ _ _) | (with_reducible exact atI_4 _ _ _ _ _ _) | assumption | exact atI_0 _ _ | exact atI_1 _ _ _ | exact atI_2 _ _ _ _ | exact atI_3 _ _ _ _ _ | exact atI_4 _ _ _ _ _ _ | exact boolsOf_map _ | exact intsOf_map _ | exact rfl)
local macro_rules | `(tactic| walk_at "s1") => `(tactic| first
  | ((with_reducible refine' s_var ?k1 ?_); (case k1 => exact rfl))
  | with_reducible refine s_bin ?_
  | with_reducible refine s_c ?_
  | with_reducible refine s_seqM ?_
  | with_reducible refine s_asB ?_
  | with_reducible refine s_asI ?_
  | with_reducible refine s_asRI ?_
  | with_reducible refine s_acons ?_
  | with_reducible refine s_anil ?_
  | with_reducible refine s_call ?_
  | with_reducible refine s_cb ?_
  | with_reducible refine s_set ?_
  | with_reducible refine s_ixT ?_
  | with_reducible refine s_ixL ?_
  | with_reducible refine s_ixS ?_
  | ((with_reducible refine' s_getL ?k1 ?_); (case k1 => walk_at "look"))
  | ((with_reducible refine' s_opt ?k1 ?_); (case k1 => walk_at "opt"))
  | with_reducible refine s_binT ?_
  | with_reducible refine s_tup ?_
  | with_reducible refine s_tpT ?_
  | with_reducible refine s_key ?_
  | with_reducible refine s_kII ?_
  | with_reducible refine s_kIII ?_
  | with_reducible refine s_dget ?_
  | ((with_reducible refine' s_atT ?k1 ?_); (case k1 => walk_at "look"))
  | ((with_reducible refine' s_atTl ?k1 ?_); (case k1 => walk_at "look"))
  | ((with_reducible refine' s_got ?k1 ?_); (case k1 => assumption))
  | with_reducible refine s_din ?_
  | with_reducible refine s_dinT ?_
  | with_reducible refine s_dgetor ?_
  | with_reducible refine s_dput ?_
  | with_reducible refine s_dnewT ?_
  | with_reducible refine s_disp1 ?_
  | with_reducible refine s_keys ?_
  | with_reducible refine s_ixK0 ?_
  | with_reducible refine s_ixK1 ?_
  | with_reducible refine s_bTK ?_
  | with_reducible refine s_gTK ?_
  | with_reducible refine s_lst ?_
  | with_reducible refine s_ret ?_
  | with_reducible refine s_if ?_
  | with_reducible refine s_nextM ?_
  | with_reducible refine s_drop ?_
  | with_reducible refine s_par ?_
  | with_reducible refine s_asg ?_
  | with_reducible refine s_gN ?_
  | ((with_reducible refine' s_gT ?k1 ?_); (case k1 => exact rfl))
  | with_reducible refine s_gsC ?_
  | with_reducible refine s_gsN ?_
  | with_reducible refine s_gIx ?_
  | with_reducible refine s_setD ?_
  | with_reducible refine s_for ?_
  | with_reducible refine s_b ?_
  | with_reducible refine s_and ?_
  | with_reducible refine s_or ?_
  | with_reducible refine s_not ?_
  | with_reducible refine s_ife ?_
  | with_reducible refine s_neg ?_
  | with_reducible refine s_notV ?_
  | with_reducible refine s_andV ?_
  | with_reducible refine s_orV ?_
  | with_reducible refine s_isi ?_
  | with_reducible refine s_m ?_
  | with_reducible refine s_none ?_
  | with_reducible refine s_noneT ?_
  | with_reducible refine s_sl ?_
  | with_reducible refine s_oN ?_
  | with_reducible refine s_oS ?_
  | with_reducible refine s_lc ?_
  | with_reducible refine s_bN ?_
  | with_reducible refine s_bT ?_
  | with_reducible refine s_bTC ?_
  | with_reducible refine s_bTN ?_
  | with_reducible refine s_it ?_
  | with_reducible refine s_rng ?_
  | with_reducible refine s_zip ?_
  | with_reducible refine s_zip2 ?_
  | with_reducible refine s_enum ?_
  | with_reducible refine s_enum1 ?_
  | with_reducible refine s_yes ?_
  | with_reducible refine s_cT ?_
  | with_reducible refine s_cF ?_
  | with_reducible refine s_retN ?_
  | with_reducible refine s_try ?_
  | with_reducible refine s_raise0 ?_
  | with_reducible refine s_raise1 ?_
  | with_reducible refine s_isE ?_
  | with_reducible refine s_fld ?_
  | with_reducible refine s_brk ?_
  | with_reducible refine s_cnt ?_
  | ((with_reducible refine' s_aug ?k1 ?_); (case k1 => exact rfl))
  | with_reducible refine s_augix ?_
  | with_reducible refine s_addI ?_
  | ((with_reducible refine' s_addT ?k1 ?_); (case k1 => walk_at "side"))
  | ((with_reducible refine' s_addS ?k1 ?_); (case k1 => walk_at "side"))
  | with_reducible refine s_catL ?_
  | with_reducible refine s_subI ?_
  | ((with_reducible refine' s_mulI ?k1 ?_); (case k1 => walk_at "side"))
  | ((with_reducible refine' s_divI ?k1 ?_); (case k1 => walk_at "side"))
  | ((with_reducible refine' s_modI ?k1 ?_); (case k1 => walk_at "side"))
  | ((with_reducible refine' s_powI ?k1 ?_); (case k1 => walk_at "side"))
  | ((with_reducible refine' s_shlI ?k1 ?_); (case k1 => walk_at "side"))
  | with_reducible refine s_iaddI ?_
  | ((with_reducible refine' s_iaddS ?k1 ?_); (case k1 => walk_at "side"))
  | with_reducible refine s_eqI ?_
  | with_reducible refine s_neI ?_
  | with_reducible refine s_eqS ?_
  | with_reducible refine s_neS ?_
  | with_reducible refine s_eqB ?_
  | with_reducible refine s_neB ?_
  | with_reducible refine s_cmp ?_
  | ((with_reducible refine' s_ixX ?k1 ?_); (case k1 => walk_at "side"))
  | with_reducible refine s_lenT ?_
  | with_reducible refine s_lenL ?_
  | with_reducible refine s_lenC ?_
  | ((with_reducible refine' s_lenS ?k1 ?_); (case k1 => walk_at "side"))
  | with_reducible refine s_abs ?_
  | with_reducible refine s_intI ?_
  | with_reducible refine s_intB ?_
  | with_reducible refine s_gcd ?_
  | with_reducible refine s_listT ?_
  | with_reducible refine s_listL ?_
  | with_reducible refine s_tupT ?_
  | with_reducible refine s_tupL ?_
  | with_reducible refine s_all ?_
  | with_reducible refine s_any ?_
  | with_reducible refine s_sum ?_
  | with_reducible refine s_sumAT ?_
  | with_reducible refine s_sumAL ?_
  | with_reducible refine s_cnT ?_
  | with_reducible refine s_cnF ?_
  | with_reducible refine s_par3 ?_
  | with_reducible refine s_max2 ?_
  | with_reducible refine s_min2 ?_
  | with_reducible refine s_chain ?_
  | with_reducible refine s_chainT ?_
  | with_reducible refine s_inL ?_
  | with_reducible refine s_inT ?_
  | with_reducible refine s_append ?_
  | with_reducible refine s_extend ?_
  | with_reducible refine s_popAt ?_
  | with_reducible refine s_pop ?_
  | with_reducible refine s_slT ?_
  | with_reducible refine s_slL ?_
  | with_reducible refine s_itT ?_
  | with_reducible refine s_itL ?_
  | with_reducible refine s_itC ?_
  | ((with_reducible refine' s_rng1 ?k1 ?_); (case k1 => walk_at "side"))
  | ((with_reducible refine' s_rng2 ?k1 ?_); (case k1 => walk_at "side"))
  | ((with_reducible refine' s_rngD ?k1 ?_); (case k1 => walk_at "side"))
  | ((with_reducible refine' And.intro (s_isDT ?k1) ?_); (case k1 => walk_at "look"))
  | ((with_reducible refine' s_isLst ?k1 ?_); (case k1 => walk_at "look"))
  | ((with_reducible refine' s_lstOkL ?k1 ?_); (case k1 => walk_at "look"))
  | ((with_reducible refine' And.intro ?k1 ?_); (case k1 => walk_at "side")))
local macro_rules | `(tactic| walk_at "s") => `(tactic| repeat (walk_at "s1"))
theorem lcm_step {b d g y M : Int} (hg : ((Nat.gcd b.natAbs d.natAbs : Nat) : Int) = g) (g0 : 0 < g) (hy : d = g * y) (hb : b ∣ M) (hd : d ∣ M) : b * y ∣ M := by
  have h1 := Nat.lcm_dvd (Int.natAbs_dvd_natAbs.mpr hb) (Int.natAbs_dvd_natAbs.mpr hd)
  have h2 := Nat.gcd_mul_lcm b.natAbs d.natAbs
  have e1 : Nat.gcd b.natAbs d.natAbs = g.natAbs := by omega
  have e2 : d.natAbs = g.natAbs * y.natAbs := by rw [hy, Int.natAbs_mul]
  rw [e1] at h2
  have h3 : Nat.lcm b.natAbs d.natAbs = b.natAbs * y.natAbs := by
    refine Nat.eq_of_mul_eq_mul_left (show 0 < g.natAbs by omega) ?_
    rw [h2]
    conv => lhs; rw [e2]
    rw [Nat.mul_left_comm]
  rw [h3, ← Int.natAbs_mul] at h1
  exact Int.natAbs_dvd_natAbs.mp h1
theorem Bt.dvd {m : Nat} {b M : Int} (h : Bt m M) (d : b ∣ M) (hM : 0 < M) : Bt m b := h.of_le (Nat.le_of_dvd (by omega) (Int.natAbs_dvd_natAbs.mpr d))
structure SumOk (M : Int) (c m e : Nat) (xs : List Rat) : Prop where
  M0 : 0 < M
  bM : Bt m M
  f : ∀ x ∈ xs, Fit M c x
  l : xs.length * c ≤ 2 ^ e
  z : m + e ≤ 8900
theorem SumOk.bx {M : Int} {c m e : Nat} {xs : List Rat} (h : SumOk M c m e xs) {x : Rat} (hx : x ∈ xs) : Bits (m + e) x := by
  refine (h.f x hx).bits h.M0 h.bM (Nat.le_trans ?_ h.l)
  exact Nat.le_mul_of_pos_left _ (List.length_pos_of_mem hx)
def spSumM : SpD := fun ds st R _ => ∃ (row : D) (xs : List Rat) (M : Int) (c m e : Nat), ds = [row] ∧ RowAt st row (xs.map qD) ∧ SumOk M c m e xs ∧ R (qD (sumQ xs)) st
theorem len_sumM : ∀ ds st R Rx, spSumM ds st R Rx → ds.length = 1 := by
  rintro ds st R Rx ⟨_, _, _, _, _, _, rfl, -⟩; rfl
theorem bt_cap {m e k : Nat} {t b M : Int} (ht : t.natAbs ≤ k * b.natAbs) (hb : b.natAbs ≤ M.natAbs) (hk : k ≤ 2 ^ e) (bM : Bt m M) : Bt (m + e) t := by
  unfold Bt at *
  rw [Nat.pow_add, Nat.mul_comm]
  exact Nat.lt_of_le_of_lt (Nat.le_trans ht (Nat.mul_le_mul hk hb)) (Nat.mul_lt_mul_of_pos_left bM (Nat.two_pow_pos _))
theorem read_sumM : ∀ ds st R Rx, spSumM ds st R Rx → wb_law_sum spGcd spFrac (bodyEd R Rx) (startD 6 ds) st := by
  rintro ds st R Rx ⟨row, xs, M, c, m, e0, rfl, hrow, ok, kk⟩
  have hz := ok.z
  unfold wb_law_sum bodyEd
  walk_at "s"
  refine s_itRow hrow fun G hG => ?_
  refine for_pre qD xs (fun pre ep T => ∃ (t b : Int) (x3 x4 x5 : Option D), 0 < b ∧ b ∣ M ∧ t.natAbs ≤ pre.length * c * b.natAbs ∧ (t : Rat) / b = sumQ pre ∧ ep = [some row, some (.int t), some (.int b), x3, x4, x5] ∧ T = st) ?_ ?_
    ⟨0, 1, none, none, none, by decide, Int.one_dvd _, by rw [List.length_nil, Nat.zero_mul, Nat.zero_mul]; exact Nat.le_refl _, by show _ = (0 : Rat); grind, rfl, rfl⟩
  · rintro ep T ⟨t, b, x3, x4, x5, b0, bM, ht, hv, rfl, rfl⟩
    refine ⟨hG, ?_⟩
    have bb := ok.bM.dvd bM ok.M0
    walk_at "s"
    refine ⟨_, _, rfl, by omega, bb.log9 (by omega), frac_rat (by omega) fun z ez z1 z2 => ?_⟩
    have e : z = sumQ xs := by rw [ez]; exact hv
    rw [e]
    exact s_end kk
  · rintro K pre a r ep T e ⟨t, b, x3, x4, x5, b0, bM, ht, hv, rfl, rfl⟩ ih
    refine ⟨hG, ?_⟩
    have ha : a ∈ xs := by rw [e]; exact List.mem_append_right _ List.mem_cons_self
    have fa := ok.f a ha
    have ba := ok.bx ha
    have sd := den_pos a
    have hlen : pre.length + 1 ≤ xs.length := by rw [e, List.length_append, List.length_cons]; omega
    have hc1 : pre.length * c ≤ 2 ^ e0 := Nat.le_trans (Nat.mul_le_mul_right _ (by omega)) ok.l
    have bb := ok.bM.dvd bM ok.M0
    have bt := bt_cap ht (Nat.le_of_dvd (by have := ok.M0; omega) (Int.natAbs_dvd_natAbs.mpr bM)) hc1 ok.bM
    obtain ⟨g, x, y, hg, g0, hx, hy, q1, q2, y0, lx, ly⟩ := gcd_parts (n := b) (d := (a.den : Int)) sd
    have x0 : 0 < x := by rw [hx] at b0; exact Int.pos_of_mul_pos_right b0 (by omega)
    have bx : Bt m x := bb.of_le lx
    have by' : Bt (m + e0) y := ba.d.of_le ly
    have gs : 0 < g ∧ g.natAbs.log2 < 9000 := by
      have := gcd_side (n := b) (d := (a.den : Int)) (by omega) (ba.d.log9 (by omega))
      rwa [hg] at this
    have bM2 := lcm_step hg g0 hy bM fa.d
    unfold qD
    walk_at "s"
    refine ⟨_, _, rfl, ?_⟩
    rw [hg]
    walk_at "s"
    rw [q2]
    refine s_mulI (bt.ok by' (by omega)) ?_
    walk_at "s"
    rw [q1]
    refine s_mulI (ba.n.ok bx (by omega)) ?_
    walk_at "s"
    rw [q2]
    refine s_mulI (bb.ok by' (by omega)) ?_
    walk_at "s"
    refine ih _ _ ⟨_, _, _, _, _, Int.mul_pos b0 y0, bM2, ?_, ?_, rfl, rfl⟩
    · rw [List.length_append, List.length_singleton, Nat.succ_mul, Nat.add_mul]
      refine Nat.le_trans (Int.natAbs_add_le _ _) (Nat.add_le_add ?_ ?_)
      · rw [Int.natAbs_mul, Int.natAbs_mul, ← Nat.mul_assoc]
        exact Nat.mul_le_mul_right _ ht
      · rw [Int.natAbs_mul, Int.natAbs_mul]
        have e5 : b.natAbs * y.natAbs = a.den * x.natAbs := by
          have h1 : b.natAbs = g.natAbs * x.natAbs := by rw [hx, Int.natAbs_mul]
          have h2 : a.den = g.natAbs * y.natAbs := by rw [← Int.natAbs_mul, ← hy]; omega
          rw [h1, h2]
          simp only [Nat.mul_assoc, Nat.mul_comm, Nat.mul_left_comm]
        rw [e5, ← Nat.mul_assoc]
        exact Nat.mul_le_mul_right _ fa.n
    · rw [sumQ_append, sumQ_one, ← hv]
      conv => rhs; rhs; rw [← rat_cast a]
      conv => rhs; rw [hx, hy]
      conv => lhs; rw [hx]
      rw [Rat.intCast_add, Rat.intCast_mul, Rat.intCast_mul, Rat.intCast_mul, Rat.intCast_mul, Rat.intCast_mul]
      exact f_sum (cast_ne (x := g) (by omega)) (cast_ne (x := x) (by omega)) (cast_ne (x := y) (by omega))
def spSharedM : SpD := fun ds st R _ => ∃ (row : D) (xs : List Rat) (M : Int) (c m e : Nat), ds = [row] ∧ RowAt st row (xs.map qD) ∧ SumOk M c m e xs ∧ xs.length ≤ 1000000 ∧ ∀ L, 0 < L → L ∣ M → (∀ x ∈ xs, (x.den : Int) ∣ L) → R (.tup [.tup ((topsOf xs L).map D.int), .int L]) st
theorem len_sharedM : ∀ ds st R Rx, spSharedM ds st R Rx → ds.length = 1 := by
  rintro ds st R Rx ⟨_, _, _, _, _, _, rfl, -⟩; rfl
theorem read_sharedM : ∀ ds st R Rx, spSharedM ds st R Rx → wb_shared (bodyEd R Rx) (startD 4 ds) st := by
  rintro ds st R Rx ⟨row, xs, M, c, m, e0, rfl, hrow, ok, hl, kk⟩
  have hz := ok.z
  unfold wb_shared bodyEd
  walk_at "s"
  refine s_itRow hrow fun G hG => ?_
  refine for_pre qD xs (fun pre ep T => ∃ (b : Int) (x3 x4 : Option D), 0 < b ∧ b ∣ M ∧ (∀ x ∈ pre, (x.den : Int) ∣ b) ∧ ep = [some row, some (.int b), x3, x4] ∧ T = st) ?_ ?_ ⟨1, none, none, by decide, Int.one_dvd _, fun x hx => by (cases hx), rfl, rfl⟩
  · rintro ep T ⟨b, x3, x4, b0, bM, hd, rfl, rfl⟩
    refine ⟨hG, ?_⟩
    have bb := ok.bM.dvd bM ok.M0
    walk_at "s"
    refine s_itRow hrow fun G hG => ?_
    refine lc_pre qD xs (fun p2 acc T2 => acc = (topsOf p2 b).map D.int ∧ T2 = T) ?_ ?_ ⟨rfl, rfl⟩
    · rintro acc T2 ⟨rfl, rfl⟩
      refine ⟨hG, ?_⟩
      intro u hu
      walk_at "s"
      exact s_endS (Sub.put_new hu) (kk b b0 bM hd)
    · rintro K pre a r acc T2 e ⟨rfl, rfl⟩ ih
      refine ⟨hG, ?_⟩
      have ha : a ∈ xs := by rw [e]; exact List.mem_append_right _ List.mem_cons_self
      have ba := ok.bx ha
      have sd := den_pos a
      have hlen : pre.length + 1 ≤ xs.length := by rw [e, List.length_append, List.length_cons]; omega
      have bq : Bt m (b / (a.den : Int)) := bb.of_le (Int.natAbs_ediv_le_natAbs _ _)
      have sdd : 0 < (a.den : Int) ∧ ((a.den : Int)).natAbs.log2 < 9000 := ⟨sd, ba.d.log9 (by omega)⟩
      have mm : MulOk a.num (b / (a.den : Int)) := ba.n.ok bq (by omega)
      unfold qD
      walk_at "s"
      refine ⟨by rw [List.length_map, topsOf, List.length_map]; show _ < 2 ^ 24; omega, ?_⟩
      exact ih _ _ ⟨by rw [topsOf, topsOf, List.map_append, List.map_append]; rfl, rfl⟩
  · rintro K pre a r ep T e ⟨b, x3, x4, b0, bM, hd, rfl, rfl⟩ ih
    refine ⟨hG, ?_⟩
    have ha : a ∈ xs := by rw [e]; exact List.mem_append_right _ List.mem_cons_self
    have fa := ok.f a ha
    have ba := ok.bx ha
    have sd := den_pos a
    have bb := ok.bM.dvd bM ok.M0
    obtain ⟨g, x, y, hg, g0, hx, hy, q1, q2, y0, lx, ly⟩ := gcd_parts (n := b) (d := (a.den : Int)) sd
    have x0 : 0 < x := by rw [hx] at b0; exact Int.pos_of_mul_pos_right b0 (by omega)
    have bx : Bt m x := bb.of_le lx
    have gs : 0 < g ∧ g.natAbs.log2 < 9000 := by
      have := gcd_side (n := b) (d := (a.den : Int)) (by omega) (ba.d.log9 (by omega))
      rwa [hg] at this
    have bM2 := lcm_step hg g0 hy bM fa.d
    unfold qD
    walk_at "s"
    rw [hg]
    walk_at "s"
    rw [q1]
    refine s_mulI (bx.ok ba.d (by omega)) ?_
    walk_at "s"
    have e5 : x * (a.den : Int) = b * y := by
      conv => rhs; rw [hx]
      conv => lhs; rw [hy]
      rw [Int.mul_assoc, Int.mul_left_comm]
    refine ih _ _ ⟨_, _, _, Int.mul_pos x0 sd, by rw [e5]; exact bM2, fun z hz => ?_, rfl, rfl⟩
    rcases List.mem_append.mp hz with hz | hz
    · rw [e5]; exact Int.dvd_mul_of_dvd_left (hd z hz)
    · rw [List.mem_singleton.mp hz]; exact Int.dvd_mul_left _ _
def spTotalM : SpD := fun ds st R _ => ∃ (row : D) (xs : List Rat) (M : Int) (c m e : Nat), ds = [row] ∧ RowAt st row (xs.map qD) ∧ SumOk M c m e xs ∧ xs.length ≤ 1000000 ∧ R (qD (sumQ xs)) st
theorem len_totalM : ∀ ds st R Rx, spTotalM ds st R Rx → ds.length = 1 := by
  rintro ds st R Rx ⟨_, _, _, _, _, _, rfl, -⟩; rfl
theorem read_totalM : ∀ ds st R Rx, spTotalM ds st R Rx → wb_total spSharedM spFrac (bodyEd R Rx) (startD 3 ds) st := by
  rintro ds st R Rx ⟨row, xs, M, c, m, e, rfl, hrow, ok, hl, kk⟩
  have hz := ok.z
  unfold wb_total bodyEd
  walk_at "s"
  refine ⟨row, xs, M, c, m, e, rfl, hrow, ok, hl, fun L L0 dL hd => ?_⟩
  walk_at "s"
  have bL := ok.bM.dvd dL ok.M0
  refine ⟨_, _, rfl, by omega, bL.log9 (by omega), frac_rat (by omega) fun z ez z1 z2 => ?_⟩
  have e : z = sumQ xs := by rw [ez]; exact tops_sum L0 hd
  rw [e]
  exact s_end kk
end C
end DL

namespace DL
namespace C
open PySem L2
/-! chances at pairs of a state and a node, in the order of a dict -/
abbrev Pt := Nat × Nat
abbrev Ch := List (Pt × Rat)
def keyN (p : Pt) : List Key := [.inl (p.1 : Int), .inl (p.2 : Int)]
theorem keyN_inj {p q : Pt} : keyN p = keyN q ↔ p = q := by
  constructor
  · intro h
    injection h with h1 h2
    injection h2 with h2 _
    injection h1 with h1
    injection h2 with h2
    exact Prod.ext (by omega) (by omega)
  · rintro rfl; rfl
def dictD (l : Ch) : List (List Key × D) := l.map fun p => (keyN p.1, qD p.2)
def getK (l : Ch) (k : Pt) : Option Rat := (l.find? fun p => decide (p.1 = k)).map fun p => p.2
def setK (l : Ch) (k : Pt) (v : Rat) : Ch := if (l.any fun p => decide (p.1 = k)) = true then l.map (fun p => if p.1 = k then (p.1, v) else p) else l ++ [(k, v)]
def addK (l : Ch) (k : Pt) (v : Rat) : Ch := setK l k ((getK l k).getD 0 + v)
def addAll (l cs : Ch) : Ch := cs.foldl (fun a c => addK a c.1 c.2) l
theorem getK_cons {p : Pt × Rat} {l : Ch} {k : Pt} : getK (p :: l) k = if p.1 = k then some p.2 else getK l k := by
  unfold getK
  rw [List.find?_cons]
  by_cases e : p.1 = k
  · rw [if_pos e, decide_eq_true e]; rfl
  · rw [if_neg e, decide_eq_false e]
theorem dictD_val (l : Ch) (k : Pt) : valD (dictD l) (keyN k) = (getK l k).map qD := by
  induction l with
  | nil => rfl
  | cons p l ih =>
    show valD ((keyN p.1, qD p.2) :: dictD l) (keyN k) = _
    rw [valD_cons, getK_cons]
    by_cases e : p.1 = k
    · rw [if_pos e, if_pos (keyN_inj.mpr e)]; rfl
    · rw [if_neg e, if_neg (fun z => e (keyN_inj.mp z)), ih]
theorem dictD_put (l : Ch) (k : Pt) (v : Rat) : putD (dictD l) (keyN k) (qD v) = dictD (setK l k v) := by
  unfold putD setK
  have e : ((dictD l).any fun p => decide (p.1 = keyN k)) = l.any fun p => decide (p.1 = k) := by
    unfold dictD
    rw [List.any_map]
    congr 1
    funext p
    exact decide_eq_decide.mpr keyN_inj
  rw [e]
  split
  · unfold dictD
    rw [List.map_map, List.map_map]
    refine List.map_congr_left fun p _ => ?_
    show (if keyN p.1 = keyN k then (keyN p.1, qD v) else (keyN p.1, qD p.2)) = _
    by_cases e : p.1 = k
    · rw [if_pos (keyN_inj.mpr e)]
      show _ = (keyN (if p.1 = k then (p.1, v) else p).1, qD (if p.1 = k then (p.1, v) else p).2)
      rw [if_pos e]
    · rw [if_neg (fun z => e (keyN_inj.mp z))]
      show _ = (keyN (if p.1 = k then (p.1, v) else p).1, qD (if p.1 = k then (p.1, v) else p).2)
      rw [if_neg e]
  · unfold dictD
    rw [List.map_append]; rfl
theorem dictD_len (l : Ch) : (dictD l).length = l.length := List.length_map _
def keys (l : Ch) : List Pt := l.map fun p => p.1
theorem getK_none {l : Ch} {k : Pt} (h : k ∉ keys l) : getK l k = none := by
  induction l with
  | nil => rfl
  | cons p l ih =>
    rw [getK_cons, if_neg (fun e => h (by rw [← e]; exact List.mem_cons_self)), ih fun m => h (List.mem_cons_of_mem _ m)]
theorem getK_some {l : Ch} {k : Pt} {v : Rat} (hn : (keys l).Nodup) (h : (k, v) ∈ l) : getK l k = some v := by
  induction l with
  | nil => cases h
  | cons p l ih =>
    rw [getK_cons]
    obtain ⟨h1, h2⟩ := List.nodup_cons.mp hn
    rcases List.mem_cons.mp h with rfl | h
    · rw [if_pos rfl]
    · rw [if_neg (fun e => h1 (List.mem_map.mpr ⟨_, h, e.symm⟩))]; exact ih h2 h
theorem getK_mem {l : Ch} {k : Pt} {v : Rat} (h : getK l k = some v) : (k, v) ∈ l := by
  induction l with
  | nil => cases h
  | cons p l ih =>
    rw [getK_cons] at h
    by_cases e : p.1 = k
    · rw [if_pos e] at h
      cases h
      rw [← e]
      exact List.mem_cons_self
    · rw [if_neg e] at h; exact List.mem_cons_of_mem _ (ih h)
theorem any_keys {l : Ch} {k : Pt} : (l.any fun p => decide (p.1 = k)) = true ↔ k ∈ keys l := by
  rw [List.any_eq_true]
  constructor
  · rintro ⟨p, hp, e⟩; exact List.mem_map.mpr ⟨p, hp, of_decide_eq_true e⟩
  · intro h
    obtain ⟨p, hp, e⟩ := List.mem_map.mp h
    exact ⟨p, hp, decide_eq_true e⟩
theorem keys_set (l : Ch) (k : Pt) (v : Rat) : keys (setK l k v) = if k ∈ keys l then keys l else keys l ++ [k] := by
  unfold setK
  by_cases h : k ∈ keys l
  · rw [if_pos (any_keys.mpr h), if_pos h]
    unfold keys
    rw [List.map_map]
    refine List.map_congr_left fun p _ => ?_
    show (if p.1 = k then (p.1, v) else p).1 = p.1
    split <;> rfl
  · rw [if_neg (fun z => h (any_keys.mp z)), if_neg h]
    unfold keys
    rw [List.map_append]; rfl
theorem nodup_set {l : Ch} (h : (keys l).Nodup) (k : Pt) (v : Rat) : (keys (setK l k v)).Nodup := by
  rw [keys_set]
  split
  · exact h
  · rename_i hk
    exact List.nodup_append.mpr ⟨h, List.nodup_cons.mpr ⟨List.not_mem_nil, .nil⟩, fun a ha b hb e => hk (by rw [List.mem_singleton.mp hb] at e; rw [← e]; exact ha)⟩
theorem mem_set {l : Ch} {k : Pt} {v : Rat} {p : Pt × Rat} (h : p ∈ setK l k v) : p ∈ l ∨ p = (k, v) := by
  unfold setK at h
  split at h
  · obtain ⟨q, hq, e⟩ := List.mem_map.mp h
    by_cases z : q.1 = k
    · rw [if_pos z] at e; exact .inr (by rw [← e, z])
    · rw [if_neg z] at e; exact .inl (by rw [← e]; exact hq)
  · rcases List.mem_append.mp h with h | h
    · exact .inl h
    · exact .inr (List.mem_singleton.mp h)
/-- the sum of all chances, each times f -/
def sumF (f : Pt → Rat) (l : Ch) : Rat := sumQ (l.map fun p => p.2 * f p.1)
theorem sumF_cons (f : Pt → Rat) (p : Pt × Rat) (l : Ch) : sumF f (p :: l) = p.2 * f p.1 + sumF f l := rfl
theorem sumF_append (f : Pt → Rat) (a b : Ch) : sumF f (a ++ b) = sumF f a + sumF f b := by
  unfold sumF; rw [List.map_append, sumQ_append]
theorem sumF_map {f : Pt → Rat} {k : Pt} {v : Rat} : ∀ {l : Ch}, (keys l).Nodup → k ∈ keys l → sumF f (l.map fun p => if p.1 = k then (p.1, v) else p) = sumF f l + (v - (getK l k).getD 0) * f k
  | [], _, h => by cases h
  | p :: l, hn, h => by
    obtain ⟨h1, h2⟩ := List.nodup_cons.mp hn
    rw [List.map_cons, sumF_cons, sumF_cons, getK_cons]
    by_cases e : p.1 = k
    · rw [if_pos e, if_pos e]
      have : (l.map fun p => if p.1 = k then (p.1, v) else p) = l := by
        conv => rhs; rw [← List.map_id l]
        refine List.map_congr_left fun q hq => ?_
        rw [if_neg (fun z => h1 (List.mem_map.mpr ⟨q, hq, z.trans e.symm⟩))]; rfl
      rw [this]
      show v * f p.1 + _ = _ + (v - p.2) * f k
      rw [e]
      grind
    · rw [if_neg e, if_neg e]
      have hk : k ∈ keys l := by
        rcases List.mem_cons.mp h with h | h
        · exact absurd h.symm e
        · exact h
      rw [sumF_map h2 hk]
      grind
theorem sumF_add {f : Pt → Rat} {l : Ch} {k : Pt} {v : Rat} (hn : (keys l).Nodup) : sumF f (addK l k v) = sumF f l + v * f k := by
  unfold addK setK
  by_cases h : k ∈ keys l
  · rw [if_pos (any_keys.mpr h), sumF_map hn h]
    grind
  · rw [if_neg (fun z => h (any_keys.mp z)), sumF_append, getK_none h]
    show _ + (((0 : Rat) + v) * f k + 0) = _
    grind
theorem nodup_all {l : Ch} (h : (keys l).Nodup) : ∀ {cs : Ch}, (keys (addAll l cs)).Nodup
  | [] => h
  | c :: cs => nodup_all (l := addK l c.1 c.2) (nodup_set h _ _) (cs := cs)
theorem sumF_all {f : Pt → Rat} {l : Ch} (h : (keys l).Nodup) : ∀ {cs : Ch}, sumF f (addAll l cs) = sumF f l + sumF f cs
  | [] => (Rat.add_zero _).symm
  | c :: cs => by
    show sumF f (addAll (addK l c.1 c.2) cs) = _
    rw [sumF_all (l := addK l c.1 c.2) (nodup_set h _ _), sumF_add h, sumF_cons]
    grind
theorem addAll_append (l a b : Ch) : addAll l (a ++ b) = addAll (addAll l a) b := List.foldl_append ..
theorem keys_all {l : Ch} : ∀ {cs : Ch} {k : Pt}, k ∈ keys (addAll l cs) → k ∈ keys l ∨ k ∈ keys cs
  | [], k, h => .inl h
  | c :: cs, k, h => by
    rcases keys_all (l := addK l c.1 c.2) h with h | h
    · unfold addK at h
      rw [keys_set] at h
      split at h
      · exact .inl h
      · rcases List.mem_append.mp h with h | h
        · exact .inl h
        · exact .inr (by rw [List.mem_singleton.mp h]; exact List.mem_cons_self)
    · exact .inr (List.mem_cons_of_mem _ h)
theorem keys_all_of {l : Ch} : ∀ {cs : Ch} {k : Pt}, k ∈ keys l ∨ k ∈ keys cs → k ∈ keys (addAll l cs)
  | [], k, h => h.elim id fun z => by cases z
  | c :: cs, k, h => by
    refine keys_all_of (l := addK l c.1 c.2) ?_
    have e := keys_set l c.1 ((getK l c.1).getD 0 + c.2)
    rcases h with h | h
    · left
      unfold addK
      rw [e]
      split
      · exact h
      · exact List.mem_append_left _ h
    · rcases List.mem_cons.mp h with h | h
      · left
        unfold addK
        rw [e]
        split
        · rename_i z; rw [h]; exact z
        · rw [h]; exact List.mem_append_right _ List.mem_cons_self
      · exact .inr h
/-- bounds: chances above zero over one multiple -/
structure ChOk (M : Int) (l : Ch) : Prop where
  nd : (keys l).Nodup
  f : ∀ p ∈ l, Fit M 1 p.2
  p : ∀ p ∈ l, 0 ≤ p.2
theorem sumF_nonneg {f : Pt → Rat} (hf : ∀ k, 0 ≤ f k) : ∀ {l : Ch}, (∀ p ∈ l, 0 ≤ p.2) → 0 ≤ sumF f l
  | [], _ => Rat.le_refl
  | p :: l, h => by
    rw [sumF_cons]
    exact Rat.add_nonneg (Rat.mul_nonneg (h p List.mem_cons_self) (hf _)) (sumF_nonneg hf fun q hq => h q (List.mem_cons_of_mem _ hq))
def one : Pt → Rat := fun _ => 1
theorem mem_le {l : Ch} (h : ∀ p ∈ l, 0 ≤ p.2) {p : Pt × Rat} (hp : p ∈ l) : p.2 ≤ sumF one l := by
  induction l with
  | nil => cases hp
  | cons q l ih =>
    rw [sumF_cons]
    have h1 := sumF_nonneg (f := one) (fun _ => by show (0 : Rat) ≤ 1; decide) (l := l) fun q hq => h q (List.mem_cons_of_mem _ hq)
    show _ ≤ q.2 * 1 + _
    rw [Rat.mul_one]
    rcases List.mem_cons.mp hp with rfl | hp
    · grind
    · have h2 := ih (fun q hq => h q (List.mem_cons_of_mem _ hq)) hp
      have h3 := h q List.mem_cons_self
      grind
theorem add_ok {M : Int} {l : Ch} {k : Pt} {v : Rat} (hM : 0 < M) (h : ChOk M l) (hv : 0 ≤ v) (fv : Fit M 1 v) (hs : sumF one l + v ≤ 1) : ChOk M (addK l k v) ∧ (getK l k).getD 0 + v ≤ 1 := by
  have h0 : 0 ≤ (getK l k).getD 0 := by
    cases e : getK l k with
    | none => exact Rat.le_refl
    | some x => exact h.p _ (getK_mem e)
  have f0 : Fit M 1 ((getK l k).getD 0) := by
    cases e : getK l k with
    | none => exact (Fit.zero M).mono (Int.dvd_refl _) (Nat.zero_le _)
    | some x => exact h.f _ (getK_mem e)
  have le1 : (getK l k).getD 0 + v ≤ 1 := by
    have : (getK l k).getD 0 ≤ sumF one l := by
      cases e : getK l k with
      | none => exact sumF_nonneg (fun _ => by show (0 : Rat) ≤ 1; decide) h.p
      | some x => exact mem_le h.p (getK_mem e)
    grind
  have hn := Rat.add_nonneg h0 hv
  refine ⟨⟨nodup_set h.nd _ _, fun p hp => ?_, fun p hp => ?_⟩, le1⟩
  · rcases mem_set hp with hp | rfl
    · exact h.f p hp
    · exact fit_abs (f0.add fv hM) hn le1
  · rcases mem_set hp with hp | rfl
    · exact h.p p hp
    · exact hn
theorem all_ok {M : Int} (hM : 0 < M) : ∀ {cs l : Ch}, ChOk M l → (∀ c ∈ cs, 0 ≤ c.2 ∧ Fit M 1 c.2) → sumF one l + sumF one cs ≤ 1 → ChOk M (addAll l cs)
  | [], l, h, _, _ => h
  | c :: cs, l, h, hc, hs => by
    obtain ⟨c0, c1⟩ := hc c List.mem_cons_self
    have hn := sumF_nonneg (f := one) (fun _ => by show (0 : Rat) ≤ 1; decide) (l := cs) fun q hq => (hc q (List.mem_cons_of_mem _ hq)).1
    rw [sumF_cons] at hs
    have e1 : c.2 * one c.1 = c.2 := Rat.mul_one _
    rw [e1] at hs
    refine all_ok hM (l := addK l c.1 c.2) (add_ok hM h c0 c1 (by grind)).1 (fun d hd => hc d (List.mem_cons_of_mem _ hd)) ?_
    rw [sumF_add h.nd]
    have e2 : c.2 * one c.1 = c.2 := Rat.mul_one _
    rw [e2]
    grind
end C
end DL

namespace DL
namespace C
open PySem L2
/-! a plan run forward, its mean told backward -/
abbrev Choice := List (List Int)
def pick (ch : Choice) (p : Pt) : Int := (ch.getD p.1 []).getD p.2 (-1)
def cnr (web : List (List (List Mv))) (n : Nat) (i : Int) : List Mv := (web.getD n []).getD i.toNat []
def goesTo (rows : List (List Nat)) (s : Nat) (m : Mv) : Pt := ((rows.getD s []).getD m.2.1 0, m.2.2)
section
variable (rows : List (List Nat)) (shows : List Rat) (web : List (List (List Mv)))
def contr (ch : Choice) (p : Pt × Rat) : Ch :=
  if pick ch p.1 < 0 then [] else (cnr web p.1.2 (pick ch p.1)).map fun m => (goesTo rows p.1.1 m, p.2 * ((m.1 : Rat) / (wsum (cnr web p.1.2 (pick ch p.1)) : Rat)))
def contrs (ch : Choice) (l : Ch) : Ch := l.flatMap (contr rows web ch)
def nextK (ch : Choice) (l : Ch) : Ch := addAll [] (contrs rows web ch l)
def stops (ch : Choice) (l : Ch) : List Rat := (l.filter fun p => decide (pick ch p.1 < 0)).map fun p => p.2 * shows.getD p.1.1 0
def runK : List Choice → Ch → List Ch
  | [], l => [l]
  | ch :: r, l => l :: runK r (nextK rows web ch l)
def partsK : List Choice → Ch → List Rat
  | [], l => l.map fun p => p.2 * shows.getD p.1.1 0
  | ch :: r, l => stops shows ch l ++ partsK r (nextK rows web ch l)
def backK : List Choice → Pt → Rat
  | [], p => shows.getD p.1 0
  | ch :: r, p => if pick ch p < 0 then shows.getD p.1 0 else sumQ ((cnr web p.2 (pick ch p)).map fun m => (m.1 : Rat) * backK r (goesTo rows p.1 m)) / (wsum (cnr web p.2 (pick ch p)) : Rat)
end
section
variable {rows : List (List Nat)} {shows : List Rat} {web : List (List (List Mv))}
theorem sumQ_mul (a : Rat) : ∀ l : List Rat, sumQ (l.map fun x => a * x) = a * sumQ l
  | [] => by show (0 : Rat) = a * 0; rw [Rat.mul_zero]
  | x :: l => by
    show a * x + sumQ (l.map fun x => a * x) = a * (x + sumQ l)
    rw [sumQ_mul a l, Rat.mul_add]
theorem sumF_contr (f : Pt → Rat) (ch : Choice) (p : Pt × Rat) (hp : ¬ pick ch p.1 < 0) : sumF f (contr rows web ch p) = p.2 * (sumQ ((cnr web p.1.2 (pick ch p.1)).map fun m => (m.1 : Rat) * f (goesTo rows p.1.1 m)) / (wsum (cnr web p.1.2 (pick ch p.1)) : Rat)) := by
  unfold contr sumF
  rw [if_neg hp, List.map_map]
  generalize cnr web p.1.2 (pick ch p.1) = c
  have e : ∀ c2 : List Mv, (c2.map ((fun q : Pt × Rat => q.2 * f q.1) ∘ fun m => (goesTo rows p.1.1 m, p.2 * ((m.1 : Rat) / (wsum c : Rat))))) = (c2.map fun m => (m.1 : Rat) * f (goesTo rows p.1.1 m)).map fun x => (p.2 / (wsum c : Rat)) * x := fun c2 => by
    rw [List.map_map]
    refine List.map_congr_left fun m _ => ?_
    show p.2 * ((m.1 : Rat) / (wsum c : Rat)) * f (goesTo rows p.1.1 m) = (p.2 / (wsum c : Rat)) * ((m.1 : Rat) * f (goesTo rows p.1.1 m))
    rw [Rat.div_def, Rat.div_def]
    grind
  rw [e, sumQ_mul, Rat.div_def, Rat.div_def]
  grind
theorem mean_step (ch : Choice) (r : List Choice) : ∀ l : Ch, sumQ (stops shows ch l) + sumF (backK rows shows web r) (contrs rows web ch l) = sumF (backK rows shows web (ch :: r)) l
  | [] => Rat.add_zero _
  | p :: l => by
    have ih := mean_step ch r l
    rw [sumF_cons, ← ih]
    show sumQ (stops shows ch (p :: l)) + sumF _ (contr rows web ch p ++ contrs rows web ch l) = _
    rw [sumF_append]
    by_cases hp : pick ch p.1 < 0
    · have e1 : stops shows ch (p :: l) = p.2 * shows.getD p.1.1 0 :: stops shows ch l := by
        unfold stops
        rw [List.filter_cons, decide_eq_true hp, if_pos rfl, List.map_cons]
      have e2 : contr rows web ch p = [] := by unfold contr; rw [if_pos hp]
      have e3 : backK rows shows web (ch :: r) p.1 = shows.getD p.1.1 0 := by unfold backK; rw [if_pos hp]
      rw [e1, e2, e3]
      show p.2 * shows.getD p.1.1 0 + sumQ (stops shows ch l) + (0 + _) = _
      grind
    · have e1 : stops shows ch (p :: l) = stops shows ch l := by
        unfold stops
        rw [List.filter_cons, decide_eq_false hp, if_neg (by decide)]
      have e3 : backK rows shows web (ch :: r) p.1 = sumQ ((cnr web p.1.2 (pick ch p.1)).map fun m => (m.1 : Rat) * backK rows shows web r (goesTo rows p.1.1 m)) / (wsum (cnr web p.1.2 (pick ch p.1)) : Rat) := by
        conv => lhs; unfold backK
        rw [if_neg hp]
      rw [e1, sumF_contr _ _ _ hp, ← e3]
      grind
/-- the mean of the run is the mean told backward -/
theorem mean_run : ∀ (plan : List Choice) (l : Ch), sumQ (partsK rows shows web plan l) = sumF (backK rows shows web plan) l
  | [], l => rfl
  | ch :: r, l => by
    show sumQ (stops shows ch l ++ partsK rows shows web r (nextK rows web ch l)) = _
    rw [sumQ_append, mean_run r]
    unfold nextK
    rw [sumF_all (l := []) .nil]
    show _ + ((0 : Rat) + _) = _
    rw [Rat.zero_add]
    exact mean_step ch r l
theorem mean_start (plan : List Choice) : sumQ (partsK rows shows web plan [((0, 0), 1)]) = backK rows shows web plan (0, 0) := by
  rw [mean_run, sumF_cons]
  show (1 : Rat) * _ + 0 = _
  rw [Rat.one_mul, Rat.add_zero]
/-! bounds -/
def prodI : List Int → Int
  | [] => 1
  | x :: l => x * prodI l
theorem prodI_pos : ∀ {l : List Int}, (∀ x ∈ l, 0 < x) → 0 < prodI l
  | [], _ => by decide
  | x :: l, h => Int.mul_pos (h x List.mem_cons_self) (prodI_pos fun y hy => h y (List.mem_cons_of_mem _ hy))
theorem prodI_dvd : ∀ {l : List Int} {x : Int}, x ∈ l → x ∣ prodI l
  | y :: l, x, h => by
    rcases List.mem_cons.mp h with rfl | h
    · exact Int.dvd_mul_right _ _
    · exact Int.dvd_mul_of_dvd_right (prodI_dvd h)
theorem prodI_bt {b : Nat} : ∀ {l : List Int}, (∀ x ∈ l, Bt b x) → Bt (1 + l.length * b) (prodI l)
  | [], _ => by show Bt (1 + 0 * b) 1; rw [Nat.zero_mul]; unfold Bt; decide
  | x :: l, h => by
    have := (h x List.mem_cons_self).mul (prodI_bt fun y hy => h y (List.mem_cons_of_mem _ hy))
    rw [List.length_cons, Nat.succ_mul]
    exact this.mono (by omega)
def webQ (web : List (List (List Mv))) : Int := prodI (web.flatten.map wsum)
/-- what a run wants of its web and plan: q bits of the web's multiple -/
structure Run (q letters states nodes : Nat) (rows : List (List Nat)) (shows : List Rat) (web : List (List (List Mv))) : Prop where
  g : GOk 3 letters states rows shows
  wl : web.length = nodes
  c : ∀ nd ∈ web, ∀ c ∈ nd, c ≠ [] ∧ c.length ≤ 64 ∧ ∀ v ∈ c, MvOk letters nodes v
  q : Bt q (webQ web)
  n0 : 0 < nodes
  n1 : nodes ≤ 64
def ChoiceOk (states nodes : Nat) (web : List (List (List Mv))) (ch : Choice) : Prop := ch.length = states ∧ ∀ r ∈ ch, r.length = nodes ∧ ∀ n, n < nodes → r.getD n (-1) < (web.getD n []).length ∧ -1 ≤ r.getD n (-1)
theorem getD_mem {α : Type} {l : List α} {i : Nat} {d : α} (h : i < l.length) : l.getD i d ∈ l := by
  rw [List.getD_eq_getElem?_getD, List.getElem?_eq_getElem h]
  exact List.getElem_mem h
section
variable {q letters states nodes : Nat} {ch : Choice}
theorem ChoiceOk.at (h : ChoiceOk states nodes web ch) {p : Pt} (h1 : p.1 < states) (h2 : p.2 < nodes) : pick ch p < (web.getD p.2 []).length ∧ -1 ≤ pick ch p := by
  exact (h.2 _ (getD_mem (d := []) (by rw [h.1]; exact h1))).2 p.2 h2
theorem Run.cn (h : Run q letters states nodes rows shows web) (hc : ChoiceOk states nodes web ch) {p : Pt} (h1 : p.1 < states) (h2 : p.2 < nodes) (hp : ¬ pick ch p < 0) :
    cnr web p.2 (pick ch p) ∈ web.getD p.2 [] ∧ web.getD p.2 [] ∈ web := by
  have a := (hc.at h1 h2).1
  exact ⟨getD_mem (by omega), getD_mem (by rw [h.wl]; exact h2)⟩
theorem Run.pos (h : Run q letters states nodes rows shows web) : 0 < webQ web := by
  refine prodI_pos fun x hx => ?_
  obtain ⟨c, hc, rfl⟩ := List.mem_map.mp hx
  obtain ⟨nd, hn, hc⟩ := List.mem_flatten.mp hc
  obtain ⟨a, _, b⟩ := h.c nd hn c hc
  exact wsum_pos a b
theorem webQ_dvd {nd : List (List Mv)} {c : List Mv} (h1 : nd ∈ web) (h2 : c ∈ nd) : wsum c ∣ webQ web := prodI_dvd (List.mem_map.mpr ⟨c, List.mem_flatten.mpr ⟨nd, h1, h2⟩, rfl⟩)
theorem wq_fit {c : List Mv} (hne : c ≠ []) (hc : ∀ v ∈ c, MvOk letters nodes v) (hd : wsum c ∣ webQ web) {m : Mv} (hm : m ∈ c) : Fit (webQ web) 1 ((m.1 : Rat) / (wsum c : Rat)) ∧ 0 ≤ ((m.1 : Rat) / (wsum c : Rat)) := by
  have w0 := wsum_pos hne hc
  have m0 := (hc m hm).w0
  have le : ∀ {c : List Mv}, (∀ v ∈ c, MvOk letters nodes v) → ∀ m ∈ c, m.1 ≤ wsum c := by
    intro c
    induction c with
    | nil => intro _ m h; cases h
    | cons a c ih =>
      intro h m hm
      have h0 := (h a List.mem_cons_self).w0
      have hn : 0 ≤ wsum c := by
        clear ih hm
        induction c with
        | nil => exact Int.le_refl 0
        | cons b c ih =>
          have := ih fun v hv => h v (by rcases List.mem_cons.mp hv with rfl | hv; exact List.mem_cons_self; exact List.mem_cons_of_mem _ (List.mem_cons_of_mem _ hv))
          have := (h b (List.mem_cons_of_mem _ List.mem_cons_self)).w0
          show 0 ≤ b.1 + wsum c
          omega
      show m.1 ≤ a.1 + wsum c
      rcases List.mem_cons.mp hm with rfl | hm
      · omega
      · have := ih (fun v hv => h v (List.mem_cons_of_mem _ hv)) m hm
        omega
  have := le hc m hm
  refine ⟨fit_of w0 rfl hd (by omega), ?_⟩
  rw [← Rat.divInt_eq_div]
  exact Rat.divInt_nonneg (by omega) (by omega)
theorem sumQ_cast : ∀ c : List Mv, sumQ (c.map fun m => (m.1 : Rat) * 1) = (wsum c : Rat)
  | [] => rfl
  | m :: c => by
    show (m.1 : Rat) * 1 + sumQ (c.map fun m => (m.1 : Rat) * 1) = ((m.1 + wsum c : Int) : Rat)
    rw [sumQ_cast c, Rat.intCast_add, Rat.mul_one]
/-- the chances at one moment: over M, at most 1 in all -/
structure Lev (M : Int) (S N : Nat) (l : Ch) : Prop where
  ok : ChOk M l
  s : sumF one l ≤ 1
  r : ∀ p ∈ l, p.1.1 < S ∧ p.1.2 < N
theorem contr_ok (h : Run q letters states nodes rows shows web) (hc : ChoiceOk states nodes web ch) {M : Int} {p : Pt × Rat} (h1 : p.1.1 < states) (h2 : p.1.2 < nodes) (h0 : 0 ≤ p.2) (hf : Fit M 1 p.2) :
    sumF one (contr rows web ch p) ≤ p.2 ∧ ∀ c ∈ contr rows web ch p, (0 ≤ c.2 ∧ Fit (M * webQ web) 1 c.2) ∧ c.1.1 < states ∧ c.1.2 < nodes := by
  by_cases hp : pick ch p.1 < 0
  · have e : contr rows web ch p = [] := by unfold contr; rw [if_pos hp]
    rw [e]
    exact ⟨h0, fun c hc => by cases hc⟩
  · obtain ⟨m1, m2⟩ := h.cn hc h1 h2 hp
    obtain ⟨ne, _, mv⟩ := h.c _ m2 _ m1
    have w0 := wsum_pos ne mv
    refine ⟨?_, fun c hc => ?_⟩
    · rw [sumF_contr one ch p hp]
      have e : ((cnr web p.1.2 (pick ch p.1)).map fun m => (m.1 : Rat) * one (goesTo rows p.1.1 m)) = (cnr web p.1.2 (pick ch p.1)).map fun m => (m.1 : Rat) * 1 := rfl
      rw [e, sumQ_cast]
      have := cast_ne (x := wsum (cnr web p.1.2 (pick ch p.1))) (by omega)
      have e2 : p.2 * ((wsum (cnr web p.1.2 (pick ch p.1)) : Rat) / (wsum (cnr web p.1.2 (pick ch p.1)) : Rat)) = p.2 := by grind
      rw [e2]
      exact Rat.le_refl
    · unfold contr at hc
      rw [if_neg hp] at hc
      obtain ⟨m, hm, rfl⟩ := List.mem_map.mp hc
      obtain ⟨f1, f2⟩ := wq_fit ne mv (webQ_dvd m2 m1) hm
      refine ⟨⟨Rat.mul_nonneg h0 f2, by simpa using hf.mul f1⟩, ?_, (mv m hm).a⟩
      have hr := h.g.r _ (getD_mem (d := []) (l := rows) (i := p.1.1) (by rw [h.g.rl]; exact h1))
      exact hr.2 _ (getD_mem (d := 0) (by rw [hr.1]; exact (mv m hm).l))
theorem contrs_ok (h : Run q letters states nodes rows shows web) (hc : ChoiceOk states nodes web ch) {M : Int} : ∀ {l : Ch}, (∀ p ∈ l, Fit M 1 p.2) → (∀ p ∈ l, 0 ≤ p.2) → (∀ p ∈ l, p.1.1 < states ∧ p.1.2 < nodes) →
    sumF one (contrs rows web ch l) ≤ sumF one l ∧ ∀ c ∈ contrs rows web ch l, (0 ≤ c.2 ∧ Fit (M * webQ web) 1 c.2) ∧ c.1.1 < states ∧ c.1.2 < nodes
  | [], _, _, _ => ⟨Rat.le_refl, fun c hc => by cases hc⟩
  | p :: l, h1, h2, h3 => by
    obtain ⟨a1, a2⟩ := contr_ok h hc (h3 p List.mem_cons_self).1 (h3 p List.mem_cons_self).2 (h2 p List.mem_cons_self) (h1 p List.mem_cons_self)
    obtain ⟨b1, b2⟩ := contrs_ok h hc (l := l) (fun p hp => h1 p (List.mem_cons_of_mem _ hp)) (fun p hp => h2 p (List.mem_cons_of_mem _ hp)) (fun p hp => h3 p (List.mem_cons_of_mem _ hp))
    refine ⟨?_, fun c hc => ?_⟩
    · show sumF one (contr rows web ch p ++ contrs rows web ch l) ≤ _
      rw [sumF_append, sumF_cons]
      have : p.2 * one p.1 = p.2 := Rat.mul_one _
      rw [this]
      grind
    · rcases List.mem_append.mp (show c ∈ contr rows web ch p ++ contrs rows web ch l from hc) with hc | hc
      · exact a2 c hc
      · exact b2 c hc
theorem Lev.pre (h : Run q letters states nodes rows shows web) (hc : ChoiceOk states nodes web ch) {M : Int} (hM : 0 < M) {l : Ch} (v : Lev M states nodes l) {cs rest : Ch} (e : cs ++ rest = contrs rows web ch l) :
    Lev (M * webQ web) states nodes (addAll [] cs) ∧ ∀ c r, rest = c :: r → (0 ≤ c.2 ∧ Fit (M * webQ web) 1 c.2) ∧ sumF one (addAll [] cs) + c.2 ≤ 1 := by
  obtain ⟨a1, a2⟩ := contrs_ok h hc v.ok.f v.ok.p v.r
  have hQ := Int.mul_pos hM h.pos
  have o0 : ∀ k, (0 : Rat) ≤ one k := fun _ => by show (0 : Rat) ≤ 1; decide
  have e1 : sumF one cs + sumF one rest ≤ 1 := by
    rw [← sumF_append, e]
    exact Rat.le_trans a1 v.s
  have r0 : 0 ≤ sumF one rest := sumF_nonneg o0 fun p hp => (a2 p (by rw [← e]; exact List.mem_append_right _ hp)).1.1
  have es : sumF one (addAll [] cs) = sumF one cs := by
    rw [sumF_all (l := []) .nil]
    exact Rat.zero_add _
  refine ⟨⟨all_ok hQ (l := []) ⟨.nil, fun p hp => by (cases hp), fun p hp => by (cases hp)⟩ (fun c hc => (a2 c (by rw [← e]; exact List.mem_append_left _ hc)).1) ?_, by rw [es]; grind, fun p hp => ?_⟩, fun c r er => ?_⟩
  · show (0 : Rat) + _ ≤ 1
    rw [Rat.zero_add]
    grind
  · rcases keys_all (l := []) (List.mem_map.mpr ⟨p, hp, rfl⟩) with z | z
    · cases z
    · obtain ⟨c, hc, ec⟩ := List.mem_map.mp z
      have := (a2 c (by rw [← e]; exact List.mem_append_left _ hc)).2
      rw [ec] at this
      exact this
  · have hc := a2 c (by rw [← e, er]; exact List.mem_append_right _ List.mem_cons_self)
    refine ⟨hc.1, ?_⟩
    rw [es]
    rw [er, sumF_cons] at e1
    have o1 : c.2 * one c.1 = c.2 := Rat.mul_one _
    have r1 : 0 ≤ sumF one r := sumF_nonneg o0 fun p hp => (a2 p (by rw [← e, er]; exact List.mem_append_right _ (List.mem_cons_of_mem _ hp))).1.1
    rw [o1] at e1
    grind
theorem Lev.next (h : Run q letters states nodes rows shows web) (hc : ChoiceOk states nodes web ch) {M : Int} (hM : 0 < M) {l : Ch} (v : Lev M states nodes l) : Lev (M * webQ web) states nodes (nextK rows web ch l) :=
  (v.pre h hc hM (List.append_nil _)).1
theorem nat_nodup : ∀ (n : Nat) {l : List Nat}, l.Nodup → (∀ x ∈ l, x < n) → l.length ≤ n
  | 0, l, _, h => by
    cases l with
    | nil => exact Nat.le_refl _
    | cons x l => exact absurd (h x List.mem_cons_self) (Nat.not_lt_zero _)
  | n + 1, l, hn, h => by
    have h1 : (l.filter fun x => decide (x ≠ n)).length ≤ n := nat_nodup n (hn.filter _) fun x hx => by
      obtain ⟨a, b⟩ := List.mem_filter.mp hx
      have := h x a
      have : x ≠ n := of_decide_eq_true b
      omega
    have h2 : l.length ≤ (l.filter fun x => decide (x ≠ n)).length + 1 := by
      clear h1 h
      induction l with
      | nil => exact Nat.zero_le _
      | cons x l ih =>
        obtain ⟨a, b⟩ := List.nodup_cons.mp hn
        rw [List.filter_cons]
        by_cases e : x = n
        · rw [if_neg (by simp [e])]
          have : l.filter (fun x => decide (x ≠ n)) = l := List.filter_eq_self.mpr fun y hy => decide_eq_true fun z => a (by rw [e, ← z]; exact hy)
          rw [this]
          exact Nat.le_refl _
        · rw [if_pos (by simp [e]), List.length_cons, List.length_cons]
          exact Nat.succ_le_succ (ih b)
    omega
theorem Lev.len {M : Int} {S N : Nat} {l : Ch} (v : Lev M S N l) : l.length ≤ S * N := by
  have e : l.length = (l.map fun p => p.1.1 * N + p.1.2).length := (List.length_map _).symm
  rw [e]
  refine nat_nodup _ ?_ fun x hx => ?_
  · have hn := v.ok.nd
    have hr := v.r
    clear e v
    induction l with
    | nil => exact .nil
    | cons p l ih =>
      obtain ⟨a, b⟩ := List.nodup_cons.mp hn
      refine List.nodup_cons.mpr ⟨fun m => ?_, ih b fun q hq => hr q (List.mem_cons_of_mem _ hq)⟩
      obtain ⟨q, hq, e⟩ := List.mem_map.mp m
      dsimp only at e
      have h1 := hr p List.mem_cons_self
      have h2 := hr q (List.mem_cons_of_mem _ hq)
      refine a (List.mem_map.mpr ⟨q, hq, ?_⟩)
      have e1 : q.1.2 = p.1.2 := by
        have := congrArg (· % N) e
        simp only [Nat.mul_comm _ N, Nat.mul_add_mod] at this
        rwa [Nat.mod_eq_of_lt h1.2, Nat.mod_eq_of_lt h2.2] at this
      have e2 : q.1.1 = p.1.1 := by
        have e3 : q.1.1 * N = p.1.1 * N := by omega
        exact Nat.eq_of_mul_eq_mul_right (by omega) e3
      exact Prod.ext e2 e1
  · obtain ⟨p, hp, rfl⟩ := List.mem_map.mp hx
    have := v.r p hp
    have h3 : (p.1.1 + 1) * N ≤ S * N := Nat.mul_le_mul_right _ (by omega)
    rw [Nat.succ_mul] at h3
    show p.1.1 * N + p.1.2 < S * N
    omega
end
end
end C
end DL

namespace DL
namespace C
open PySem L2
local macro_rules | `(tactic| walk_at "look") => `(tactic| first
  | assumption
  | exact put_same
  | (refine look_ne (by first | assumption | exact Ne.symm (by assumption)) ?_; walk_at "look")
  | (refine look_new (by assumption) ?_; walk_at "look"))
local macro_rules | `(tactic| walk_at "side") => `(tactic| first | assumption | exact trivial | decide | omega | exact ⟨by assumption, by assumption⟩ | exact ⟨by omega, by omega⟩ | exact ⟨by decide, by decide⟩ | exact ⟨by decide, by decide, by decide⟩ | (exact .inl (.inl ⟨by decide, by decide⟩)) | (exact .inl (.inr ⟨by decide, by decide⟩)) | (exact .inl (.inl ⟨by omega, by omega⟩)) | (exact .inl (.inr ⟨by omega, by omega⟩)))
local macro_rules | `(tactic| walk_at "opt") => `(tactic| first | (with_reducible exact atI_0 _ _) | (with_reducible exact atI_1 _ _ _) | (with_reducible exact atI_2 _ _ _ _) | (with_reducible exact atI_3 _ _ _ _ _) | (with_reducible exact atI_4 _ _ _ _ _ _) | assumption | exact atI_0 _ _ | exact atI_1 _ _ _ | exact atI_2 _ _ _ _ | exact atI_3 _ _ _ _ _ | exact atI_4 _ _ _ _ _ _ | exact boolsOf_map _ | exact intsOf_map _ | exact rfl)
local macro_rules | `(tactic| walk_at "s1") => `(tactic| first
  | ((with_reducible refine' s_var ?k1 ?_); (case k1 => exact rfl))
  | with_reducible refine s_bin ?_
  | with_reducible refine s_c ?_
  | with_reducible refine s_seqM ?_
  | with_reducible refine s_asB ?_
  | with_reducible refine s_asI ?_
  | with_reducible refine s_asRI ?_
  | with_reducible refine s_acons ?_
  | with_reducible refine s_anil ?_
  | with_reducible refine s_call ?_
  | with_reducible refine s_cb ?_
  | with_reducible refine s_set ?_
  | with_reducible refine s_ixT ?_
  | with_reducible refine s_ixL ?_
  | with_reducible refine s_ixS ?_
  | ((with_reducible refine' s_getL ?k1 ?_); (case k1 => walk_at "look"))
  | ((with_reducible refine' s_opt ?k1 ?_); (case k1 => walk_at "opt"))
  | with_reducible refine s_binT ?_
  | with_reducible refine s_tup ?_
  | with_reducible refine s_tpT ?_
  | with_reducible refine s_key ?_
  | with_reducible refine s_kII ?_
  | with_reducible refine s_kIII ?_
  | with_reducible refine s_dget ?_
  | ((with_reducible refine' s_atT ?k1 ?_); (case k1 => walk_at "look"))
  | ((with_reducible refine' s_atTl ?k1 ?_); (case k1 => walk_at "look"))
  | ((with_reducible refine' s_got ?k1 ?_); (case k1 => assumption))
  | with_reducible refine s_din ?_
  | with_reducible refine s_dinT ?_
  | with_reducible refine s_dgetor ?_
  | with_reducible refine s_dput ?_
  | with_reducible refine s_dnewT ?_
  | with_reducible refine s_disp1 ?_
  | with_reducible refine s_keys ?_
  | with_reducible refine s_ixK0 ?_
  | with_reducible refine s_ixK1 ?_
  | with_reducible refine s_bTK ?_
  | with_reducible refine s_gTK ?_
  | with_reducible refine s_lst ?_
  | with_reducible refine s_ret ?_
  | with_reducible refine s_if ?_
  | with_reducible refine s_nextM ?_
  | with_reducible refine s_drop ?_
  | with_reducible refine s_par ?_
  | with_reducible refine s_asg ?_
  | with_reducible refine s_gN ?_
  | ((with_reducible refine' s_gT ?k1 ?_); (case k1 => exact rfl))
  | with_reducible refine s_gsC ?_
  | with_reducible refine s_gsN ?_
  | with_reducible refine s_gIx ?_
  | with_reducible refine s_setD ?_
  | with_reducible refine s_for ?_
  | with_reducible refine s_b ?_
  | with_reducible refine s_and ?_
  | with_reducible refine s_or ?_
  | with_reducible refine s_not ?_
  | with_reducible refine s_ife ?_
  | with_reducible refine s_neg ?_
  | with_reducible refine s_notV ?_
  | with_reducible refine s_andV ?_
  | with_reducible refine s_orV ?_
  | with_reducible refine s_isi ?_
  | with_reducible refine s_m ?_
  | with_reducible refine s_none ?_
  | with_reducible refine s_noneT ?_
  | with_reducible refine s_sl ?_
  | with_reducible refine s_oN ?_
  | with_reducible refine s_oS ?_
  | with_reducible refine s_lc ?_
  | with_reducible refine s_bN ?_
  | with_reducible refine s_bT ?_
  | with_reducible refine s_bTC ?_
  | with_reducible refine s_bTN ?_
  | with_reducible refine s_it ?_
  | with_reducible refine s_rng ?_
  | with_reducible refine s_zip ?_
  | with_reducible refine s_zip2 ?_
  | with_reducible refine s_enum ?_
  | with_reducible refine s_enum1 ?_
  | with_reducible refine s_yes ?_
  | with_reducible refine s_cT ?_
  | with_reducible refine s_cF ?_
  | with_reducible refine s_retN ?_
  | with_reducible refine s_try ?_
  | with_reducible refine s_raise0 ?_
  | with_reducible refine s_raise1 ?_
  | with_reducible refine s_isE ?_
  | with_reducible refine s_fld ?_
  | with_reducible refine s_brk ?_
  | with_reducible refine s_cnt ?_
  | ((with_reducible refine' s_aug ?k1 ?_); (case k1 => exact rfl))
  | with_reducible refine s_augix ?_
  | with_reducible refine s_addI ?_
  | ((with_reducible refine' s_addT ?k1 ?_); (case k1 => walk_at "side"))
  | ((with_reducible refine' s_addS ?k1 ?_); (case k1 => walk_at "side"))
  | with_reducible refine s_catL ?_
  | with_reducible refine s_subI ?_
  | ((with_reducible refine' s_mulI ?k1 ?_); (case k1 => walk_at "side"))
  | ((with_reducible refine' s_divI ?k1 ?_); (case k1 => walk_at "side"))
  | ((with_reducible refine' s_modI ?k1 ?_); (case k1 => walk_at "side"))
  | ((with_reducible refine' s_powI ?k1 ?_); (case k1 => walk_at "side"))
  | ((with_reducible refine' s_shlI ?k1 ?_); (case k1 => walk_at "side"))
  | with_reducible refine s_iaddI ?_
  | ((with_reducible refine' s_iaddS ?k1 ?_); (case k1 => walk_at "side"))
  | with_reducible refine s_eqI ?_
  | with_reducible refine s_neI ?_
  | with_reducible refine s_eqS ?_
  | with_reducible refine s_neS ?_
  | with_reducible refine s_eqB ?_
  | with_reducible refine s_neB ?_
  | with_reducible refine s_cmp ?_
  | ((with_reducible refine' s_ixX ?k1 ?_); (case k1 => walk_at "side"))
  | with_reducible refine s_lenT ?_
  | with_reducible refine s_lenL ?_
  | with_reducible refine s_lenC ?_
  | ((with_reducible refine' s_lenS ?k1 ?_); (case k1 => walk_at "side"))
  | with_reducible refine s_abs ?_
  | with_reducible refine s_intI ?_
  | with_reducible refine s_intB ?_
  | with_reducible refine s_gcd ?_
  | with_reducible refine s_listT ?_
  | with_reducible refine s_listL ?_
  | with_reducible refine s_tupT ?_
  | with_reducible refine s_tupL ?_
  | with_reducible refine s_all ?_
  | with_reducible refine s_any ?_
  | with_reducible refine s_sum ?_
  | with_reducible refine s_sumAT ?_
  | with_reducible refine s_sumAL ?_
  | with_reducible refine s_cnT ?_
  | with_reducible refine s_cnF ?_
  | with_reducible refine s_par3 ?_
  | with_reducible refine s_max2 ?_
  | with_reducible refine s_min2 ?_
  | with_reducible refine s_chain ?_
  | with_reducible refine s_chainT ?_
  | with_reducible refine s_inL ?_
  | with_reducible refine s_inT ?_
  | with_reducible refine s_append ?_
  | with_reducible refine s_extend ?_
  | with_reducible refine s_popAt ?_
  | with_reducible refine s_pop ?_
  | with_reducible refine s_slT ?_
  | with_reducible refine s_slL ?_
  | with_reducible refine s_itT ?_
  | with_reducible refine s_itL ?_
  | with_reducible refine s_itC ?_
  | ((with_reducible refine' s_rng1 ?k1 ?_); (case k1 => walk_at "side"))
  | ((with_reducible refine' s_rng2 ?k1 ?_); (case k1 => walk_at "side"))
  | ((with_reducible refine' s_rngD ?k1 ?_); (case k1 => walk_at "side"))
  | ((with_reducible refine' And.intro (s_isDT ?k1) ?_); (case k1 => walk_at "look"))
  | ((with_reducible refine' s_isLst ?k1 ?_); (case k1 => walk_at "look"))
  | ((with_reducible refine' s_lstOkL ?k1 ?_); (case k1 => walk_at "look"))
  | ((with_reducible refine' And.intro ?k1 ?_); (case k1 => walk_at "side")))
local macro_rules | `(tactic| walk_at "s") => `(tactic| repeat (walk_at "s1"))
local macro_rules | `(tactic| walk_at "ep") => `(tactic| simp only [startD, List.map_cons, List.map_nil, List.length_cons, List.length_nil, Nat.reduceAdd, Nat.reduceSub, List.replicate, List.cons_append, List.nil_append, List.set_cons_succ, List.set_cons_zero])
/-! the order of pairs; a dict listed -/
def ltP (a b : Pt) : Prop := a.1 < b.1 ∨ (a.1 = b.1 ∧ a.2 < b.2)
theorem srt_uniq : ∀ {l m : List Pt}, l.Perm m → l.Pairwise ltP → m.Pairwise ltP → l = m
  | [], m, h, _, _ => (List.Perm.nil_eq h)
  | a :: l, [], h, _, _ => absurd h.length_eq (by simp)
  | a :: l, b :: m, h, hl, hm => by
    obtain ⟨l1, l2⟩ := List.pairwise_cons.mp hl
    obtain ⟨m1, m2⟩ := List.pairwise_cons.mp hm
    have e : a = b := by
      rcases List.mem_cons.mp (h.mem_iff.mp (List.mem_cons_self (a := a) (l := l))) with e | ha
      · exact e
      · rcases List.mem_cons.mp (h.mem_iff.mpr (List.mem_cons_self (a := b) (l := m))) with e | hb
        · exact e.symm
        · have x := m1 a ha
          have y := l1 b hb
          unfold ltP at x y
          omega
    subst e
    rw [srt_uniq (List.Perm.cons_inv h) l2 m2]
open Classical in
noncomputable def srtK (l : Ch) : List Pt := if h : ∃ m : List Pt, m.Perm (keys l) ∧ m.Pairwise ltP then h.choose else []
theorem srtK_of {l : Ch} {m : List Pt} (h1 : m.Perm (keys l)) (h2 : m.Pairwise ltP) : srtK l = m := by
  have h : ∃ m : List Pt, m.Perm (keys l) ∧ m.Pairwise ltP := ⟨m, h1, h2⟩
  have e : srtK l = h.choose := by unfold srtK; rw [dif_pos h]
  rw [e]
  exact srt_uniq (h.choose_spec.1.trans h1.symm) h.choose_spec.2 h2
noncomputable def lined (l : Ch) : Ch := (srtK l).map fun k => (k, (getK l k).getD 0)
def entD (p : Pt × Rat) : D := .tup [.int (p.1.1 : Int), .int (p.1.2 : Int), qD p.2]
def lineD (l : Ch) : D := .tup (l.map entD)
def unK : List Key → Pt
  | [.inl i, .inl j] => (i.toNat, j.toNat)
  | _ => (0, 0)
theorem unK_key (p : Pt) : unK (keyN p) = p := rfl
/-- what sorted(d) gives -/
theorem srt_es {l : Ch} {es : List (List Key)} (hn : (keys l).Nodup) (h1 : es.Perm ((dictD l).map fun p => p.1)) (h2 : es.Pairwise lexK) : es = (srtK l).map keyN ∧ (srtK l).Perm (keys l) := by
  have e0 : ((dictD l).map fun p => p.1) = (keys l).map keyN := by
    unfold dictD keys
    rw [List.map_map, List.map_map]; rfl
  rw [e0] at h1
  have e1 : es = (es.map unK).map keyN := by
    rw [List.map_map]
    conv => lhs; rw [← List.map_id es]
    refine List.map_congr_left fun k hk => ?_
    obtain ⟨p, _, rfl⟩ := List.mem_map.mp (h1.mem_iff.mp hk)
    rfl
  have p1 : (es.map unK).Perm (keys l) := by
    have := h1.map unK
    rw [List.map_map] at this
    have e2 : (keys l).map (unK ∘ keyN) = keys l := by
      conv => rhs; rw [← List.map_id (keys l)]
      exact List.map_congr_left fun p _ => rfl
    rwa [e2] at this
  have n1 : (es.map unK).Nodup := p1.nodup_iff.mpr hn
  have w1 : (es.map unK).Pairwise ltP := by
    rw [e1] at h2
    have h3 := List.pairwise_map.mp h2
    refine (h3.and n1).imp fun {a b} hab => ?_
    obtain ⟨h4, h5⟩ := hab
    have := h4 _ _ _ _ rfl rfl
    have ne : ¬ (a.1 = b.1 ∧ a.2 = b.2) := fun z => h5 (Prod.ext z.1 z.2)
    unfold ltP
    omega
  rw [srtK_of p1 w1]
  exact ⟨e1, p1⟩
def spListed : SpD := fun ds st R _ => ∃ (a : Addr) (l : Ch), ds = [.ref a] ∧ st a = some (.dt (dictD l)) ∧ (keys l).Nodup ∧ l.length ≤ 1000000 ∧ R (lineD (lined l)) st
theorem len_listed : ∀ ds st R Rx, spListed ds st R Rx → ds.length = 1 := by
  rintro ds st R Rx ⟨_, _, rfl, -⟩; rfl
theorem key_ints (l : Ch) : ∀ p ∈ dictD l, ∃ i j : Int, p.1 = [.inl i, .inl j] := fun p hp => by
  obtain ⟨q, _, rfl⟩ := List.mem_map.mp hp
  exact ⟨_, _, rfl⟩
theorem get_srt {l : Ch} (hn : (keys l).Nodup) (hp : (srtK l).Perm (keys l)) {k : Pt} (h : k ∈ srtK l) : ∃ v, getK l k = some v := by
  obtain ⟨p, m, e⟩ := List.mem_map.mp (hp.mem_iff.mp h)
  exact ⟨p.2, by rw [← e]; exact getK_some hn m⟩
theorem read_listed : ∀ ds st R Rx, spListed ds st R Rx → wb_listed (bodyEd R Rx) (startD 3 ds) st := by
  rintro ds st R Rx ⟨a, l, rfl, ha, hn, hl, kk⟩
  unfold wb_listed bodyEd
  walk_at "s"
  refine s_srtK ha (key_ints l) fun es p hp hw hst => ?_
  obtain ⟨rfl, pm⟩ := srt_es hn hp hw
  have hlen : (srtK l).length = l.length := by rw [pm.length_eq]; exact List.length_map _
  walk_at "s"
  rw [List.map_map]
  refine lc_pre (fun k : Pt => D.key (keyN k)) (srtK l) (fun pre acc T => acc = (pre.map fun k => entD (k, (getK l k).getD 0)) ∧ T p = some (.lst ((srtK l).map (D.key ∘ keyN))) ∧ Sub st T ∧ T a = some (.dt (dictD l))) ?_ ?_ ⟨rfl, put_same, Sub.put_new hst, look_new hst ha⟩
  · rintro acc T ⟨rfl, hT, sT, aT⟩
    refine ⟨hT, ?_⟩
    intro u hu
    walk_at "s"
    refine s_endS (sT.trans (Sub.put_new hu)) ?_
    unfold lineD lined at kk
    rw [List.map_map] at kk
    exact kk
  · rintro K pre k r acc T e ⟨rfl, hT, sT, aT⟩ ih
    refine ⟨hT, ?_⟩
    have hk : k ∈ srtK l := by rw [e]; exact List.mem_append_right _ List.mem_cons_self
    obtain ⟨v, hv⟩ := get_srt hn pm hk
    have hv2 : valD (dictD l) [.inl (k.1 : Int), .inl (k.2 : Int)] = some (qD v) := by
      have := dictD_val l k
      rw [hv] at this
      exact this
    unfold keyN
    walk_at "s"
    have hpl : pre.length ≤ (srtK l).length := by rw [e, List.length_append]; omega
    refine ⟨by rw [List.length_map]; show _ < 2 ^ 24; omega, ?_⟩
    exact ih _ _ ⟨by rw [List.map_append, List.map_cons, hv]; rfl, hT, sT, aT⟩
def spAdded : SpD := fun ds st R _ => ∃ (a : Addr) (l : Ch) (k : Pt) (v : Rat) (b : Nat), ds = [.ref a, .key (keyN k), qD v] ∧ st a = some (.dt (dictD l)) ∧ l.length ≤ 1000000 ∧ (∀ p ∈ l, Bits b p.2) ∧ Bits b v ∧ b ≤ 4400 ∧ R .non (put st a (.dt (dictD (addK l k v))))
theorem len_added : ∀ ds st R Rx, spAdded ds st R Rx → ds.length = 3 := by
  rintro ds st R Rx ⟨_, _, _, _, _, rfl, -⟩; rfl
theorem read_added : ∀ ds st R Rx, spAdded ds st R Rx → wb_added spPlus (bodyEd R Rx) (startD 3 ds) st := by
  rintro ds st R Rx ⟨a, l, k, v, b, rfl, ha, hl, hb, bv, b0, kk⟩
  have hlen : (dictD l).length < sizeLine := by rw [dictD_len]; show _ < 2 ^ 24; omega
  unfold wb_added bodyEd
  walk_at "s"
  have hv := dictD_val l k
  cases e : getK l k with
  | none =>
    rw [e] at hv
    rw [hv]
    refine s_cF ?_
    walk_at "s"
    refine s_putT ha hlen ?_
    rw [dictD_put]
    unfold addK at kk
    rw [e] at kk
    have e2 : (none : Option Rat).getD 0 + v = v := Rat.zero_add v
    rw [e2] at kk
    walk_at "s"
    exact s_end kk
  | some x =>
    rw [e] at hv
    rw [hv]
    refine s_cT ?_
    have hx : valD (dictD l) (keyN k) = some (qD x) := hv
    walk_at "s"
    refine ⟨x, v, b, b, rfl, hb _ (getK_mem e), bv, by omega, trivial, fun _ => ?_⟩
    walk_at "s"
    refine s_putT ha hlen ?_
    rw [dictD_put]
    unfold addK at kk
    rw [e] at kk
    walk_at "s"
    exact s_end kk
def spPartOf : SpD := fun ds st R _ => ∃ (c : List Mv) (w : Int), ds = [.int w, cornerD c] ∧ c.length ≤ 1000000 ∧ 0 < wsum c ∧ (wsum c).natAbs.log2 < 9000 ∧ R (qD ((w : Rat) / (wsum c : Rat))) st
theorem len_partof : ∀ ds st R Rx, spPartOf ds st R Rx → ds.length = 2 := by
  rintro ds st R Rx ⟨_, _, rfl, -⟩; rfl
theorem read_partof : ∀ ds st R Rx, spPartOf ds st R Rx → wb_part_of spFrac (bodyEd R Rx) (startD 3 ds) st := by
  rintro ds st R Rx ⟨c, w, rfl, hl, w0, hw, kk⟩
  unfold wb_part_of bodyEd cornerD
  walk_at "s"
  refine lc_pre moveD c (fun pre acc T => acc = (pre.map fun m => m.1).map D.int ∧ T = st) ?_ ?_ ⟨rfl, rfl⟩
  · rintro acc T ⟨rfl, rfl⟩
    refine ⟨trivial, ?_⟩
    intro u hu
    walk_at "s"
    refine ⟨_, _, rfl, by show wsum c ≠ 0; omega, hw, frac_rat (by show wsum c ≠ 0; omega) fun z ez _ _ => ?_⟩
    have e : z = (w : Rat) / (wsum c : Rat) := ez
    rw [← e] at kk
    exact s_endS (Sub.put_new hu) kk
  · rintro K pre m r acc T e ⟨rfl, rfl⟩ ih
    refine ⟨trivial, ?_⟩
    unfold moveD
    walk_at "s"
    have hpl : pre.length ≤ c.length := by rw [e, List.length_append]; omega
    refine ⟨by rw [List.length_map, List.length_map]; show _ < 2 ^ 24; omega, ?_⟩
    exact ih _ _ ⟨by rw [List.map_append, List.map_append]; rfl, rfl⟩
end C
end DL

namespace DL
namespace C
open PySem L2
local macro_rules | `(tactic| walk_at "look") => `(tactic| first
  | assumption
  | exact put_same
  | (refine look_ne (by first | assumption | exact Ne.symm (by assumption)) ?_; walk_at "look")
  | (refine look_new (by assumption) ?_; walk_at "look"))
local macro_rules | `(tactic| walk_at "side") => `(tactic| first | assumption | exact trivial | decide | omega | exact ⟨by assumption, by assumption⟩ | exact ⟨by omega, by omega⟩ | exact ⟨by decide, by decide⟩ | exact ⟨by decide, by decide, by decide⟩ | (exact .inl (.inl ⟨by decide, by decide⟩)) | (exact .inl (.inr ⟨by decide, by decide⟩)) | (exact .inl (.inl ⟨by omega, by omega⟩)) | (exact .inl (.inr ⟨by omega, by omega⟩)))
local macro_rules | `(tactic| walk_at "opt") => `(tactic| first | (with_reducible exact atI_0 _ _) | (with_reducible exact atI_1 _ _ _) | (with_reducible exact atI_2 _ _ _ _) | (with_reducible exact atI_3 _ _ _ _ _) | (with_reducible exact atI_4 _ _ _ _ _ _) | assumption | exact atI_0 _ _ | exact atI_1 _ _ _ | exact atI_2 _ _ _ _ | exact atI_3 _ _ _ _ _ | exact atI_4 _ _ _ _ _ _ | exact boolsOf_map _ | exact intsOf_map _ | exact rfl)
local macro_rules | `(tactic| walk_at "s1") => `(tactic| first
  | ((with_reducible refine' s_var ?k1 ?_); (case k1 => exact rfl))
  | with_reducible refine s_bin ?_
  | with_reducible refine s_c ?_
  | with_reducible refine s_seqM ?_
  | with_reducible refine s_asB ?_
  | with_reducible refine s_asI ?_
  | with_reducible refine s_asRI ?_
  | with_reducible refine s_acons ?_
  | with_reducible refine s_anil ?_
  | with_reducible refine s_call ?_
  | with_reducible refine s_cb ?_
  | with_reducible refine s_set ?_
  | with_reducible refine s_ixT ?_
  | with_reducible refine s_ixL ?_
  | with_reducible refine s_ixS ?_
  | ((with_reducible refine' s_getL ?k1 ?_); (case k1 => walk_at "look"))
  | ((with_reducible refine' s_opt ?k1 ?_); (case k1 => walk_at "opt"))
  | with_reducible refine s_binT ?_
  | with_reducible refine s_tup ?_
  | with_reducible refine s_tpT ?_
  | with_reducible refine s_key ?_
  | with_reducible refine s_kII ?_
  | with_reducible refine s_kIII ?_
  | with_reducible refine s_dget ?_
  | ((with_reducible refine' s_atT ?k1 ?_); (case k1 => walk_at "look"))
  | ((with_reducible refine' s_atTl ?k1 ?_); (case k1 => walk_at "look"))
  | ((with_reducible refine' s_got ?k1 ?_); (case k1 => assumption))
  | with_reducible refine s_din ?_
  | with_reducible refine s_dinT ?_
  | with_reducible refine s_dgetor ?_
  | with_reducible refine s_dput ?_
  | with_reducible refine s_dnewT ?_
  | with_reducible refine s_disp1 ?_
  | with_reducible refine s_keys ?_
  | with_reducible refine s_ixK0 ?_
  | with_reducible refine s_ixK1 ?_
  | with_reducible refine s_bTK ?_
  | with_reducible refine s_gTK ?_
  | with_reducible refine s_lst ?_
  | with_reducible refine s_ret ?_
  | with_reducible refine s_if ?_
  | with_reducible refine s_nextM ?_
  | with_reducible refine s_drop ?_
  | with_reducible refine s_par ?_
  | with_reducible refine s_asg ?_
  | with_reducible refine s_gN ?_
  | ((with_reducible refine' s_gT ?k1 ?_); (case k1 => exact rfl))
  | with_reducible refine s_gsC ?_
  | with_reducible refine s_gsN ?_
  | with_reducible refine s_gIx ?_
  | with_reducible refine s_setD ?_
  | with_reducible refine s_for ?_
  | with_reducible refine s_b ?_
  | with_reducible refine s_and ?_
  | with_reducible refine s_or ?_
  | with_reducible refine s_not ?_
  | with_reducible refine s_ife ?_
  | with_reducible refine s_neg ?_
  | with_reducible refine s_notV ?_
  | with_reducible refine s_andV ?_
  | with_reducible refine s_orV ?_
  | with_reducible refine s_isi ?_
  | with_reducible refine s_m ?_
  | with_reducible refine s_none ?_
  | with_reducible refine s_noneT ?_
  | with_reducible refine s_sl ?_
  | with_reducible refine s_oN ?_
  | with_reducible refine s_oS ?_
  | with_reducible refine s_lc ?_
  | with_reducible refine s_bN ?_
  | with_reducible refine s_bT ?_
  | with_reducible refine s_bTC ?_
  | with_reducible refine s_bTN ?_
  | with_reducible refine s_it ?_
  | with_reducible refine s_rng ?_
  | with_reducible refine s_zip ?_
  | with_reducible refine s_zip2 ?_
  | with_reducible refine s_enum ?_
  | with_reducible refine s_enum1 ?_
  | with_reducible refine s_yes ?_
  | with_reducible refine s_cT ?_
  | with_reducible refine s_cF ?_
  | with_reducible refine s_retN ?_
  | with_reducible refine s_try ?_
  | with_reducible refine s_raise0 ?_
  | with_reducible refine s_raise1 ?_
  | with_reducible refine s_isE ?_
  | with_reducible refine s_fld ?_
  | with_reducible refine s_brk ?_
  | with_reducible refine s_cnt ?_
  | ((with_reducible refine' s_aug ?k1 ?_); (case k1 => exact rfl))
  | with_reducible refine s_augix ?_
  | with_reducible refine s_addI ?_
  | ((with_reducible refine' s_addT ?k1 ?_); (case k1 => walk_at "side"))
  | ((with_reducible refine' s_addS ?k1 ?_); (case k1 => walk_at "side"))
  | with_reducible refine s_catL ?_
  | with_reducible refine s_subI ?_
  | ((with_reducible refine' s_mulI ?k1 ?_); (case k1 => walk_at "side"))
  | ((with_reducible refine' s_divI ?k1 ?_); (case k1 => walk_at "side"))
  | ((with_reducible refine' s_modI ?k1 ?_); (case k1 => walk_at "side"))
  | ((with_reducible refine' s_powI ?k1 ?_); (case k1 => walk_at "side"))
  | ((with_reducible refine' s_shlI ?k1 ?_); (case k1 => walk_at "side"))
  | with_reducible refine s_iaddI ?_
  | ((with_reducible refine' s_iaddS ?k1 ?_); (case k1 => walk_at "side"))
  | with_reducible refine s_eqI ?_
  | with_reducible refine s_neI ?_
  | with_reducible refine s_eqS ?_
  | with_reducible refine s_neS ?_
  | with_reducible refine s_eqB ?_
  | with_reducible refine s_neB ?_
  | with_reducible refine s_cmp ?_
  | ((with_reducible refine' s_ixX ?k1 ?_); (case k1 => walk_at "side"))
  | with_reducible refine s_lenT ?_
  | with_reducible refine s_lenL ?_
  | with_reducible refine s_lenC ?_
  | ((with_reducible refine' s_lenS ?k1 ?_); (case k1 => walk_at "side"))
  | with_reducible refine s_abs ?_
  | with_reducible refine s_intI ?_
  | with_reducible refine s_intB ?_
  | with_reducible refine s_gcd ?_
  | with_reducible refine s_listT ?_
  | with_reducible refine s_listL ?_
  | with_reducible refine s_tupT ?_
  | with_reducible refine s_tupL ?_
  | with_reducible refine s_all ?_
  | with_reducible refine s_any ?_
  | with_reducible refine s_sum ?_
  | with_reducible refine s_sumAT ?_
  | with_reducible refine s_sumAL ?_
  | with_reducible refine s_cnT ?_
  | with_reducible refine s_cnF ?_
  | with_reducible refine s_par3 ?_
  | with_reducible refine s_max2 ?_
  | with_reducible refine s_min2 ?_
  | with_reducible refine s_chain ?_
  | with_reducible refine s_chainT ?_
  | with_reducible refine s_inL ?_
  | with_reducible refine s_inT ?_
  | with_reducible refine s_append ?_
  | with_reducible refine s_extend ?_
  | with_reducible refine s_popAt ?_
  | with_reducible refine s_pop ?_
  | with_reducible refine s_slT ?_
  | with_reducible refine s_slL ?_
  | with_reducible refine s_itT ?_
  | with_reducible refine s_itL ?_
  | with_reducible refine s_itC ?_
  | ((with_reducible refine' s_rng1 ?k1 ?_); (case k1 => walk_at "side"))
  | ((with_reducible refine' s_rng2 ?k1 ?_); (case k1 => walk_at "side"))
  | ((with_reducible refine' s_rngD ?k1 ?_); (case k1 => walk_at "side"))
  | ((with_reducible refine' And.intro (s_isDT ?k1) ?_); (case k1 => walk_at "look"))
  | ((with_reducible refine' s_isLst ?k1 ?_); (case k1 => walk_at "look"))
  | ((with_reducible refine' s_lstOkL ?k1 ?_); (case k1 => walk_at "look"))
  | ((with_reducible refine' And.intro ?k1 ?_); (case k1 => walk_at "side")))
local macro_rules | `(tactic| walk_at "s") => `(tactic| repeat (walk_at "s1"))
local macro_rules | `(tactic| walk_at "ep") => `(tactic| simp only [startD, List.map_cons, List.map_nil, List.length_cons, List.length_nil, Nat.reduceAdd, Nat.reduceSub, List.replicate, List.cons_append, List.nil_append, List.set_cons_succ, List.set_cons_zero])
def choiceD (ch : Choice) : D := .tup (ch.map fun r => .tup (r.map D.int))
def planD (plan : List Choice) : D := .tup (plan.map choiceD)
def start : Ch := [((0, 0), 1)]
section
variable (rows : List (List Nat)) (shows : List Rat) (web : List (List (List Mv)))
def levK (plan : List Choice) (l : Ch) : Ch := plan.foldl (fun l ch => nextK rows web ch l) l
def stopsK : List Choice → Ch → List Rat
  | [], _ => []
  | ch :: r, l => stops shows ch l ++ stopsK r (nextK rows web ch l)
def ends (l : Ch) : List Rat := l.map fun p => p.2 * shows.getD p.1.1 0
end
section
variable {rows : List (List Nat)} {shows : List Rat} {web : List (List (List Mv))}
theorem levK_snoc (pre : List Choice) (ch : Choice) (l : Ch) : levK rows web (pre ++ [ch]) l = nextK rows web ch (levK rows web pre l) := by
  unfold levK; rw [List.foldl_append]; rfl
theorem runK_snoc : ∀ (pre : List Choice) (ch : Choice) (l : Ch), runK rows web (pre ++ [ch]) l = runK rows web pre l ++ [nextK rows web ch (levK rows web pre l)]
  | [], ch, l => rfl
  | c :: pre, ch, l => by
    show l :: runK rows web (pre ++ [ch]) (nextK rows web c l) = l :: (runK rows web pre (nextK rows web c l) ++ _)
    rw [runK_snoc pre]; rfl
theorem stopsK_snoc : ∀ (pre : List Choice) (ch : Choice) (l : Ch), stopsK rows shows web (pre ++ [ch]) l = stopsK rows shows web pre l ++ stops shows ch (levK rows web pre l)
  | [], ch, l => by show stops shows ch l ++ [] = [] ++ _; rw [List.append_nil]; rfl
  | c :: pre, ch, l => by
    show stops shows c l ++ stopsK rows shows web (pre ++ [ch]) (nextK rows web c l) = (stops shows c l ++ stopsK rows shows web pre (nextK rows web c l)) ++ _
    rw [stopsK_snoc pre, List.append_assoc]; rfl
theorem partsK_eq : ∀ (plan : List Choice) (l : Ch), partsK rows shows web plan l = stopsK rows shows web plan l ++ ends shows (levK rows web plan l)
  | [], l => rfl
  | c :: plan, l => by
    show stops shows c l ++ partsK rows shows web plan (nextK rows web c l) = (stops shows c l ++ stopsK rows shows web plan (nextK rows web c l)) ++ _
    rw [partsK_eq plan, List.append_assoc]; rfl
theorem contrs_snoc (ch : Choice) (pre : Ch) (p : Pt × Rat) : contrs rows web ch (pre ++ [p]) = contrs rows web ch pre ++ contr rows web ch p := by
  unfold contrs
  rw [List.flatMap_append]
  show _ ++ (contr rows web ch p ++ []) = _
  rw [List.append_nil]
theorem contrs_cons (ch : Choice) (p : Pt × Rat) (l : Ch) : contrs rows web ch (p :: l) = contr rows web ch p ++ contrs rows web ch l := rfl
theorem contrs_append (ch : Choice) (a b : Ch) : contrs rows web ch (a ++ b) = contrs rows web ch a ++ contrs rows web ch b := by
  unfold contrs; rw [List.flatMap_append]
theorem bits_den7 : ∀ d : Nat, d < 8 → 0 < d → d ∣ 840 := by decide
theorem show_fit {x : Rat} (h : Bits 3 x) : Fit 840 8 x := by
  have hd : (x.den : Int).natAbs < 8 := h.d
  have hn : x.num.natAbs < 8 := h.n
  rw [Int.natAbs_natCast] at hd
  have := x.den_pos
  refine ⟨Int.ofNat_dvd.mpr (bits_den7 _ hd this), ?_⟩
  have : 8 * 1 ≤ 8 * x.den := Nat.mul_le_mul_left _ this
  omega
theorem powQ {q : Nat} {Q : Int} (h : Bt q Q) : ∀ t : Nat, Bt (1 + t * q) (Q ^ t)
  | 0 => by rw [Int.pow_zero, Nat.zero_mul]; unfold Bt; decide
  | t + 1 => by
    rw [Int.pow_succ, Nat.succ_mul]
    exact ((powQ h t).mul h).mono (by omega)
theorem pow_pos' {Q : Int} (h : 0 < Q) (t : Nat) : 0 < Q ^ t := Int.pow_pos h
theorem pow_dvd' {Q : Int} {t T : Nat} (h : t ≤ T) : Q ^ t ∣ Q ^ T := ⟨Q ^ (T - t), by rw [← Int.pow_add, Nat.add_sub_cancel' h]⟩
theorem start_lev {S N : Nat} (hS : 0 < S) (hN : 0 < N) : Lev 1 S N start := by
  refine ⟨⟨List.nodup_cons.mpr ⟨List.not_mem_nil, .nil⟩, fun p hp => ?_, fun p hp => ?_⟩, ?_, fun p hp => ?_⟩
  · rw [List.mem_singleton.mp hp]; exact ⟨⟨1, rfl⟩, Nat.le_refl _⟩
  · rw [List.mem_singleton.mp hp]; show (0 : Rat) ≤ 1; decide
  · show (1 : Rat) * 1 + 0 ≤ 1; rw [Rat.mul_one, Rat.add_zero]; exact Rat.le_refl
  · rw [List.mem_singleton.mp hp]; exact ⟨hS, hN⟩
variable {q letters states nodes : Nat}
theorem levs (h : Run q letters states nodes rows shows web) : ∀ {pre : List Choice} {M : Int} {l : Ch}, (∀ ch ∈ pre, ChoiceOk states nodes web ch) → 0 < M → Lev M states nodes l → Lev (M * webQ web ^ pre.length) states nodes (levK rows web pre l)
  | [], M, l, _, _, v => by rw [List.length_nil, Int.pow_zero, Int.mul_one]; exact v
  | ch :: pre, M, l, hc, hM, v => by
    have := levs h (pre := pre) (fun c hcc => hc c (List.mem_cons_of_mem _ hcc)) (Int.mul_pos hM h.pos) (v.next h (hc ch List.mem_cons_self) hM)
    rw [List.length_cons, Int.pow_succ, Int.mul_comm (webQ web ^ pre.length), ← Int.mul_assoc]
    exact this
theorem levs0 (h : Run q letters states nodes rows shows web) {pre : List Choice} (hc : ∀ ch ∈ pre, ChoiceOk states nodes web ch) : Lev (webQ web ^ pre.length) states nodes (levK rows web pre start) := by
  have := levs h hc (by decide) (start_lev h.g.s0 h.n0)
  rwa [Int.one_mul] at this
theorem Lev.bits {M : Int} {m S N : Nat} {l : Ch} (v : Lev M S N l) (hM : 0 < M) (bM : Bt m M) : ∀ p ∈ l, Bits m p.2 := fun p hp => ((v.ok.f p hp).bits (e := 0) hM bM (Nat.le_refl _))
theorem Run.show (h : Run q letters states nodes rows shows web) {s : Nat} (hs : s < states) : Fit 840 8 (shows.getD s 0) := show_fit (h.g.b _ (getD_mem (by rw [h.g.sl]; exact hs)))
theorem chance_fit (h : Run q letters states nodes rows shows web) {t T : Nat} (ht : t ≤ T) {l : Ch} (v : Lev (webQ web ^ t) states nodes l) : ∀ p ∈ l, Fit (webQ web ^ T * 840) 8 (p.2 * shows.getD p.1.1 0) := fun p hp => by
  have := (v.ok.f p hp).mul (h.show (v.r p hp).1)
  exact this.mono (Int.mul_dvd_mul (pow_dvd' ht) (Int.dvd_refl _)) (by decide)
theorem stops_fit (h : Run q letters states nodes rows shows web) : ∀ {pre : List Choice} {t T : Nat} {l : Ch}, (∀ ch ∈ pre, ChoiceOk states nodes web ch) → t + pre.length ≤ T → Lev (webQ web ^ t) states nodes l →
    (∀ x ∈ stopsK rows shows web pre l, Fit (webQ web ^ T * 840) 8 x) ∧ (stopsK rows shows web pre l).length ≤ pre.length * (states * nodes)
  | [], t, T, l, _, _, _ => ⟨fun x hx => (by cases hx), Nat.zero_le _⟩
  | ch :: pre, t, T, l, hc, ht, v => by
    rw [List.length_cons] at ht
    have v2 := v.next h (hc ch List.mem_cons_self) (pow_pos' h.pos t)
    rw [← Int.pow_succ] at v2
    obtain ⟨a1, a2⟩ := stops_fit h (pre := pre) (t := t + 1) (T := T) (fun c hcc => hc c (List.mem_cons_of_mem _ hcc)) (by omega) v2
    refine ⟨fun x hx => ?_, ?_⟩
    · rcases List.mem_append.mp (show x ∈ stops shows ch l ++ stopsK rows shows web pre (nextK rows web ch l) from hx) with hx | hx
      · obtain ⟨p, hp, rfl⟩ := List.mem_map.mp hx
        exact chance_fit h (by omega) v p (List.mem_filter.mp hp).1
      · exact a1 x hx
    · show (stops shows ch l ++ stopsK rows shows web pre (nextK rows web ch l)).length ≤ _
      have e1 : (stops shows ch l).length ≤ l.length := by unfold stops; rw [List.length_map]; exact List.length_filter_le _ _
      have := v.len
      rw [List.length_append, List.length_cons, Nat.succ_mul]
      omega
end
end C
end DL

namespace DL
namespace C
open PySem L2
local macro_rules | `(tactic| walk_at "look") => `(tactic| first
  | assumption
  | exact put_same
  | (refine look_ne (by first | assumption | exact Ne.symm (by assumption)) ?_; walk_at "look")
  | (refine look_new (by assumption) ?_; walk_at "look"))
local macro_rules | `(tactic| walk_at "side") => `(tactic| first | assumption | exact trivial | decide | omega | exact ⟨by assumption, by assumption⟩ | exact ⟨by omega, by omega⟩ | exact ⟨by decide, by decide⟩ | exact ⟨by decide, by decide, by decide⟩ | (exact .inl (.inl ⟨by decide, by decide⟩)) | (exact .inl (.inr ⟨by decide, by decide⟩)) | (exact .inl (.inl ⟨by omega, by omega⟩)) | (exact .inl (.inr ⟨by omega, by omega⟩)))
local macro_rules | `(tactic| walk_at "opt") => `(tactic| first | (with_reducible exact atI_0 _ _) | (with_reducible exact atI_1 _ _ _) | (with_reducible exact atI_2 _ _ _ _) | (with_reducible exact atI_3 _ _ _ _ _) | (with_reducible exact atI_4 _ _ _ _ _ _) | assumption | exact atI_0 _ _ | exact atI_1 _ _ _ | exact atI_2 _ _ _ _ | exact atI_3 _ _ _ _ _ | exact atI_4 _ _ _ _ _ _ | exact boolsOf_map _ | exact intsOf_map _ | exact rfl)
local macro_rules | `(tactic| walk_at "s1") => `(tactic| first
  | ((with_reducible refine' s_var ?k1 ?_); (case k1 => exact rfl))
  | with_reducible refine s_bin ?_
  | with_reducible refine s_c ?_
  | with_reducible refine s_seqM ?_
  | with_reducible refine s_asB ?_
  | with_reducible refine s_asI ?_
  | with_reducible refine s_asRI ?_
  | with_reducible refine s_acons ?_
  | with_reducible refine s_anil ?_
  | with_reducible refine s_call ?_
  | with_reducible refine s_cb ?_
  | with_reducible refine s_set ?_
  | with_reducible refine s_ixT ?_
  | with_reducible refine s_ixL ?_
  | with_reducible refine s_ixS ?_
  | ((with_reducible refine' s_getL ?k1 ?_); (case k1 => walk_at "look"))
  | ((with_reducible refine' s_opt ?k1 ?_); (case k1 => walk_at "opt"))
  | with_reducible refine s_binT ?_
  | with_reducible refine s_tup ?_
  | with_reducible refine s_tpT ?_
  | with_reducible refine s_key ?_
  | with_reducible refine s_kII ?_
  | with_reducible refine s_kIII ?_
  | with_reducible refine s_dget ?_
  | ((with_reducible refine' s_atT ?k1 ?_); (case k1 => walk_at "look"))
  | ((with_reducible refine' s_atTl ?k1 ?_); (case k1 => walk_at "look"))
  | ((with_reducible refine' s_got ?k1 ?_); (case k1 => assumption))
  | with_reducible refine s_din ?_
  | with_reducible refine s_dinT ?_
  | with_reducible refine s_dgetor ?_
  | with_reducible refine s_dput ?_
  | with_reducible refine s_dnewT ?_
  | with_reducible refine s_disp1 ?_
  | with_reducible refine s_keys ?_
  | with_reducible refine s_ixK0 ?_
  | with_reducible refine s_ixK1 ?_
  | with_reducible refine s_bTK ?_
  | with_reducible refine s_gTK ?_
  | with_reducible refine s_lst ?_
  | with_reducible refine s_ret ?_
  | with_reducible refine s_if ?_
  | with_reducible refine s_nextM ?_
  | with_reducible refine s_drop ?_
  | with_reducible refine s_par ?_
  | with_reducible refine s_asg ?_
  | with_reducible refine s_gN ?_
  | ((with_reducible refine' s_gT ?k1 ?_); (case k1 => exact rfl))
  | with_reducible refine s_gsC ?_
  | with_reducible refine s_gsN ?_
  | with_reducible refine s_gIx ?_
  | with_reducible refine s_setD ?_
  | with_reducible refine s_for ?_
  | with_reducible refine s_b ?_
  | with_reducible refine s_and ?_
  | with_reducible refine s_or ?_
  | with_reducible refine s_not ?_
  | with_reducible refine s_ife ?_
  | with_reducible refine s_neg ?_
  | with_reducible refine s_notV ?_
  | with_reducible refine s_andV ?_
  | with_reducible refine s_orV ?_
  | with_reducible refine s_isi ?_
  | with_reducible refine s_m ?_
  | with_reducible refine s_none ?_
  | with_reducible refine s_noneT ?_
  | with_reducible refine s_sl ?_
  | with_reducible refine s_oN ?_
  | with_reducible refine s_oS ?_
  | with_reducible refine s_lc ?_
  | with_reducible refine s_bN ?_
  | with_reducible refine s_bT ?_
  | with_reducible refine s_bTC ?_
  | with_reducible refine s_bTN ?_
  | with_reducible refine s_it ?_
  | with_reducible refine s_rng ?_
  | with_reducible refine s_zip ?_
  | with_reducible refine s_zip2 ?_
  | with_reducible refine s_enum ?_
  | with_reducible refine s_enum1 ?_
  | with_reducible refine s_yes ?_
  | with_reducible refine s_cT ?_
  | with_reducible refine s_cF ?_
  | with_reducible refine s_retN ?_
  | with_reducible refine s_try ?_
  | with_reducible refine s_raise0 ?_
  | with_reducible refine s_raise1 ?_
  | with_reducible refine s_isE ?_
  | with_reducible refine s_fld ?_
  | with_reducible refine s_brk ?_
  | with_reducible refine s_cnt ?_
  | ((with_reducible refine' s_aug ?k1 ?_); (case k1 => exact rfl))
  | with_reducible refine s_augix ?_
  | with_reducible refine s_addI ?_
  | ((with_reducible refine' s_addT ?k1 ?_); (case k1 => walk_at "side"))
  | ((with_reducible refine' s_addS ?k1 ?_); (case k1 => walk_at "side"))
  | with_reducible refine s_catL ?_
  | with_reducible refine s_subI ?_
  | ((with_reducible refine' s_mulI ?k1 ?_); (case k1 => walk_at "side"))
  | ((with_reducible refine' s_divI ?k1 ?_); (case k1 => walk_at "side"))
  | ((with_reducible refine' s_modI ?k1 ?_); (case k1 => walk_at "side"))
  | ((with_reducible refine' s_powI ?k1 ?_); (case k1 => walk_at "side"))
  | ((with_reducible refine' s_shlI ?k1 ?_); (case k1 => walk_at "side"))
  | with_reducible refine s_iaddI ?_
  | ((with_reducible refine' s_iaddS ?k1 ?_); (case k1 => walk_at "side"))
  | with_reducible refine s_eqI ?_
  | with_reducible refine s_neI ?_
  | with_reducible refine s_eqS ?_
  | with_reducible refine s_neS ?_
  | with_reducible refine s_eqB ?_
  | with_reducible refine s_neB ?_
  | with_reducible refine s_cmp ?_
  | ((with_reducible refine' s_ixX ?k1 ?_); (case k1 => walk_at "side"))
  | with_reducible refine s_lenT ?_
  | with_reducible refine s_lenL ?_
  | with_reducible refine s_lenC ?_
  | ((with_reducible refine' s_lenS ?k1 ?_); (case k1 => walk_at "side"))
  | with_reducible refine s_abs ?_
  | with_reducible refine s_intI ?_
  | with_reducible refine s_intB ?_
  | with_reducible refine s_gcd ?_
  | with_reducible refine s_listT ?_
  | with_reducible refine s_listL ?_
  | with_reducible refine s_tupT ?_
  | with_reducible refine s_tupL ?_
  | with_reducible refine s_all ?_
  | with_reducible refine s_any ?_
  | with_reducible refine s_sum ?_
  | with_reducible refine s_sumAT ?_
  | with_reducible refine s_sumAL ?_
  | with_reducible refine s_cnT ?_
  | with_reducible refine s_cnF ?_
  | with_reducible refine s_par3 ?_
  | with_reducible refine s_max2 ?_
  | with_reducible refine s_min2 ?_
  | with_reducible refine s_chain ?_
  | with_reducible refine s_chainT ?_
  | with_reducible refine s_inL ?_
  | with_reducible refine s_inT ?_
  | with_reducible refine s_append ?_
  | with_reducible refine s_extend ?_
  | with_reducible refine s_popAt ?_
  | with_reducible refine s_pop ?_
  | with_reducible refine s_slT ?_
  | with_reducible refine s_slL ?_
  | with_reducible refine s_itT ?_
  | with_reducible refine s_itL ?_
  | with_reducible refine s_itC ?_
  | ((with_reducible refine' s_rng1 ?k1 ?_); (case k1 => walk_at "side"))
  | ((with_reducible refine' s_rng2 ?k1 ?_); (case k1 => walk_at "side"))
  | ((with_reducible refine' s_rngD ?k1 ?_); (case k1 => walk_at "side"))
  | ((with_reducible refine' And.intro (s_isDT ?k1) ?_); (case k1 => walk_at "look"))
  | ((with_reducible refine' s_isLst ?k1 ?_); (case k1 => walk_at "look"))
  | ((with_reducible refine' s_lstOkL ?k1 ?_); (case k1 => walk_at "look"))
  | ((with_reducible refine' And.intro ?k1 ?_); (case k1 => walk_at "side")))
local macro_rules | `(tactic| walk_at "s") => `(tactic| repeat (walk_at "s1"))
local macro_rules | `(tactic| walk_at "ep") => `(tactic| simp only [startD, List.map_cons, List.map_nil, List.length_cons, List.length_nil, Nat.reduceAdd, Nat.reduceSub, List.replicate, List.cons_append, List.nil_append, List.set_cons_succ, List.set_cons_zero])
def spRun : SpD := fun ds st R _ => ∃ (q letters states nodes : Nat) (rows : List (List Nat)) (shows : List Rat) (web : List (List (List Mv))) (plan : List Choice), ds = [gaugeD letters rows shows, webD web, planD plan] ∧ Run q letters states nodes rows shows web ∧
  (∀ ch ∈ plan, ChoiceOk states nodes web ch) ∧ (plan.length + 1) * q ≤ 4000 ∧ plan.length ≤ 100 ∧ R (.tup [qD (backK rows shows web plan (0, 0)), .tup ((runK rows web plan start).map fun l => lineD (lined l))]) st
theorem len_run : ∀ ds st R Rx, spRun ds st R Rx → ds.length = 3 := by
  rintro ds st R Rx ⟨_, _, _, _, _, _, _, _, rfl, -⟩; rfl
theorem ne_obs {st : DS} {a b : Addr} {o u : OB} (h : st a = some o) (g : st b = some u) (n : o ≠ u) : a ≠ b := fun e => n (by rw [e, g] at h; exact (Option.some.inj h).symm)
theorem dictD_items (l : Ch) : ((dictD l).map fun p => D.key p.1) = l.map fun p : Pt × Rat => D.key (keyN p.1) := by
  unfold dictD; rw [List.map_map]; rfl
theorem Lev.bits1 {Q : Int} {q t S N : Nat} {l : Ch} (v : Lev (Q ^ t) S N l) (hQ : 0 < Q) (bQ : Bt q Q) : ∀ p ∈ l, Bits (1 + t * q) p.2 := v.bits (pow_pos' hQ t) (powQ bQ t)
theorem at_map {α : Type} {f : α → D} {l : List α} {i : Nat} {d : α} (h : i < l.length) : atI (l.map f) (i : Int) = some (f (l.getD i d)) := atI_map (by rw [List.getD_eq_getElem?_getD, List.getElem?_eq_getElem h]; rfl)
/-- inside the loop over the moves of one corner -/
theorem run_moves {rows : List (List Nat)} {shows : List Rat} {web : List (List (List Mv))} {q letters states nodes t : Nat} {ch : Choice} {l pre rest : Ch} {p : Pt × Rat} {a9 : Addr} {T : DS} {e0 e1 e2 e4 e5 e6 e7 e8 : Option D} {x14 x15 x16 : Option D} {nx rt bk ct ex}
    (h : Run q letters states nodes rows shows web) (hc : ChoiceOk states nodes web ch) (v : Lev (webQ web ^ t) states nodes l) (e : l = pre ++ p :: rest) (hp : ¬ pick ch p.1 < 0) (hq : (t + 1) * q ≤ 4000)
    (hT : T a9 = some (.dt (dictD (addAll [] (contrs rows web ch pre)))))
    (k : ∀ T' x14 x15 x16, T' a9 = some (.dt (dictD (addAll [] (contrs rows web ch (pre ++ [p]))))) → (∀ b, b ≠ a9 → T' b = T b) →
      nx [e0, e1, e2, some (.tup (rows.map natsD)), e4, e5, e6, e7, e8, some (.ref a9), some (.int (p.1.1 : Int)), some (.int (p.1.2 : Int)), some (qD p.2), some (cornerD (cnr web p.1.2 (pick ch p.1))), x14, x15, x16] T') :
    (wFor (wIt (wVar 13)) (gT 3 (gsCons (gN 14) (gsCons (gN 15) (gsCons (gN 16) gsNil)))) (wDrop (wCall spAdded (wACons (wVar 9) (wACons (wKey (wACons (wBin ixD (wBin ixD (wVar 3) (wVar 10)) (wVar 15)) (wACons (wVar 16) wANil))) (wACons (wCall spTimes (wACons (wVar 12) (wACons (wCall spPartOf (wACons (wVar 14) (wACons (wVar 13) wANil))) wANil))) wANil))))))
      { nx := nx, rt := rt, bk := bk, ct := ct, ex := ex } [e0, e1, e2, some (.tup (rows.map natsD)), e4, e5, e6, e7, e8, some (.ref a9), some (.int (p.1.1 : Int)), some (.int (p.1.2 : Int)), some (qD p.2), some (cornerD (cnr web p.1.2 (pick ch p.1))), x14, x15, x16] T := by
  have hpl : p ∈ l := by rw [e]; exact List.mem_append_right _ List.mem_cons_self
  obtain ⟨r1, r2⟩ := v.r p hpl
  obtain ⟨m1, m2⟩ := h.cn hc r1 r2 hp
  obtain ⟨ne, cl, mv⟩ := h.c _ m2 _ m1
  have hQ := h.pos
  have w0 := wsum_pos ne mv
  have dQ := webQ_dvd m2 m1
  have bw : Bt q (wsum (cnr web p.1.2 (pick ch p.1))) := h.q.dvd dQ hQ
  have hq1 : q ≤ 4000 := by
    rw [Nat.succ_mul] at hq; omega
  have bp := v.bits1 hQ h.q p hpl
  have hrow := h.g.r _ (getD_mem (d := []) (l := rows) (i := p.1.1) (by rw [h.g.rl]; exact r1))
  have hcon : contr rows web ch p = (cnr web p.1.2 (pick ch p.1)).map fun m => (goesTo rows p.1.1 m, p.2 * ((m.1 : Rat) / (wsum (cnr web p.1.2 (pick ch p.1)) : Rat))) := by
    unfold contr; rw [if_neg hp]
  have hsn := contrs_snoc (rows := rows) (web := web) ch pre p
  rw [hcon] at hsn
  have hall : contrs rows web ch l = contrs rows web ch pre ++ ((cnr web p.1.2 (pick ch p.1)).map (fun m => (goesTo rows p.1.1 m, p.2 * ((m.1 : Rat) / (wsum (cnr web p.1.2 (pick ch p.1)) : Rat)))) ++ contrs rows web ch rest) := by
    rw [e, contrs_append, contrs_cons, hcon]
  rw [hsn] at k
  clear hsn hcon
  generalize hcc : cnr web p.1.2 (pick ch p.1) = c at *
  walk_at "s"
  show itemsD (.tup (c.map moveD)) T _
  walk_at "s"
  refine for_pre moveD c (fun p3 ep T3 => ∃ x14 x15 x16, T3 a9 = some (.dt (dictD (addAll [] (contrs rows web ch pre ++ p3.map fun m => (goesTo rows p.1.1 m, p.2 * ((m.1 : Rat) / (wsum c : Rat))))))) ∧ (∀ b, b ≠ a9 → T3 b = T b) ∧
    ep = [e0, e1, e2, some (.tup (rows.map natsD)), e4, e5, e6, e7, e8, some (.ref a9), some (.int (p.1.1 : Int)), some (.int (p.1.2 : Int)), some (qD p.2), some (cornerD c), x14, x15, x16]) ?_ ?_ ⟨x14, x15, x16, by rw [List.map_nil, List.append_nil]; exact hT, fun _ _ => rfl, rfl⟩
  · rintro ep T3 ⟨y14, y15, y16, hT3, hoff, rfl⟩
    exact ⟨trivial, k T3 y14 y15 y16 hT3 hoff⟩
  · rintro K p3 m r3 ep T3 em ⟨y14, y15, y16, hT3, hoff, rfl⟩ ih
    refine ⟨trivial, ?_⟩
    have hm : m ∈ c := by rw [em]; exact List.mem_append_right _ List.mem_cons_self
    have hmv := mv m hm
    obtain ⟨hv1, hv2⟩ := v.pre (rest := (m :: r3).map (fun m => (goesTo rows p.1.1 m, p.2 * ((m.1 : Rat) / (wsum c : Rat)))) ++ contrs rows web ch rest) (cs := contrs rows web ch pre ++ p3.map fun m => (goesTo rows p.1.1 m, p.2 * ((m.1 : Rat) / (wsum c : Rat)))) h hc (pow_pos' hQ t) (by
      rw [hall, em, List.map_append]
      simp only [List.append_assoc])
    rw [← Int.pow_succ] at hv1 hv2
    obtain ⟨⟨_, fm⟩, _⟩ := hv2 _ _ (by rw [List.map_cons]; rfl)
    have bv : Bits (1 + (t + 1) * q) (p.2 * ((m.1 : Rat) / (wsum c : Rat))) := fm.bits (e := 0) (pow_pos' hQ _) (powQ h.q _) (Nat.le_refl _)
    have bwm := ((wq_fit ne mv dQ hm).1.bits (e := 0) hQ h.q (Nat.le_refl _))
    have hl1 := hv1.len
    have hS : states * nodes ≤ 64 * 64 := Nat.mul_le_mul h.g.s1 h.n1
    have er : (rows.getD p.1.1 []).map (fun i : Nat => D.int (i : Int)) = (rows.getD p.1.1 []).map (fun i : Nat => D.int (i : Int)) := rfl
    have look1 : atI (rows.map natsD) (p.1.1 : Int) = some (natsD (rows.getD p.1.1 [])) := at_map (by rw [h.g.rl]; exact r1)
    have look2 : atI ((rows.getD p.1.1 []).map fun i : Nat => D.int (i : Int)) (m.2.1 : Int) = some (.int (((rows.getD p.1.1 []).getD m.2.1 0 : Nat) : Int)) := at_map (by rw [hrow.1]; exact hmv.l)
    unfold moveD
    walk_at "s"
    unfold natsD
    walk_at "s"
    have hq2 : t * q + q ≤ 4000 := by rw [Nat.succ_mul] at hq; exact hq
    refine ⟨c, m.1, rfl, by omega, w0, bw.log9 (by omega), ?_⟩
    walk_at "s"
    refine times_q bp bwm (by omega) fun _ => ?_
    walk_at "s"
    refine ⟨a9, _, goesTo rows p.1.1 m, _, 1 + (t + 1) * q, rfl, hT3, by omega, hv1.bits1 hQ h.q, bv, by omega, ?_⟩
    refine ih _ _ ⟨_, _, _, ?_, fun b hb => ?_, rfl⟩
    · rw [put_same]
      conv => rhs; rw [List.map_append, ← List.append_assoc, addAll_append]
      rfl
    · rw [put_ne hb]; exact hoff b hb
theorem contr_stop {rows : List (List Nat)} {web : List (List (List Mv))} {ch : Choice} {p : Pt × Rat} (hp : pick ch p.1 < 0) : contr rows web ch p = [] := by unfold contr; rw [if_pos hp]
theorem stops_snoc {shows : List Rat} (ch : Choice) (pre : Ch) (p : Pt × Rat) : stops shows ch (pre ++ [p]) = stops shows ch pre ++ if pick ch p.1 < 0 then [p.2 * shows.getD p.1.1 0] else [] := by
  unfold stops
  rw [List.filter_append, List.map_append]
  congr 1
  rw [List.filter_cons]
  by_cases hp : pick ch p.1 < 0
  · rw [decide_eq_true hp, if_pos rfl, if_pos hp]; rfl
  · rw [decide_eq_false hp, if_neg (by decide), if_neg hp]; rfl
theorem runK_len {rows : List (List Nat)} {web : List (List (List Mv))} : ∀ (pre : List Choice) (l : Ch), (runK rows web pre l).length = pre.length + 1
  | [], _ => rfl
  | c :: pre, l => by show (runK rows web pre (nextK rows web c l)).length + 1 = _; rw [runK_len pre]; rfl
theorem read_run : ∀ ds st R Rx, spRun ds st R Rx → wb_run_plan spListed spTimes spAdded spPartOf spTotalM (bodyEd R Rx) (startD 17 ds) st := by
  rintro ds st R Rx ⟨q, letters, states, nodes, rows, shows, web, plan, rfl, h, hp, hq, hl, kk⟩
  have hQ := h.pos
  have hS : states * nodes ≤ 64 * 64 := Nat.mul_le_mul h.g.s1 h.n1
  have hsl := h.g.sl
  unfold wb_run_plan bodyEd gaugeD webD planD
  walk_at "s"
  intro a5 h5
  walk_at "s"
  refine ⟨put_same, _, rfl, ?_⟩
  rw [put_put]
  walk_at "s"
  intro p6 h6
  have e5 : put (put st a5 (.dt [([Sum.inl 0, Sum.inl 0], D.tup [.int 1, .int 1])])) p6 (.lst []) a5 = some (.dt (dictD start)) := look_new h6 put_same
  walk_at "s"
  refine ⟨a5, start, rfl, e5, List.nodup_cons.mpr ⟨List.not_mem_nil, .nil⟩, by decide, ?_⟩
  walk_at "s"
  intro p7 h7
  have n67 : p6 ≠ p7 := fun z => by rw [← z, put_same] at h7; cases h7
  have n57 : a5 ≠ p7 := fun z => by rw [← z, e5] at h7; cases h7
  have f6 : st p6 = none := by
    rcases Decidable.em (p6 = a5) with z | z
    · rw [z]; exact h5
    · rwa [put_ne z] at h6
  have f7 : st p7 = none := by rwa [put_ne n67.symm, put_ne n57.symm] at h7
  have e52 := look_new (o := .lst [lineD (lined start)]) h7 e5
  have e6 : put (put (put st a5 (.dt [([Sum.inl 0, Sum.inl 0], D.tup [.int 1, .int 1])])) p6 (.lst [])) p7 (.lst [lineD (lined start)]) p6 = some (.lst []) := look_new h7 put_same
  have s0 : Sub st (put (put (put st a5 (.dt [([Sum.inl 0, Sum.inl 0], D.tup [.int 1, .int 1])])) p6 (.lst [])) p7 (.lst [lineD (lined start)])) := ((Sub.put_new h5).put_to _ f6).put_to _ f7
  have e7 : put (put (put st a5 (.dt [([Sum.inl 0, Sum.inl 0], D.tup [.int 1, .int 1])])) p6 (.lst [])) p7 (.lst [lineD (lined start)]) p7 = some (.lst [lineD (lined start)]) := put_same
  generalize put (put (put st a5 (.dt [([Sum.inl 0, Sum.inl 0], D.tup [.int 1, .int 1])])) p6 (.lst [])) p7 (.lst [lineD (lined start)]) = T0 at *
  walk_at "s"
  walk_at "ep"
  refine for_pre choiceD plan (fun pre ep T => ∃ (a5 : Addr) (x8 x9 x10 x11 x12 x13 x14 x15 x16 : Option D), st a5 = none ∧ T a5 = some (.dt (dictD (levK rows web pre start))) ∧ T p6 = some (.lst ((stopsK rows shows web pre start).map qD)) ∧ T p7 = some (.lst ((runK rows web pre start).map fun l => lineD (lined l))) ∧ Sub st T ∧
    ep = [some (gaugeD letters rows shows), some (webD web), some (planD plan), some (.tup (rows.map natsD)), some (.tup (shows.map qD)), some (.ref a5), some (.ref p6), some (.ref p7), x8, x9, x10, x11, x12, x13, x14, x15, x16]) ?_ ?_
    ⟨a5, none, none, none, none, none, none, none, none, none, h5, e52, e6, e7, s0, rfl⟩
  · rintro ep T ⟨a5, x8, x9, x10, x11, x12, x13, x14, x15, x16, h5, e5, e6, e7, sT, rfl⟩
    refine ⟨trivial, ?_⟩
    have v := levs0 h hp
    have n65 : p6 ≠ a5 := ne_obs e6 e5 (fun z => by cases z)
    have n75 : p7 ≠ a5 := ne_obs e7 e5 (fun z => by cases z)
    obtain ⟨sf, sl⟩ := stops_fit h (pre := plan) (t := 0) (T := plan.length) hp (by omega) (by rw [Int.pow_zero]; exact start_lev h.g.s0 h.n0)
    have sl2 : plan.length * (states * nodes) ≤ 100 * (64 * 64) := Nat.mul_le_mul hl hS
    walk_at "s"
    refine s_lockT e5 ?_
    walk_at "s"
    refine s_keysT put_same ?_
    rw [dictD_items]
    have hq3 : plan.length * q ≤ 4000 := by rw [Nat.succ_mul] at hq; omega
    generalize hL : levK rows web plan start = l at *
    refine for_pre (fun p : Pt × Rat => D.key (keyN p.1)) l (fun pre ep T2 => ∃ (x8 x9 x10 x11 x12 x13 x14 x15 x16 : Option D), T2 a5 = some (.lt (dictD l)) ∧ T2 p6 = some (.lst ((stopsK rows shows web plan start ++ ends shows pre).map qD)) ∧ T2 p7 = some (.lst ((runK rows web plan start).map fun l => lineD (lined l))) ∧ Sub st T2 ∧
      ep = [some (gaugeD letters rows shows), some (webD web), some (planD plan), some (.tup (rows.map natsD)), some (.tup (shows.map qD)), some (.ref a5), some (.ref p6), some (.ref p7), x8, x9, x10, x11, x12, x13, x14, x15, x16]) ?_ ?_ ⟨x8, x9, x10, x11, x12, x13, x14, x15, x16, put_same, by rw [put_ne n65, e6]; show _ = some (OB.lst ((_ ++ []).map qD)); rw [List.append_nil], by rw [put_ne n75]; exact e7, sT.put_to _ h5, rfl⟩
    · rintro ep T2 ⟨x8, x9, x10, x11, x12, x13, x14, x15, x16, g5, g6, g7, sT2, rfl⟩
      refine ⟨g5, g5, ?_⟩
      have k6 : put T2 a5 (.dt (dictD l)) p6 = some (.lst ((partsK rows shows web plan start).map qD)) := by rw [put_ne n65, g6, partsK_eq, hL]
      have k7 : put T2 a5 (.dt (dictD l)) p7 = some (.lst ((runK rows web plan start).map fun l => lineD (lined l))) := by rw [put_ne n75, g7]
      walk_at "s"
      refine ⟨.ref p6, partsK rows shows web plan start, webQ web ^ plan.length * 840, 8, 11 + plan.length * q, 22, rfl, .inr ⟨p6, rfl, k6⟩, ⟨Int.mul_pos (pow_pos' hQ _) (by decide), ?_, ?_, ?_, by omega⟩, ?_, ?_⟩
      · exact ((powQ h.q _).mul (show Bt 10 840 by unfold Bt; decide)).mono (by omega)
      · intro x hx
        rw [partsK_eq, hL] at hx
        rcases List.mem_append.mp hx with hx | hx
        · exact sf x hx
        · obtain ⟨p, hp, rfl⟩ := List.mem_map.mp hx
          exact chance_fit h (Nat.le_refl _) v p hp
      · rw [partsK_eq, hL, List.length_append]
        have : (ends shows l).length = l.length := List.length_map _
        have := v.len
        show _ ≤ 4194304
        omega
      · rw [partsK_eq, hL, List.length_append]
        have : (ends shows l).length = l.length := List.length_map _
        have := v.len
        omega
      · rw [show sumQ (partsK rows shows web plan start) = backK rows shows web plan (0, 0) from mean_start plan]
        walk_at "s"
        exact s_endS (sT2.put_to _ h5) kk
    · rintro K pre p rest ep T2 e ⟨x8, x9, x10, x11, x12, x13, x14, x15, x16, g5, g6, g7, sT2, rfl⟩ ih
      refine ⟨g5, ?_⟩
      have hpl : p ∈ l := by rw [e]; exact List.mem_append_right _ List.mem_cons_self
      obtain ⟨r1, r2⟩ := v.r p hpl
      have hv : valD (dictD l) [.inl (p.1.1 : Int), .inl (p.1.2 : Int)] = some (qD p.2) := by
        have := dictD_val l p.1
        rw [getK_some v.ok.nd (show (p.1, p.2) ∈ l from hpl)] at this
        exact this
      have bp := v.bits1 hQ h.q p hpl
      have bs := (h.show r1).bits (e := 3) (by decide) (show Bt 10 840 by unfold Bt; decide) (by decide)
      have look : atI (shows.map qD) (p.1.1 : Int) = some (qD (shows.getD p.1.1 0)) := at_map (by omega)
      have hpre : pre.length ≤ l.length := by rw [e, List.length_append]; omega
      have hvl := v.len
      unfold keyN
      walk_at "s"
      refine times_q bp bs (by omega) fun _ => ?_
      walk_at "s"
      refine ⟨by rw [List.length_map, List.length_append]; have : (ends shows pre).length = pre.length := List.length_map _; show _ < 2 ^ 24; omega, ?_⟩
      refine ih _ _ ⟨_, _, _, _, _, _, _, _, _, by rw [put_ne n65.symm]; exact g5, ?_, by rw [put_ne n67.symm]; exact g7, sT2.put_to _ f6, rfl⟩
      rw [put_same]
      unfold ends
      simp only [List.map_append, List.append_assoc]
      rfl
  · rintro K pre ch rest ep T e ⟨a5, x8, x9, x10, x11, x12, x13, x14, x15, x16, h5, e5, e6, e7, sT, rfl⟩ ih
    refine ⟨trivial, ?_⟩
    have hch : ch ∈ plan := by rw [e]; exact List.mem_append_right _ List.mem_cons_self
    have hco := hp ch hch
    have hpp : ∀ c ∈ pre, ChoiceOk states nodes web c := fun c hc => hp c (by rw [e]; exact List.mem_append_left _ hc)
    have hpl : pre.length + 1 ≤ plan.length := by rw [e, List.length_append, List.length_cons]; omega
    have hqt : (pre.length + 1) * q ≤ 4000 := Nat.le_trans (Nat.mul_le_mul_right _ (by omega)) hq
    have hq3 : pre.length * q ≤ 4000 := by have := hqt; rw [Nat.succ_mul] at this; omega
    have v := levs0 h hpp
    have v2 := v.next h hco (pow_pos' hQ _)
    obtain ⟨sf, sl⟩ := stops_fit h (pre := pre) (t := 0) (T := plan.length) hpp (by omega) (by rw [Int.pow_zero]; exact start_lev h.g.s0 h.n0)
    have sl2 : pre.length * (states * nodes) ≤ 100 * (64 * 64) := Nat.mul_le_mul (by omega) hS
    have n65 : p6 ≠ a5 := ne_obs e6 e5 (fun z => by cases z)
    have n75 : p7 ≠ a5 := ne_obs e7 e5 (fun z => by cases z)
    have hrl : (runK rows web pre start).length = pre.length + 1 := runK_len pre start
    have hrs := runK_snoc (rows := rows) (web := web) pre ch start
    have hss := stopsK_snoc (rows := rows) (web := web) (shows := shows) pre ch start
    have hls := levK_snoc (rows := rows) (web := web) pre ch start
    rw [hrs, hss, hls] at ih
    clear hrs hss hls
    generalize hL : levK rows web pre start = l at *
    have hvl := v.len
    unfold choiceD
    walk_at "s"
    intro a9 h9
    have n95 : a5 ≠ a9 := ne_new h9 e5
    have n96 : p6 ≠ a9 := ne_new h9 e6
    have n97 : p7 ≠ a9 := ne_new h9 e7
    have f9 : st a9 = none := by
      cases q9 : st a9 with
      | none => rfl
      | some o => rw [sT a9 o q9] at h9; cases h9
    walk_at "s"
    refine s_lockT (a := a5) (look_new h9 e5) ?_
    walk_at "s"
    refine s_keysT put_same ?_
    rw [dictD_items]
    walk_at "ep"
    refine for_pre (fun p : Pt × Rat => D.key (keyN p.1)) l (fun pre2 ep T2 => ∃ (x10 x11 x12 x13 x14 x15 x16 : Option D), T2 a5 = some (.lt (dictD l)) ∧ T2 a9 = some (.dt (dictD (addAll [] (contrs rows web ch pre2)))) ∧ T2 p6 = some (.lst ((stopsK rows shows web pre start ++ stops shows ch pre2).map qD)) ∧ T2 p7 = some (.lst ((runK rows web pre start).map fun l => lineD (lined l))) ∧ Sub st T2 ∧
      ep = [some (gaugeD letters rows shows), some (webD web), some (planD plan), some (.tup (rows.map natsD)), some (.tup (shows.map qD)), some (.ref a5), some (.ref p6), some (.ref p7), some (choiceD ch), some (.ref a9), x10, x11, x12, x13, x14, x15, x16]) ?_ ?_
      ⟨x10, x11, x12, x13, x14, x15, x16, put_same, by rw [put_ne n95.symm]; exact put_same, by rw [put_ne n65, put_ne n96, e6]; show _ = some (OB.lst ((_ ++ []).map qD)); rw [List.append_nil], by rw [put_ne n75, put_ne n97]; exact e7, (sT.put_to _ f9).put_to _ h5, rfl⟩
    · rintro ep T2 ⟨x10, x11, x12, x13, x14, x15, x16, g5, g9, g6, g7, sT2, rfl⟩
      refine ⟨g5, g5, ?_⟩
      have k9 : put T2 a5 (.dt (dictD l)) a9 = some (.dt (dictD (nextK rows web ch l))) := by rw [put_ne n95.symm, g9]; rfl
      have k6 : put T2 a5 (.dt (dictD l)) p6 = some (.lst ((stopsK rows shows web pre start ++ stops shows ch l).map qD)) := by rw [put_ne n65, g6]
      have k7 : put T2 a5 (.dt (dictD l)) p7 = some (.lst ((runK rows web pre start).map fun l => lineD (lined l))) := by rw [put_ne n75, g7]
      have v2l := v2.len
      walk_at "s"
      refine ⟨a9, nextK rows web ch l, rfl, k9, v2.ok.nd, by omega, ?_⟩
      walk_at "s"
      refine ⟨by rw [List.length_map, hrl]; show _ < 2 ^ 24; omega, ?_⟩
      refine ih _ _ ⟨a9, _, _, _, _, _, _, _, _, _, f9, by rw [put_ne n97.symm]; exact k9, by rw [put_ne n67]; exact k6, ?_, (sT2.put_to _ h5).put_to _ f7, rfl⟩
      rw [put_same, List.map_append]; rfl
    · rintro K2 pre2 p rest2 ep T2 e2 ⟨x10, x11, x12, x13, x14, x15, x16, g5, g9, g6, g7, sT2, rfl⟩ ih2
      refine ⟨g5, ?_⟩
      have hpl2 : p ∈ l := by rw [e2]; exact List.mem_append_right _ List.mem_cons_self
      obtain ⟨r1, r2⟩ := v.r p hpl2
      have hv : valD (dictD l) [.inl (p.1.1 : Int), .inl (p.1.2 : Int)] = some (qD p.2) := by
        have := dictD_val l p.1
        rw [getK_some v.ok.nd (show (p.1, p.2) ∈ l from hpl2)] at this
        exact this
      have bp := v.bits1 hQ h.q p hpl2
      have bs := (h.show r1).bits (e := 3) (by decide) (show Bt 10 840 by unfold Bt; decide) (by decide)
      have look : atI (shows.map qD) (p.1.1 : Int) = some (qD (shows.getD p.1.1 0)) := at_map (by omega)
      have hch1 : ch.length = states := hco.1
      have hrl1 := (hco.2 _ (getD_mem (d := []) (l := ch) (i := p.1.1) (by omega))).1
      have lookc : atI (ch.map fun r => D.tup (r.map D.int)) (p.1.1 : Int) = some (.tup ((ch.getD p.1.1 []).map D.int)) := at_map (by omega)
      have lookn : atI ((ch.getD p.1.1 []).map D.int) (p.1.2 : Int) = some (.int (pick ch p.1)) := at_map (f := D.int) (d := -1) (by omega)
      have hpre : pre2.length + 1 ≤ l.length := by rw [e2, List.length_append, List.length_cons]; omega
      unfold keyN choiceD
      walk_at "s"
      refine s_dec (fun hs => ?_) (fun hs => ?_)
      · walk_at "s"
        refine times_q bp bs (by omega) fun _ => ?_
        walk_at "s"
        have hsl2 : (stops shows ch pre2).length ≤ pre2.length := by unfold stops; rw [List.length_map]; exact List.length_filter_le _ _
        refine ⟨by rw [List.length_map, List.length_append]; show _ < 2 ^ 24; omega, ?_⟩
        refine ih2 _ _ ⟨_, _, _, _, _, _, _, by rw [put_ne n65.symm]; exact g5, ?_, ?_, by rw [put_ne n67.symm]; exact g7, sT2.put_to _ f6, rfl⟩
        · rw [put_ne n96.symm, contrs_snoc, contr_stop hs, List.append_nil]; exact g9
        · rw [put_same, stops_snoc, if_pos hs]
          simp only [List.map_append, List.append_assoc]
          rfl
      · have hb := hco.at r1 r2
        have lookw : atI (web.map nodeD) (p.1.2 : Int) = some (.tup ((web.getD p.1.2 []).map cornerD)) := at_map (f := nodeD) (d := []) (by rw [h.wl]; exact r2)
        have lookm : atI ((web.getD p.1.2 []).map cornerD) (pick ch p.1) = some (cornerD (cnr web p.1.2 (pick ch p.1))) := by
          have : atI ((web.getD p.1.2 []).map cornerD) (((pick ch p.1).toNat : Nat) : Int) = some (cornerD ((web.getD p.1.2 []).getD (pick ch p.1).toNat [])) := at_map (by omega)
          rwa [Int.toNat_of_nonneg (by omega)] at this
        unfold webD
        walk_at "s"
        walk_at "ep"
        refine run_moves h hco v e2 hs hqt g9 fun T3 y14 y15 y16 h1 h2 => ?_
        refine ih2 _ _ ⟨_, _, _, _, _, _, _, by rw [h2 _ n95]; exact g5, h1, ?_, by rw [h2 _ n97]; exact g7, fun b o ho => ?_, rfl⟩
        · rw [h2 _ n96, stops_snoc, if_neg hs, List.append_nil]; exact g6
        · rw [h2 b (fun z => by rw [z, f9] at ho; cases ho)]; exact sT2 b o ho
end C
end DL

namespace DL
namespace C
open PySem L2
local macro_rules | `(tactic| walk_at "look") => `(tactic| first
  | assumption
  | exact put_same
  | (refine look_ne (by first | assumption | exact Ne.symm (by assumption)) ?_; walk_at "look")
  | (refine look_new (by assumption) ?_; walk_at "look"))
local macro_rules | `(tactic| walk_at "side") => `(tactic| first | assumption | exact trivial | decide | omega | exact ⟨by assumption, by assumption⟩ | exact ⟨by omega, by omega⟩ | exact ⟨by decide, by decide⟩ | exact ⟨by decide, by decide, by decide⟩ | (exact .inl (.inl ⟨by decide, by decide⟩)) | (exact .inl (.inr ⟨by decide, by decide⟩)) | (exact .inl (.inl ⟨by omega, by omega⟩)) | (exact .inl (.inr ⟨by omega, by omega⟩)))
local macro_rules | `(tactic| walk_at "opt") => `(tactic| first | (with_reducible exact atI_0 _ _) | (with_reducible exact atI_1 _ _ _) | (with_reducible exact atI_2 _ _ _ _) | (with_reducible exact atI_3 _ _ _ _ _) | (with_reducible exact atI_4 _ _ _ _ _ _) | assumption | exact atI_0 _ _ | exact atI_1 _ _ _ | exact atI_2 _ _ _ _ | exact atI_3 _ _ _ _ _ | exact atI_4 _ _ _ _ _ _ | exact boolsOf_map _ | exact intsOf_map _ | exact rfl)
local macro_rules | `(tactic| walk_at "s1") => `(tactic| first
  | ((with_reducible refine' s_var ?k1 ?_); (case k1 => exact rfl))
  | with_reducible refine s_bin ?_
  | with_reducible refine s_c ?_
  | with_reducible refine s_seqM ?_
  | with_reducible refine s_asB ?_
  | with_reducible refine s_asI ?_
  | with_reducible refine s_asRI ?_
  | with_reducible refine s_acons ?_
  | with_reducible refine s_anil ?_
  | with_reducible refine s_call ?_
  | with_reducible refine s_cb ?_
  | with_reducible refine s_set ?_
  | with_reducible refine s_ixT ?_
  | with_reducible refine s_ixL ?_
  | with_reducible refine s_ixS ?_
  | ((with_reducible refine' s_getL ?k1 ?_); (case k1 => walk_at "look"))
  | ((with_reducible refine' s_opt ?k1 ?_); (case k1 => walk_at "opt"))
  | with_reducible refine s_binT ?_
  | with_reducible refine s_tup ?_
  | with_reducible refine s_tpT ?_
  | with_reducible refine s_key ?_
  | with_reducible refine s_kII ?_
  | with_reducible refine s_kIII ?_
  | with_reducible refine s_dget ?_
  | ((with_reducible refine' s_atT ?k1 ?_); (case k1 => walk_at "look"))
  | ((with_reducible refine' s_atTl ?k1 ?_); (case k1 => walk_at "look"))
  | ((with_reducible refine' s_got ?k1 ?_); (case k1 => assumption))
  | with_reducible refine s_din ?_
  | with_reducible refine s_dinT ?_
  | with_reducible refine s_dgetor ?_
  | with_reducible refine s_dput ?_
  | with_reducible refine s_dnewT ?_
  | with_reducible refine s_disp1 ?_
  | with_reducible refine s_keys ?_
  | with_reducible refine s_ixK0 ?_
  | with_reducible refine s_ixK1 ?_
  | with_reducible refine s_bTK ?_
  | with_reducible refine s_gTK ?_
  | with_reducible refine s_lst ?_
  | with_reducible refine s_ret ?_
  | with_reducible refine s_if ?_
  | with_reducible refine s_nextM ?_
  | with_reducible refine s_drop ?_
  | with_reducible refine s_par ?_
  | with_reducible refine s_asg ?_
  | with_reducible refine s_gN ?_
  | ((with_reducible refine' s_gT ?k1 ?_); (case k1 => exact rfl))
  | with_reducible refine s_gsC ?_
  | with_reducible refine s_gsN ?_
  | with_reducible refine s_gIx ?_
  | with_reducible refine s_setD ?_
  | with_reducible refine s_for ?_
  | with_reducible refine s_b ?_
  | with_reducible refine s_and ?_
  | with_reducible refine s_or ?_
  | with_reducible refine s_not ?_
  | with_reducible refine s_ife ?_
  | with_reducible refine s_neg ?_
  | with_reducible refine s_notV ?_
  | with_reducible refine s_andV ?_
  | with_reducible refine s_orV ?_
  | with_reducible refine s_isi ?_
  | with_reducible refine s_m ?_
  | with_reducible refine s_none ?_
  | with_reducible refine s_noneT ?_
  | with_reducible refine s_sl ?_
  | with_reducible refine s_oN ?_
  | with_reducible refine s_oS ?_
  | with_reducible refine s_lc ?_
  | with_reducible refine s_bN ?_
  | with_reducible refine s_bT ?_
  | with_reducible refine s_bTC ?_
  | with_reducible refine s_bTN ?_
  | with_reducible refine s_it ?_
  | with_reducible refine s_rng ?_
  | with_reducible refine s_zip ?_
  | with_reducible refine s_zip2 ?_
  | with_reducible refine s_enum ?_
  | with_reducible refine s_enum1 ?_
  | with_reducible refine s_yes ?_
  | with_reducible refine s_cT ?_
  | with_reducible refine s_cF ?_
  | with_reducible refine s_retN ?_
  | with_reducible refine s_try ?_
  | with_reducible refine s_raise0 ?_
  | with_reducible refine s_raise1 ?_
  | with_reducible refine s_isE ?_
  | with_reducible refine s_fld ?_
  | with_reducible refine s_brk ?_
  | with_reducible refine s_cnt ?_
  | ((with_reducible refine' s_aug ?k1 ?_); (case k1 => exact rfl))
  | with_reducible refine s_augix ?_
  | with_reducible refine s_addI ?_
  | ((with_reducible refine' s_addT ?k1 ?_); (case k1 => walk_at "side"))
  | ((with_reducible refine' s_addS ?k1 ?_); (case k1 => walk_at "side"))
  | with_reducible refine s_catL ?_
  | with_reducible refine s_subI ?_
  | ((with_reducible refine' s_mulI ?k1 ?_); (case k1 => walk_at "side"))
  | ((with_reducible refine' s_divI ?k1 ?_); (case k1 => walk_at "side"))
  | ((with_reducible refine' s_modI ?k1 ?_); (case k1 => walk_at "side"))
  | ((with_reducible refine' s_powI ?k1 ?_); (case k1 => walk_at "side"))
  | ((with_reducible refine' s_shlI ?k1 ?_); (case k1 => walk_at "side"))
  | with_reducible refine s_iaddI ?_
  | ((with_reducible refine' s_iaddS ?k1 ?_); (case k1 => walk_at "side"))
  | with_reducible refine s_eqI ?_
  | with_reducible refine s_neI ?_
  | with_reducible refine s_eqS ?_
  | with_reducible refine s_neS ?_
  | with_reducible refine s_eqB ?_
  | with_reducible refine s_neB ?_
  | with_reducible refine s_cmp ?_
  | ((with_reducible refine' s_ixX ?k1 ?_); (case k1 => walk_at "side"))
  | with_reducible refine s_lenT ?_
  | with_reducible refine s_lenL ?_
  | with_reducible refine s_lenC ?_
  | ((with_reducible refine' s_lenS ?k1 ?_); (case k1 => walk_at "side"))
  | with_reducible refine s_abs ?_
  | with_reducible refine s_intI ?_
  | with_reducible refine s_intB ?_
  | with_reducible refine s_gcd ?_
  | with_reducible refine s_listT ?_
  | with_reducible refine s_listL ?_
  | with_reducible refine s_tupT ?_
  | with_reducible refine s_tupL ?_
  | with_reducible refine s_all ?_
  | with_reducible refine s_any ?_
  | with_reducible refine s_sum ?_
  | with_reducible refine s_sumAT ?_
  | with_reducible refine s_sumAL ?_
  | with_reducible refine s_cnT ?_
  | with_reducible refine s_cnF ?_
  | with_reducible refine s_par3 ?_
  | with_reducible refine s_max2 ?_
  | with_reducible refine s_min2 ?_
  | with_reducible refine s_chain ?_
  | with_reducible refine s_chainT ?_
  | with_reducible refine s_inL ?_
  | with_reducible refine s_inT ?_
  | with_reducible refine s_append ?_
  | with_reducible refine s_extend ?_
  | with_reducible refine s_popAt ?_
  | with_reducible refine s_pop ?_
  | with_reducible refine s_slT ?_
  | with_reducible refine s_slL ?_
  | with_reducible refine s_itT ?_
  | with_reducible refine s_itL ?_
  | with_reducible refine s_itC ?_
  | ((with_reducible refine' s_rng1 ?k1 ?_); (case k1 => walk_at "side"))
  | ((with_reducible refine' s_rng2 ?k1 ?_); (case k1 => walk_at "side"))
  | ((with_reducible refine' s_rngD ?k1 ?_); (case k1 => walk_at "side"))
  | ((with_reducible refine' And.intro (s_isDT ?k1) ?_); (case k1 => walk_at "look"))
  | ((with_reducible refine' s_isLst ?k1 ?_); (case k1 => walk_at "look"))
  | ((with_reducible refine' s_lstOkL ?k1 ?_); (case k1 => walk_at "look"))
  | ((with_reducible refine' And.intro ?k1 ?_); (case k1 => walk_at "side")))
local macro_rules | `(tactic| walk_at "s") => `(tactic| repeat (walk_at "s1"))
local macro_rules | `(tactic| walk_at "ep") => `(tactic| simp only [startD, List.map_cons, List.map_nil, List.length_cons, List.length_nil, Nat.reduceAdd, Nat.reduceSub, List.replicate, List.cons_append, List.nil_append, List.set_cons_succ, List.set_cons_zero])
def spLines : SpD := fun ds st R _ => ∃ (q letters states nodes : Nat) (rows : List (List Nat)) (shows : List Rat) (web : List (List (List Mv))) (plan : List Choice), ds = [gaugeD letters rows shows, webD web, planD plan] ∧ Run q letters states nodes rows shows web ∧
  (∀ ch ∈ plan, ChoiceOk states nodes web ch) ∧ (plan.length + 1) * q ≤ 4000 ∧ plan.length ≤ 100 ∧ R (.tup ((runK rows web plan start).map fun l => lineD (lined l))) st
theorem len_lines : ∀ ds st R Rx, spLines ds st R Rx → ds.length = 3 := by
  rintro ds st R Rx ⟨_, _, _, _, _, _, _, _, rfl, -⟩; rfl
theorem lined_start : lined start = start := by
  have e : srtK start = [(0, 0)] := srtK_of (.refl _) (List.pairwise_singleton _ _)
  unfold lined
  rw [e]; rfl
/-- tuple([(key[0], key[1], now[key]) for key in sorted(now)]) -/
theorem line_list {T : DS} {a3 : Addr} {l : Ch} {R : RD} {Rx : RX} {e0 e1 e2 e4 e5 e6 e7 e8 e9 e10 e11 e12 e13 : Option D} (ha : T a3 = some (.dt (dictD l))) (hn : (keys l).Nodup) (hl : l.length ≤ 1000000)
    (k : ∀ T', (∀ b o, T b = some o → T' b = some o) → Sub T T' → R (lineD (lined l)) T') :
    (wCB tupleD (wACons (wLc (wIt (wCB sortedKD (wACons (wVar 3) wANil))) (bN 13) [13] wYes (wTup (wACons (wBin ixD (wVar 13) (wC (.int 0))) (wACons (wBin ixD (wVar 13) (wC (.int 1))) (wACons (wDGet (wVar 3) (wVar 13)) wANil))))) wANil))
      [e0, e1, e2, some (.ref a3), e4, e5, e6, e7, e8, e9, e10, e11, e12, e13] T R Rx := by
  walk_at "s"
  refine s_srtK ha (key_ints l) fun es p hp hw hst => ?_
  obtain ⟨rfl, pm⟩ := srt_es hn hp hw
  have hlen : (srtK l).length = l.length := by rw [pm.length_eq]; exact List.length_map _
  walk_at "s"
  rw [List.map_map]
  refine lc_pre (fun k : Pt => D.key (keyN k)) (srtK l) (fun pre acc T' => acc = (pre.map fun k => entD (k, (getK l k).getD 0)) ∧ T' p = some (.lst ((srtK l).map (D.key ∘ keyN))) ∧ Sub T T' ∧ T' a3 = some (.dt (dictD l))) ?_ ?_ ⟨rfl, put_same, Sub.put_new hst, look_new hst ha⟩
  · rintro acc T' ⟨rfl, hT, sT, aT⟩
    refine ⟨hT, ?_⟩
    intro u hu
    walk_at "s"
    have s2 := sT.trans (Sub.put_new (o := .lst (List.map (fun k => entD (k, (getK l k).getD 0)) (srtK l))) hu)
    have := k _ s2 s2
    unfold lineD lined at this
    rw [List.map_map] at this
    exact this
  · rintro K pre k' r acc T' e ⟨rfl, hT, sT, aT⟩ ih
    refine ⟨hT, ?_⟩
    have hk : k' ∈ srtK l := by rw [e]; exact List.mem_append_right _ List.mem_cons_self
    obtain ⟨v, hv⟩ := get_srt hn pm hk
    have hv2 : valD (dictD l) [.inl (k'.1 : Int), .inl (k'.2 : Int)] = some (qD v) := by
      have := dictD_val l k'
      rw [hv] at this
      exact this
    have hpl : pre.length + 1 ≤ (srtK l).length := by rw [e, List.length_append, List.length_cons]; omega
    unfold keyN
    walk_at "s"
    refine ⟨by rw [List.length_map]; show _ < 2 ^ 24; omega, ?_⟩
    exact ih _ _ ⟨by rw [List.map_append, List.map_cons, hv]; rfl, hT, sT, aT⟩
theorem getD_q (o : Option Rat) : (o.map qD).getD (.tup [.int 0, .int 1]) = qD (o.getD 0) := by cases o <;> rfl
/-- inside the loop over the moves of one corner -/
theorem line_moves {rows : List (List Nat)} {shows : List Rat} {web : List (List (List Mv))} {q letters states nodes t : Nat} {ch : Choice} {l pre rest : Ch} {p : Pt × Rat} {a3 a6 : Addr} {T : DS} {e1 e2 e4 e5 e8 e13 : Option D} {x10 x11 x12 : Option D} {nx rt bk ct ex}
    (h : Run q letters states nodes rows shows web) (hc : ChoiceOk states nodes web ch) (v : Lev (webQ web ^ t) states nodes l) (e : l = pre ++ p :: rest) (hp : ¬ pick ch p.1 < 0) (hq : (t + 1) * q ≤ 4000)
    (hn : T a3 = some (.lt (dictD l))) (hT : T a6 = some (.dt (dictD (addAll [] (contrs rows web ch pre)))))
    (k : ∀ T' x10 x11 x12, T' a6 = some (.dt (dictD (addAll [] (contrs rows web ch (pre ++ [p]))))) → (∀ b, b ≠ a6 → T' b = T b) →
      nx [some (gaugeD letters rows shows), e1, e2, some (.ref a3), e4, e5, some (.ref a6), some (.key (keyN p.1)), e8, some (cornerD (cnr web p.1.2 (pick ch p.1))), x10, x11, x12, e13] T') :
    (wFor (wIt (wVar 9)) (gN 10) (wSeq (wSet 11 (wKey (wACons (wBin ixD (wBin ixD (wBin ixD (wVar 0) (wC (.int 2))) (wBin ixD (wVar 7) (wC (.int 0)))) (wBin ixD (wVar 10) (wC (.int 1)))) (wACons (wBin ixD (wVar 10) (wC (.int 2))) wANil))))
    (wSeq (wSet 12 (wCall spTimes (wACons (wDGet (wVar 3) (wVar 7)) (wACons (wTup (wACons (wBin ixD (wVar 10) (wC (.int 0))) (wACons (wCall spWsum (wACons (wVar 9) wANil)) wANil))) wANil))))
    (wDPut (wVar 6) (wVar 11) (wCall spPlus (wACons (wDGetOr (wVar 6) (wVar 11) (wTup (wACons (wC (.int 0)) (wACons (wC (.int 1)) wANil)))) (wACons (wVar 12) wANil)))))))
      { nx := nx, rt := rt, bk := bk, ct := ct, ex := ex } [some (gaugeD letters rows shows), e1, e2, some (.ref a3), e4, e5, some (.ref a6), some (.key (keyN p.1)), e8, some (cornerD (cnr web p.1.2 (pick ch p.1))), x10, x11, x12, e13] T := by
  have hpl : p ∈ l := by rw [e]; exact List.mem_append_right _ List.mem_cons_self
  obtain ⟨r1, r2⟩ := v.r p hpl
  obtain ⟨m1, m2⟩ := h.cn hc r1 r2 hp
  obtain ⟨ne, cl, mv⟩ := h.c _ m2 _ m1
  have hQ := h.pos
  have w0 := wsum_pos ne mv
  have dQ := webQ_dvd m2 m1
  have bw : Bt q (wsum (cnr web p.1.2 (pick ch p.1))) := h.q.dvd dQ hQ
  have hq2 : t * q + q ≤ 4000 := by rw [Nat.succ_mul] at hq; exact hq
  have bp := v.bits1 hQ h.q p hpl
  have hrow := h.g.r _ (getD_mem (d := []) (l := rows) (i := p.1.1) (by rw [h.g.rl]; exact r1))
  have n36 : a3 ≠ a6 := ne_obs hn hT (fun z => by cases z)
  have hcon : contr rows web ch p = (cnr web p.1.2 (pick ch p.1)).map fun m => (goesTo rows p.1.1 m, p.2 * ((m.1 : Rat) / (wsum (cnr web p.1.2 (pick ch p.1)) : Rat))) := by
    unfold contr; rw [if_neg hp]
  have hsn := contrs_snoc (rows := rows) (web := web) ch pre p
  rw [hcon] at hsn
  have hall : contrs rows web ch l = contrs rows web ch pre ++ ((cnr web p.1.2 (pick ch p.1)).map (fun m => (goesTo rows p.1.1 m, p.2 * ((m.1 : Rat) / (wsum (cnr web p.1.2 (pick ch p.1)) : Rat)))) ++ contrs rows web ch rest) := by
    rw [e, contrs_append, contrs_cons, hcon]
  have hv : valD (dictD l) (keyN p.1) = some (qD p.2) := by
    have := dictD_val l p.1
    rw [getK_some v.ok.nd (show (p.1, p.2) ∈ l from hpl)] at this
    exact this
  rw [hsn] at k
  clear hsn hcon
  generalize hcc : cnr web p.1.2 (pick ch p.1) = c at *
  walk_at "s"
  show itemsD (.tup (c.map moveD)) T _
  walk_at "s"
  refine for_pre moveD c (fun p3 ep T3 => ∃ x10 x11 x12, T3 a6 = some (.dt (dictD (addAll [] (contrs rows web ch pre ++ p3.map fun m => (goesTo rows p.1.1 m, p.2 * ((m.1 : Rat) / (wsum c : Rat))))))) ∧ (∀ b, b ≠ a6 → T3 b = T b) ∧
    ep = [some (gaugeD letters rows shows), e1, e2, some (.ref a3), e4, e5, some (.ref a6), some (.key (keyN p.1)), e8, some (cornerD c), x10, x11, x12, e13]) ?_ ?_ ⟨x10, x11, x12, by rw [List.map_nil, List.append_nil]; exact hT, fun _ _ => rfl, rfl⟩
  · rintro ep T3 ⟨y14, y15, y16, hT3, hoff, rfl⟩
    exact ⟨trivial, k T3 y14 y15 y16 hT3 hoff⟩
  · rintro K p3 m r3 ep T3 em ⟨y14, y15, y16, hT3, hoff, rfl⟩ ih
    refine ⟨trivial, ?_⟩
    have hm : m ∈ c := by rw [em]; exact List.mem_append_right _ List.mem_cons_self
    have hmv := mv m hm
    obtain ⟨hv1, hv2⟩ := v.pre (rest := (m :: r3).map (fun m => (goesTo rows p.1.1 m, p.2 * ((m.1 : Rat) / (wsum c : Rat)))) ++ contrs rows web ch rest) (cs := contrs rows web ch pre ++ p3.map fun m => (goesTo rows p.1.1 m, p.2 * ((m.1 : Rat) / (wsum c : Rat)))) h hc (pow_pos' hQ t) (by
      rw [hall, em, List.map_append]
      simp only [List.append_assoc])
    rw [← Int.pow_succ] at hv1 hv2
    obtain ⟨⟨_, fm⟩, _⟩ := hv2 _ _ (by rw [List.map_cons]; rfl)
    have bv : Bits (1 + (t + 1) * q) (p.2 * ((m.1 : Rat) / (wsum c : Rat))) := fm.bits (e := 0) (pow_pos' hQ _) (powQ h.q _) (Nat.le_refl _)
    have hl1 := hv1.len
    have hS : states * nodes ≤ 64 * 64 := Nat.mul_le_mul h.g.s1 h.n1
    have look1 : atI (rows.map natsD) (p.1.1 : Int) = some (natsD (rows.getD p.1.1 [])) := at_map (by rw [h.g.rl]; exact r1)
    have look2 : atI ((rows.getD p.1.1 []).map fun i : Nat => D.int (i : Int)) (m.2.1 : Int) = some (.int (((rows.getD p.1.1 []).getD m.2.1 0 : Nat) : Int)) := at_map (by rw [hrow.1]; exact hmv.l)
    have hn3 : T3 a3 = some (.lt (dictD l)) := by rw [hoff a3 n36]; exact hn
    have gv : getK (addAll [] (contrs rows web ch pre ++ p3.map fun m => (goesTo rows p.1.1 m, p.2 * ((m.1 : Rat) / (wsum c : Rat))))) (goesTo rows p.1.1 m) = getK (addAll [] (contrs rows web ch pre ++ p3.map fun m => (goesTo rows p.1.1 m, p.2 * ((m.1 : Rat) / (wsum c : Rat))))) (goesTo rows p.1.1 m) := rfl
    have bg : Bits (1 + (t + 1) * q) ((getK (addAll [] (contrs rows web ch pre ++ p3.map fun m => (goesTo rows p.1.1 m, p.2 * ((m.1 : Rat) / (wsum c : Rat))))) (goesTo rows p.1.1 m)).getD 0) := by
      cases eg : getK (addAll [] (contrs rows web ch pre ++ p3.map fun m => (goesTo rows p.1.1 m, p.2 * ((m.1 : Rat) / (wsum c : Rat))))) (goesTo rows p.1.1 m) with
      | none => exact bits_zero (by omega)
      | some x => exact hv1.bits1 hQ h.q _ (getK_mem eg)
    have bm : Bt 10 m.1 := by
      have := hmv.w0
      have := hmv.w1
      unfold Bt
      show _ < 1024
      omega
    have pd := den_pos p.2
    have hbd : (p.2.den : Int) * wsum c ≠ 0 := Int.mul_ne_zero (by omega) (by omega)
    unfold moveD gaugeD
    walk_at "s"
    unfold keyN
    walk_at "s"
    unfold natsD
    walk_at "s"
    rw [show ([.inl (p.1.1 : Int), .inl (p.1.2 : Int)] : List Key) = keyN p.1 from rfl]
    walk_at "s"
    refine ⟨c, rfl, by omega, ?_⟩
    walk_at "s"
    refine ⟨_, _, _, _, rfl, bp.n.ok bm (by omega), bp.d.ok bw (by omega), hbd, (bp.d.mul bw).log9 (by omega), frac_rat hbd fun z ez _ _ => ?_⟩
    have ez2 : z = p.2 * ((m.1 : Rat) / (wsum c : Rat)) := by
      rw [ez, Rat.intCast_mul, Rat.intCast_mul]
      have a := rat_cast p.2
      have q1 := cast_ne (x := (p.2.den : Int)) (by omega)
      have q2 := cast_ne (x := wsum c) (by omega)
      conv => rhs; rw [← a]
      grind
    rw [show fr z.num (z.den : Int) = qD z from rfl, ez2]
    walk_at "s"
    rw [show ([.inl (((rows.getD p.1.1 []).getD m.2.1 0 : Nat) : Int), .inl (m.2.2 : Int)] : List Key) = keyN (goesTo rows p.1.1 m) from rfl, dictD_val, getD_q]
    walk_at "s"
    refine ⟨_, _, _, _, rfl, bg, bv, by omega, trivial, fun _ => ?_⟩
    walk_at "s"
    refine s_putT hT3 (by rw [dictD_len]; show _ < 2 ^ 24; omega) ?_
    rw [dictD_put]
    refine ih _ _ ⟨_, _, _, ?_, fun b hb => ?_, rfl⟩
    · rw [put_same]
      conv => rhs; rw [List.map_append, ← List.append_assoc, addAll_append]
      rfl
    · rw [put_ne hb]; exact hoff b hb
theorem s_geD {m n : Int} {st : DS} {R : RD} (h : R (.bl (decide (m ≥ n))) st) : geD (.int m) (.int n) st R := h
end C
end DL

namespace DL
namespace C
open PySem L2
/-! the mean told backward: bounds -/
section
variable {rows : List (List Nat)} {shows : List Rat} {web : List (List (List Mv))} {q letters states nodes : Nat}
theorem cast_q (w : Int) : qD (w : Rat) = .tup [.int w, .int 1] := rfl
theorem sum_fit {M : Int} (hM : 0 < M) (f : Mv → Rat) : ∀ {c : List Mv}, (∀ m ∈ c, 0 < m.1 ∧ Fit M 8 (f m)) → Fit M (8 * (wsum c).natAbs) (sumQ (c.map fun m => (m.1 : Rat) * f m)) ∧ 0 ≤ wsum c
  | [], _ => ⟨(Fit.zero M).mono (Int.dvd_refl _) (Nat.zero_le _), Int.le_refl 0⟩
  | m :: c, h => by
    obtain ⟨a1, a2⟩ := sum_fit hM f (c := c) fun m hm => h m (List.mem_cons_of_mem _ hm)
    obtain ⟨m0, fm⟩ := h m List.mem_cons_self
    have fw : Fit 1 m.1.natAbs (m.1 : Rat) := fit_of (n := m.1) (d := 1) (by decide) (by show (m.1 : Rat) = (m.1 : Rat) / ((1 : Int) : Rat); rw [Rat.intCast_one, Rat.div_def]; grind) (Int.dvd_refl _) (by show m.1.natAbs ≤ m.1.natAbs * 1; omega)
    have := fw.mul fm
    rw [Int.one_mul] at this
    have h2 := this.add a1 hM
    refine ⟨h2.mono (Int.dvd_refl _) ?_, ?_⟩
    · show m.1.natAbs * 8 + 8 * (wsum c).natAbs ≤ 8 * (m.1 + wsum c).natAbs
      omega
    · show 0 ≤ m.1 + wsum c
      omega
theorem back_fit (h : Run q letters states nodes rows shows web) : ∀ {plan : List Choice}, (∀ ch ∈ plan, ChoiceOk states nodes web ch) → ∀ {p : Pt}, p.1 < states → p.2 < nodes → Fit (webQ web ^ plan.length * 840) 8 (backK rows shows web plan p)
  | [], _, p, h1, h2 => by
    show Fit (webQ web ^ 0 * 840) 8 (shows.getD p.1 0)
    rw [Int.pow_zero, Int.one_mul]
    exact h.show h1
  | ch :: r, hc, p, h1, h2 => by
    have hco := hc ch List.mem_cons_self
    have hM : 0 < webQ web ^ r.length * 840 := Int.mul_pos (pow_pos' h.pos _) (by decide)
    unfold backK
    by_cases hp : pick ch p < 0
    · rw [if_pos hp]
      exact (h.show h1).mono (Int.dvd_mul_left _ _) (Nat.le_refl _)
    · rw [if_neg hp]
      obtain ⟨m1, m2⟩ := h.cn hco h1 h2 hp
      obtain ⟨ne, cl, mv⟩ := h.c _ m2 _ m1
      have w0 := wsum_pos ne mv
      have dQ := webQ_dvd m2 m1
      have hrow := h.g.r _ (getD_mem (d := []) (l := rows) (i := p.1) (by rw [h.g.rl]; exact h1))
      obtain ⟨s1, _⟩ := sum_fit hM (fun m => backK rows shows web r (goesTo rows p.1 m)) (c := cnr web p.2 (pick ch p)) fun m hm => ⟨(mv m hm).w0, back_fit h (fun c hcc => hc c (List.mem_cons_of_mem _ hcc)) (hrow.2 _ (getD_mem (d := 0) (by rw [hrow.1]; exact (mv m hm).l))) (mv m hm).a⟩
      obtain ⟨t, ht, hb⟩ := s1.over hM
      have wq := cast_ne (x := wsum (cnr web p.2 (pick ch p))) (by omega)
      have mq := cast_ne (x := webQ web ^ r.length * 840) (by omega)
      refine fit_of (n := t) (d := (webQ web ^ r.length * 840) * wsum (cnr web p.2 (pick ch p))) (Int.mul_pos hM w0) ?_ ?_ ?_
      · rw [ht, Rat.intCast_mul _ (wsum _)]
        generalize ((webQ web ^ r.length * 840 : Int) : Rat) = a at *
        generalize ((wsum (cnr web p.2 (pick ch p)) : Int) : Rat) = b at *
        rw [Rat.div_def, Rat.div_def, Rat.div_def, Rat.inv_mul_rev]
        grind
      · rw [List.length_cons, Int.pow_succ, Int.mul_assoc, Int.mul_assoc, Int.mul_comm (webQ web) 840]
        refine Int.mul_dvd_mul (Int.dvd_refl _) ?_
        exact Int.mul_dvd_mul (Int.dvd_refl _) dQ
      · rw [Int.natAbs_mul]
        calc t.natAbs ≤ 8 * (wsum (cnr web p.2 (pick ch p))).natAbs * (webQ web ^ r.length * 840).natAbs := hb
          _ = 8 * ((webQ web ^ r.length * 840).natAbs * (wsum (cnr web p.2 (pick ch p))).natAbs) := by rw [Nat.mul_assoc, Nat.mul_comm (wsum _).natAbs]
theorem runK_at : ∀ (plan : List Choice) (l : Ch) (j : Nat), j ≤ plan.length → (runK rows web plan l)[j]? = some (levK rows web (plan.take j) l)
  | [], l, j, hj => by
    have : j = 0 := by simpa using hj
    subst this; rfl
  | ch :: plan, l, 0, _ => rfl
  | ch :: plan, l, j + 1, hj => by
    show (runK rows web plan (nextK rows web ch l))[j]? = _
    rw [runK_at plan _ j (by simpa using hj)]
    rfl
theorem next_key {ch : Choice} {l : Ch} {p : Pt} (hp : p ∈ keys l) (hs : ¬ pick ch p < 0) {m : Mv} (hm : m ∈ cnr web p.2 (pick ch p)) : goesTo rows p.1 m ∈ keys (nextK rows web ch l) := by
  obtain ⟨x, hx, rfl⟩ := List.mem_map.mp hp
  refine keys_all_of (.inr ?_)
  refine List.mem_map.mpr ⟨(goesTo rows x.1.1 m, x.2 * ((m.1 : Rat) / (wsum (cnr web x.1.2 (pick ch x.1)) : Rat))), ?_, rfl⟩
  unfold contrs
  refine List.mem_flatMap.mpr ⟨x, hx, ?_⟩
  unfold contr
  rw [if_neg hs]
  exact List.mem_map.mpr ⟨m, hm, rfl⟩
theorem start_key {plan : List Choice} (h : plan = []) : ((0, 0) : Pt) ∈ keys (levK rows web plan start) := by
  subst h
  exact List.mem_cons_self
end
theorem ltP_tri {a b : Pt} (h : ¬ ltP a b) (n : a ≠ b) : ltP b a := by
  have : ¬ (a.1 = b.1 ∧ a.2 = b.2) := fun z => n (Prod.ext z.1 z.2)
  unfold ltP at *
  omega
theorem ltP_tr {a b c : Pt} (h : ltP a b) (g : ltP b c) : ltP a c := by
  unfold ltP at *
  omega
theorem ins_ex (a : Pt) : ∀ m : List Pt, m.Pairwise ltP → a ∉ m → ∃ m' : List Pt, m'.Perm (a :: m) ∧ m'.Pairwise ltP
  | [], _, _ => ⟨[a], .refl _, List.pairwise_singleton _ _⟩
  | b :: m, hm, ha => by
    obtain ⟨m1, m2⟩ := List.pairwise_cons.mp hm
    rcases Classical.em (ltP a b) with h | h
    · refine ⟨a :: b :: m, .refl _, List.pairwise_cons.mpr ⟨fun x hx => ?_, hm⟩⟩
      rcases List.mem_cons.mp hx with rfl | hx
      · exact h
      · exact ltP_tr h (m1 x hx)
    · obtain ⟨m', p1, p2⟩ := ins_ex a m m2 fun z => ha (List.mem_cons_of_mem _ z)
      refine ⟨b :: m', (p1.cons b).trans (.swap ..), List.pairwise_cons.mpr ⟨fun x hx => ?_, p2⟩⟩
      rcases List.mem_cons.mp (p1.mem_iff.mp hx) with rfl | hx
      · exact ltP_tri h fun z => ha (by rw [z]; exact List.mem_cons_self)
      · exact m1 x hx
theorem srt_ex : ∀ l : List Pt, l.Nodup → ∃ m : List Pt, m.Perm l ∧ m.Pairwise ltP
  | [], _ => ⟨[], .refl _, .nil⟩
  | a :: l, h => by
    obtain ⟨h1, h2⟩ := List.nodup_cons.mp h
    obtain ⟨m, p1, p2⟩ := srt_ex l h2
    obtain ⟨m', q1, q2⟩ := ins_ex a m p2 fun z => h1 (p1.mem_iff.mp z)
    exact ⟨m', q1.trans (p1.cons a), q2⟩
theorem srtK_perm {l : Ch} (hn : (keys l).Nodup) : (srtK l).Perm (keys l) := by
  obtain ⟨m, h1, h2⟩ := srt_ex _ hn
  rw [srtK_of h1 h2]
  exact h1
end C
end DL

namespace DL
namespace K25
open PySem L2 C
local macro_rules | `(tactic| walk_at "look") => `(tactic| first
  | assumption
  | exact put_same
  | (refine look_ne (by first | assumption | exact Ne.symm (by assumption)) ?_; walk_at "look")
  | (refine look_new (by assumption) ?_; walk_at "look"))
local macro_rules | `(tactic| walk_at "side") => `(tactic| first | assumption | exact trivial | decide | omega | exact ⟨by assumption, by assumption⟩ | exact ⟨by omega, by omega⟩ | exact ⟨by decide, by decide⟩ | exact ⟨by decide, by decide, by decide⟩ | (exact .inl (.inl ⟨by decide, by decide⟩)) | (exact .inl (.inr ⟨by decide, by decide⟩)) | (exact .inl (.inl ⟨by omega, by omega⟩)) | (exact .inl (.inr ⟨by omega, by omega⟩)))
local macro_rules | `(tactic| walk_at "opt") => `(tactic| first | (with_reducible exact atI_0 _ _) | (with_reducible exact atI_1 _ _ _) | (with_reducible exact atI_2 _ _ _ _) | (with_reducible exact atI_3 _ _ _ _ _) | (with_reducible exact atI_4 _ _ _ _ _ _) | assumption | exact atI_0 _ _ | exact atI_1 _ _ _ | exact atI_2 _ _ _ _ | exact atI_3 _ _ _ _ _ | exact atI_4 _ _ _ _ _ _ | exact boolsOf_map _ | exact intsOf_map _ | exact rfl)
local macro_rules | `(tactic| walk_at "s1") => `(tactic| first
  | ((with_reducible refine' s_var ?k1 ?_); (case k1 => exact rfl))
  | with_reducible refine s_bin ?_
  | with_reducible refine s_c ?_
  | with_reducible refine s_seqM ?_
  | with_reducible refine s_asB ?_
  | with_reducible refine s_asI ?_
  | with_reducible refine s_asRI ?_
  | with_reducible refine s_acons ?_
  | with_reducible refine s_anil ?_
  | with_reducible refine s_call ?_
  | with_reducible refine s_cb ?_
  | with_reducible refine s_set ?_
  | with_reducible refine s_ixT ?_
  | with_reducible refine s_ixL ?_
  | with_reducible refine s_ixS ?_
  | ((with_reducible refine' s_getL ?k1 ?_); (case k1 => walk_at "look"))
  | ((with_reducible refine' s_opt ?k1 ?_); (case k1 => walk_at "opt"))
  | with_reducible refine s_binT ?_
  | with_reducible refine s_tup ?_
  | with_reducible refine s_tpT ?_
  | with_reducible refine s_key ?_
  | with_reducible refine s_kII ?_
  | with_reducible refine s_kIII ?_
  | with_reducible refine s_dget ?_
  | ((with_reducible refine' s_atT ?k1 ?_); (case k1 => walk_at "look"))
  | ((with_reducible refine' s_atTl ?k1 ?_); (case k1 => walk_at "look"))
  | ((with_reducible refine' s_got ?k1 ?_); (case k1 => assumption))
  | with_reducible refine s_din ?_
  | with_reducible refine s_dinT ?_
  | with_reducible refine s_dgetor ?_
  | with_reducible refine s_dput ?_
  | with_reducible refine s_dnewT ?_
  | with_reducible refine s_disp1 ?_
  | with_reducible refine s_keys ?_
  | with_reducible refine s_ixK0 ?_
  | with_reducible refine s_ixK1 ?_
  | with_reducible refine s_bTK ?_
  | with_reducible refine s_gTK ?_
  | with_reducible refine s_lst ?_
  | with_reducible refine s_ret ?_
  | with_reducible refine s_if ?_
  | with_reducible refine s_nextM ?_
  | with_reducible refine s_drop ?_
  | with_reducible refine s_par ?_
  | with_reducible refine s_asg ?_
  | with_reducible refine s_gN ?_
  | ((with_reducible refine' s_gT ?k1 ?_); (case k1 => exact rfl))
  | with_reducible refine s_gsC ?_
  | with_reducible refine s_gsN ?_
  | with_reducible refine s_gIx ?_
  | with_reducible refine s_setD ?_
  | with_reducible refine s_for ?_
  | with_reducible refine s_b ?_
  | with_reducible refine s_and ?_
  | with_reducible refine s_or ?_
  | with_reducible refine s_not ?_
  | with_reducible refine s_ife ?_
  | with_reducible refine s_neg ?_
  | with_reducible refine s_notV ?_
  | with_reducible refine s_andV ?_
  | with_reducible refine s_orV ?_
  | with_reducible refine s_isi ?_
  | with_reducible refine s_m ?_
  | with_reducible refine s_none ?_
  | with_reducible refine s_noneT ?_
  | with_reducible refine s_sl ?_
  | with_reducible refine s_oN ?_
  | with_reducible refine s_oS ?_
  | with_reducible refine s_lc ?_
  | with_reducible refine s_bN ?_
  | with_reducible refine s_bT ?_
  | with_reducible refine s_bTC ?_
  | with_reducible refine s_bTN ?_
  | with_reducible refine s_it ?_
  | with_reducible refine s_rng ?_
  | with_reducible refine s_zip ?_
  | with_reducible refine s_zip2 ?_
  | with_reducible refine s_enum ?_
  | with_reducible refine s_enum1 ?_
  | with_reducible refine s_yes ?_
  | with_reducible refine s_cT ?_
  | with_reducible refine s_cF ?_
  | with_reducible refine s_retN ?_
  | with_reducible refine s_try ?_
  | with_reducible refine s_raise0 ?_
  | with_reducible refine s_raise1 ?_
  | with_reducible refine s_isE ?_
  | with_reducible refine s_fld ?_
  | with_reducible refine s_brk ?_
  | with_reducible refine s_cnt ?_
  | ((with_reducible refine' s_aug ?k1 ?_); (case k1 => exact rfl))
  | with_reducible refine s_augix ?_
  | with_reducible refine s_addI ?_
  | ((with_reducible refine' s_addT ?k1 ?_); (case k1 => walk_at "side"))
  | ((with_reducible refine' s_addS ?k1 ?_); (case k1 => walk_at "side"))
  | with_reducible refine s_catL ?_
  | with_reducible refine s_subI ?_
  | ((with_reducible refine' s_mulI ?k1 ?_); (case k1 => walk_at "side"))
  | ((with_reducible refine' s_divI ?k1 ?_); (case k1 => walk_at "side"))
  | ((with_reducible refine' s_modI ?k1 ?_); (case k1 => walk_at "side"))
  | ((with_reducible refine' s_powI ?k1 ?_); (case k1 => walk_at "side"))
  | ((with_reducible refine' s_shlI ?k1 ?_); (case k1 => walk_at "side"))
  | with_reducible refine s_iaddI ?_
  | ((with_reducible refine' s_iaddS ?k1 ?_); (case k1 => walk_at "side"))
  | with_reducible refine s_eqI ?_
  | with_reducible refine s_neI ?_
  | with_reducible refine s_eqS ?_
  | with_reducible refine s_neS ?_
  | with_reducible refine s_eqB ?_
  | with_reducible refine s_neB ?_
  | with_reducible refine s_cmp ?_
  | ((with_reducible refine' s_ixX ?k1 ?_); (case k1 => walk_at "side"))
  | with_reducible refine s_lenT ?_
  | with_reducible refine s_lenL ?_
  | with_reducible refine s_lenC ?_
  | ((with_reducible refine' s_lenS ?k1 ?_); (case k1 => walk_at "side"))
  | with_reducible refine s_abs ?_
  | with_reducible refine s_intI ?_
  | with_reducible refine s_intB ?_
  | with_reducible refine s_gcd ?_
  | with_reducible refine s_listT ?_
  | with_reducible refine s_listL ?_
  | with_reducible refine s_tupT ?_
  | with_reducible refine s_tupL ?_
  | with_reducible refine s_all ?_
  | with_reducible refine s_any ?_
  | with_reducible refine s_sum ?_
  | with_reducible refine s_sumAT ?_
  | with_reducible refine s_sumAL ?_
  | with_reducible refine s_cnT ?_
  | with_reducible refine s_cnF ?_
  | with_reducible refine s_par3 ?_
  | with_reducible refine s_max2 ?_
  | with_reducible refine s_min2 ?_
  | with_reducible refine s_chain ?_
  | with_reducible refine s_chainT ?_
  | with_reducible refine s_inL ?_
  | with_reducible refine s_inT ?_
  | with_reducible refine s_append ?_
  | with_reducible refine s_extend ?_
  | with_reducible refine s_popAt ?_
  | with_reducible refine s_pop ?_
  | with_reducible refine s_slT ?_
  | with_reducible refine s_slL ?_
  | with_reducible refine s_itT ?_
  | with_reducible refine s_itL ?_
  | with_reducible refine s_itC ?_
  | ((with_reducible refine' s_rng1 ?k1 ?_); (case k1 => walk_at "side"))
  | ((with_reducible refine' s_rng2 ?k1 ?_); (case k1 => walk_at "side"))
  | ((with_reducible refine' s_rngD ?k1 ?_); (case k1 => walk_at "side"))
  | ((with_reducible refine' And.intro (s_isDT ?k1) ?_); (case k1 => walk_at "look"))
  | ((with_reducible refine' s_isLst ?k1 ?_); (case k1 => walk_at "look"))
  | ((with_reducible refine' s_lstOkL ?k1 ?_); (case k1 => walk_at "look"))
  | ((with_reducible refine' And.intro ?k1 ?_); (case k1 => walk_at "side")))
local macro_rules | `(tactic| walk_at "s") => `(tactic| repeat (walk_at "s1"))
local macro_rules | `(tactic| walk_at "ep") => `(tactic| simp only [startD, List.map_cons, List.map_nil, List.length_cons, List.length_nil, Nat.reduceAdd, Nat.reduceSub, List.replicate, List.cons_append, List.nil_append, List.set_cons_succ, List.set_cons_zero])
theorem read_lines : ∀ ds st R Rx, spLines ds st R Rx → wb_law_lines spTimes spWsum spPlus (bodyEd R Rx) (startD 14 ds) st := by
  rintro ds st R Rx ⟨q, letters, states, nodes, rows, shows, web, plan, rfl, h, hp, hq, hl, kk⟩
  have hQ := h.pos
  have hS : states * nodes ≤ 64 * 64 := Nat.mul_le_mul h.g.s1 h.n1
  unfold wb_law_lines bodyEd planD
  walk_at "s"
  intro a3 h3
  walk_at "s"
  refine ⟨put_same, _, rfl, ?_⟩
  rw [put_put]
  walk_at "s"
  intro p4 h4
  have e3 : put (put st a3 (.dt [([Sum.inl 0, Sum.inl 0], D.tup [.int 1, .int 1])])) p4 (.lst [lineD (lined start)]) a3 = some (.dt (dictD start)) := look_new h4 put_same
  have e4 : put (put st a3 (.dt [([Sum.inl 0, Sum.inl 0], D.tup [.int 1, .int 1])])) p4 (.lst [lineD (lined start)]) p4 = some (.lst [lineD (lined start)]) := put_same
  have f4 : st p4 = none := by
    rcases Decidable.em (p4 = a3) with z | z
    · rw [z]; exact h3
    · rwa [put_ne z] at h4
  have s0 : Sub st (put (put st a3 (.dt [([Sum.inl 0, Sum.inl 0], D.tup [.int 1, .int 1])])) p4 (.lst [lineD (lined start)])) := (Sub.put_new h3).put_to _ f4
  rw [show ([D.tup [.tup [.int 0, .int 0, .tup [.int 1, .int 1]]]] : List D) = [lineD (lined start)] by rw [lined_start]; rfl]
  generalize put (put st a3 (.dt [([Sum.inl 0, Sum.inl 0], D.tup [.int 1, .int 1])])) p4 (.lst [lineD (lined start)]) = T0 at *
  walk_at "s"
  walk_at "ep"
  refine for_pre choiceD plan (fun pre ep T => ∃ (a3 : Addr) (x5 x6 x7 x8 x9 x10 x11 x12 x13 : Option D), st a3 = none ∧ T a3 = some (.dt (dictD (levK rows web pre start))) ∧ T p4 = some (.lst ((runK rows web pre start).map fun l => lineD (lined l))) ∧ Sub st T ∧
    ep = [some (gaugeD letters rows shows), some (webD web), some (planD plan), some (.ref a3), some (.ref p4), x5, x6, x7, x8, x9, x10, x11, x12, x13]) ?_ ?_
    ⟨a3, none, none, none, none, none, none, none, none, none, h3, e3, e4, s0, rfl⟩
  · rintro ep T ⟨a3, x5, x6, x7, x8, x9, x10, x11, x12, x13, h3, e3, e4, sT, rfl⟩
    refine ⟨trivial, ?_⟩
    walk_at "s"
    exact s_endS sT kk
  · rintro K pre ch rest ep T e ⟨a3, x5, x6, x7, x8, x9, x10, x11, x12, x13, h3, e3, e4, sT, rfl⟩ ih
    refine ⟨trivial, ?_⟩
    have hch : ch ∈ plan := by rw [e]; exact List.mem_append_right _ List.mem_cons_self
    have hco := hp ch hch
    have hpp : ∀ c ∈ pre, ChoiceOk states nodes web c := fun c hc => hp c (by rw [e]; exact List.mem_append_left _ hc)
    have hpl : pre.length + 1 ≤ plan.length := by rw [e, List.length_append, List.length_cons]; omega
    have hqt : (pre.length + 1) * q ≤ 4000 := Nat.le_trans (Nat.mul_le_mul_right _ (by omega)) hq
    have v := levs0 h hpp
    have v2 := v.next h hco (pow_pos' hQ _)
    have n43 : p4 ≠ a3 := ne_obs e4 e3 (fun z => by cases z)
    have hrl : (runK rows web pre start).length = pre.length + 1 := runK_len pre start
    have hrs := runK_snoc (rows := rows) (web := web) pre ch start
    have hls := levK_snoc (rows := rows) (web := web) pre ch start
    rw [hrs, hls] at ih
    clear hrs hls
    generalize hL : levK rows web pre start = l at *
    have hvl := v.len
    have v2l := v2.len
    walk_at "s"
    intro a6 h6
    have n36 : a3 ≠ a6 := ne_new h6 e3
    have n46 : p4 ≠ a6 := ne_new h6 e4
    have f6 : st a6 = none := by
      cases q9 : st a6 with
      | none => rfl
      | some o => rw [sT a6 o q9] at h6; cases h6
    walk_at "s"
    refine s_lockT (a := a3) (look_new h6 e3) ?_
    walk_at "s"
    refine s_keysT put_same ?_
    rw [dictD_items]
    walk_at "ep"
    refine for_pre (fun p : Pt × Rat => D.key (keyN p.1)) l (fun pre2 ep T2 => ∃ (x7 x8 x9 x10 x11 x12 x13 : Option D), T2 a3 = some (.lt (dictD l)) ∧ T2 a6 = some (.dt (dictD (addAll [] (contrs rows web ch pre2)))) ∧ T2 p4 = some (.lst ((runK rows web pre start).map fun l => lineD (lined l))) ∧ Sub st T2 ∧
      ep = [some (gaugeD letters rows shows), some (webD web), some (planD plan), some (.ref a3), some (.ref p4), some (choiceD ch), some (.ref a6), x7, x8, x9, x10, x11, x12, x13]) ?_ ?_
      ⟨x7, x8, x9, x10, x11, x12, x13, put_same, by rw [put_ne n36.symm]; exact put_same, by rw [put_ne n43, put_ne n46]; exact e4, (sT.put_to _ f6).put_to _ h3, rfl⟩
    · rintro ep T2 ⟨x7, x8, x9, x10, x11, x12, x13, g3, g6, g4, sT2, rfl⟩
      refine ⟨g3, g3, ?_⟩
      have k6 : put T2 a3 (.dt (dictD l)) a6 = some (.dt (dictD (nextK rows web ch l))) := by rw [put_ne n36.symm, g6]; rfl
      have k4 : put T2 a3 (.dt (dictD l)) p4 = some (.lst ((runK rows web pre start).map fun l => lineD (lined l))) := by rw [put_ne n43, g4]
      have sT3 := sT2.put_to (.dt (dictD l)) h3
      generalize put T2 a3 (.dt (dictD l)) = T3 at *
      walk_at "s"
      walk_at "ep"
      refine line_list k6 v2.ok.nd (by omega) fun T4 hk _ => ?_
      have m4 := hk _ _ k4
      walk_at "s"
      refine ⟨by rw [List.length_map, hrl]; show _ < 2 ^ 24; omega, ?_⟩
      refine ih _ _ ⟨a6, _, _, _, _, _, _, _, _, _, f6, by rw [put_ne n46.symm]; exact hk _ _ k6, ?_, (fun b o hb => ?_), rfl⟩
      · rw [put_same, List.map_append]; rfl
      · have nb : b ≠ p4 := fun z => by rw [z, f4] at hb; cases hb
        rw [put_ne nb]
        exact hk _ _ (sT3 b o hb)
    · rintro K2 pre2 p rest2 ep T2 e2 ⟨x7, x8, x9, x10, x11, x12, x13, g3, g6, g4, sT2, rfl⟩ ih2
      refine ⟨g3, ?_⟩
      have hpl2 : p ∈ l := by rw [e2]; exact List.mem_append_right _ List.mem_cons_self
      obtain ⟨r1, r2⟩ := v.r p hpl2
      have hch1 : ch.length = states := hco.1
      have hrl1 := (hco.2 _ (getD_mem (d := []) (l := ch) (i := p.1.1) (by omega))).1
      have lookc : atI (ch.map fun r => D.tup (r.map D.int)) (p.1.1 : Int) = some (.tup ((ch.getD p.1.1 []).map D.int)) := at_map (by omega)
      have lookn : atI ((ch.getD p.1.1 []).map D.int) (p.1.2 : Int) = some (.int (pick ch p.1)) := at_map (f := D.int) (d := -1) (by omega)
      have hb := hco.at r1 r2
      unfold choiceD
      walk_at "s"
      unfold keyN
      walk_at "s"
      refine s_dec (fun hs => ?_) (fun hs => ?_)
      · have hs : ¬ pick ch p.1 < 0 := by omega
        have lookw : atI (web.map nodeD) (p.1.2 : Int) = some (.tup ((web.getD p.1.2 []).map cornerD)) := at_map (f := nodeD) (d := []) (by rw [h.wl]; exact r2)
        have lookm : atI ((web.getD p.1.2 []).map cornerD) (pick ch p.1) = some (cornerD (cnr web p.1.2 (pick ch p.1))) := by
          have : atI ((web.getD p.1.2 []).map cornerD) (((pick ch p.1).toNat : Nat) : Int) = some (cornerD ((web.getD p.1.2 []).getD (pick ch p.1).toNat [])) := at_map (by omega)
          rwa [Int.toNat_of_nonneg (by omega)] at this
        unfold webD
        walk_at "s"
        walk_at "ep"
        refine line_moves h hco v e2 hs hqt g3 g6 fun T3 y14 y15 y16 h1 h2 => ?_
        refine ih2 _ _ ⟨_, _, _, _, _, _, _, by rw [h2 _ n36]; exact g3, h1, by rw [h2 _ n46]; exact g4, fun b o ho => ?_, rfl⟩
        rw [h2 b (fun z => by rw [z, f6] at ho; cases ho)]; exact sT2 b o ho
      · have hs : pick ch p.1 < 0 := by omega
        walk_at "s"
        refine ih2 _ _ ⟨_, _, _, _, _, _, _, g3, ?_, g4, sT2, rfl⟩
        rw [contrs_snoc, contr_stop hs, List.append_nil]; exact g6
end K25
end DL

namespace DL
namespace K25
open PySem L2 C
local macro_rules | `(tactic| walk_at "look") => `(tactic| first
  | assumption
  | exact put_same
  | (refine look_ne (by first | assumption | exact Ne.symm (by assumption)) ?_; walk_at "look")
  | (refine look_new (by assumption) ?_; walk_at "look"))
local macro_rules | `(tactic| walk_at "side") => `(tactic| first | assumption | exact trivial | decide | omega | exact ⟨by assumption, by assumption⟩ | exact ⟨by omega, by omega⟩ | exact ⟨by decide, by decide⟩ | exact ⟨by decide, by decide, by decide⟩ | (exact .inl (.inl ⟨by decide, by decide⟩)) | (exact .inl (.inr ⟨by decide, by decide⟩)) | (exact .inl (.inl ⟨by omega, by omega⟩)) | (exact .inl (.inr ⟨by omega, by omega⟩)))
local macro_rules | `(tactic| walk_at "opt") => `(tactic| first | (with_reducible exact atI_0 _ _) | (with_reducible exact atI_1 _ _ _) | (with_reducible exact atI_2 _ _ _ _) | (with_reducible exact atI_3 _ _ _ _ _) | (with_reducible exact atI_4 _ _ _ _ _ _) | assumption | exact atI_0 _ _ | exact atI_1 _ _ _ | exact atI_2 _ _ _ _ | exact atI_3 _ _ _ _ _ | exact atI_4 _ _ _ _ _ _ | exact boolsOf_map _ | exact intsOf_map _ | exact rfl)
local macro_rules | `(tactic| walk_at "s1") => `(tactic| first
  | ((with_reducible refine' s_var ?k1 ?_); (case k1 => exact rfl))
  | with_reducible refine s_bin ?_
  | with_reducible refine s_c ?_
  | with_reducible refine s_seqM ?_
  | with_reducible refine s_asB ?_
  | with_reducible refine s_asI ?_
  | with_reducible refine s_asRI ?_
  | with_reducible refine s_acons ?_
  | with_reducible refine s_anil ?_
  | with_reducible refine s_call ?_
  | with_reducible refine s_cb ?_
  | with_reducible refine s_set ?_
  | with_reducible refine s_ixT ?_
  | with_reducible refine s_ixL ?_
  | with_reducible refine s_ixS ?_
  | ((with_reducible refine' s_getL ?k1 ?_); (case k1 => walk_at "look"))
  | ((with_reducible refine' s_opt ?k1 ?_); (case k1 => walk_at "opt"))
  | with_reducible refine s_binT ?_
  | with_reducible refine s_tup ?_
  | with_reducible refine s_tpT ?_
  | with_reducible refine s_key ?_
  | with_reducible refine s_kII ?_
  | with_reducible refine s_kIII ?_
  | with_reducible refine s_dget ?_
  | ((with_reducible refine' s_atT ?k1 ?_); (case k1 => walk_at "look"))
  | ((with_reducible refine' s_atTl ?k1 ?_); (case k1 => walk_at "look"))
  | ((with_reducible refine' s_got ?k1 ?_); (case k1 => assumption))
  | with_reducible refine s_din ?_
  | with_reducible refine s_dinT ?_
  | with_reducible refine s_dgetor ?_
  | with_reducible refine s_dput ?_
  | with_reducible refine s_dnewT ?_
  | with_reducible refine s_disp1 ?_
  | with_reducible refine s_keys ?_
  | with_reducible refine s_ixK0 ?_
  | with_reducible refine s_ixK1 ?_
  | with_reducible refine s_bTK ?_
  | with_reducible refine s_gTK ?_
  | with_reducible refine s_lst ?_
  | with_reducible refine s_ret ?_
  | with_reducible refine s_if ?_
  | with_reducible refine s_nextM ?_
  | with_reducible refine s_drop ?_
  | with_reducible refine s_par ?_
  | with_reducible refine s_asg ?_
  | with_reducible refine s_gN ?_
  | ((with_reducible refine' s_gT ?k1 ?_); (case k1 => exact rfl))
  | with_reducible refine s_gsC ?_
  | with_reducible refine s_gsN ?_
  | with_reducible refine s_gIx ?_
  | with_reducible refine s_setD ?_
  | with_reducible refine s_for ?_
  | with_reducible refine s_b ?_
  | with_reducible refine s_and ?_
  | with_reducible refine s_or ?_
  | with_reducible refine s_not ?_
  | with_reducible refine s_ife ?_
  | with_reducible refine s_neg ?_
  | with_reducible refine s_notV ?_
  | with_reducible refine s_andV ?_
  | with_reducible refine s_orV ?_
  | with_reducible refine s_isi ?_
  | with_reducible refine s_m ?_
  | with_reducible refine s_none ?_
  | with_reducible refine s_noneT ?_
  | with_reducible refine s_sl ?_
  | with_reducible refine s_oN ?_
  | with_reducible refine s_oS ?_
  | with_reducible refine s_lc ?_
  | with_reducible refine s_bN ?_
  | with_reducible refine s_bT ?_
  | with_reducible refine s_bTC ?_
  | with_reducible refine s_bTN ?_
  | with_reducible refine s_it ?_
  | with_reducible refine s_rng ?_
  | with_reducible refine s_zip ?_
  | with_reducible refine s_zip2 ?_
  | with_reducible refine s_enum ?_
  | with_reducible refine s_enum1 ?_
  | with_reducible refine s_yes ?_
  | with_reducible refine s_cT ?_
  | with_reducible refine s_cF ?_
  | with_reducible refine s_retN ?_
  | with_reducible refine s_try ?_
  | with_reducible refine s_raise0 ?_
  | with_reducible refine s_raise1 ?_
  | with_reducible refine s_isE ?_
  | with_reducible refine s_fld ?_
  | with_reducible refine s_brk ?_
  | with_reducible refine s_cnt ?_
  | ((with_reducible refine' s_aug ?k1 ?_); (case k1 => exact rfl))
  | with_reducible refine s_augix ?_
  | with_reducible refine s_addI ?_
  | ((with_reducible refine' s_addT ?k1 ?_); (case k1 => walk_at "side"))
  | ((with_reducible refine' s_addS ?k1 ?_); (case k1 => walk_at "side"))
  | with_reducible refine s_catL ?_
  | with_reducible refine s_subI ?_
  | ((with_reducible refine' s_mulI ?k1 ?_); (case k1 => walk_at "side"))
  | ((with_reducible refine' s_divI ?k1 ?_); (case k1 => walk_at "side"))
  | ((with_reducible refine' s_modI ?k1 ?_); (case k1 => walk_at "side"))
  | ((with_reducible refine' s_powI ?k1 ?_); (case k1 => walk_at "side"))
  | ((with_reducible refine' s_shlI ?k1 ?_); (case k1 => walk_at "side"))
  | with_reducible refine s_iaddI ?_
  | ((with_reducible refine' s_iaddS ?k1 ?_); (case k1 => walk_at "side"))
  | with_reducible refine s_eqI ?_
  | with_reducible refine s_neI ?_
  | with_reducible refine s_eqS ?_
  | with_reducible refine s_neS ?_
  | with_reducible refine s_eqB ?_
  | with_reducible refine s_neB ?_
  | with_reducible refine s_cmp ?_
  | ((with_reducible refine' s_ixX ?k1 ?_); (case k1 => walk_at "side"))
  | with_reducible refine s_lenT ?_
  | with_reducible refine s_lenL ?_
  | with_reducible refine s_lenC ?_
  | ((with_reducible refine' s_lenS ?k1 ?_); (case k1 => walk_at "side"))
  | with_reducible refine s_abs ?_
  | with_reducible refine s_intI ?_
  | with_reducible refine s_intB ?_
  | with_reducible refine s_gcd ?_
  | with_reducible refine s_listT ?_
  | with_reducible refine s_listL ?_
  | with_reducible refine s_tupT ?_
  | with_reducible refine s_tupL ?_
  | with_reducible refine s_all ?_
  | with_reducible refine s_any ?_
  | with_reducible refine s_sum ?_
  | with_reducible refine s_sumAT ?_
  | with_reducible refine s_sumAL ?_
  | with_reducible refine s_cnT ?_
  | with_reducible refine s_cnF ?_
  | with_reducible refine s_par3 ?_
  | with_reducible refine s_max2 ?_
  | with_reducible refine s_min2 ?_
  | with_reducible refine s_chain ?_
  | with_reducible refine s_chainT ?_
  | with_reducible refine s_inL ?_
  | with_reducible refine s_inT ?_
  | with_reducible refine s_append ?_
  | with_reducible refine s_extend ?_
  | with_reducible refine s_popAt ?_
  | with_reducible refine s_pop ?_
  | with_reducible refine s_slT ?_
  | with_reducible refine s_slL ?_
  | with_reducible refine s_itT ?_
  | with_reducible refine s_itL ?_
  | with_reducible refine s_itC ?_
  | ((with_reducible refine' s_rng1 ?k1 ?_); (case k1 => walk_at "side"))
  | ((with_reducible refine' s_rng2 ?k1 ?_); (case k1 => walk_at "side"))
  | ((with_reducible refine' s_rngD ?k1 ?_); (case k1 => walk_at "side"))
  | ((with_reducible refine' And.intro (s_isDT ?k1) ?_); (case k1 => walk_at "look"))
  | ((with_reducible refine' s_isLst ?k1 ?_); (case k1 => walk_at "look"))
  | ((with_reducible refine' s_lstOkL ?k1 ?_); (case k1 => walk_at "look"))
  | ((with_reducible refine' And.intro ?k1 ?_); (case k1 => walk_at "side")))
local macro_rules | `(tactic| walk_at "s") => `(tactic| repeat (walk_at "s1"))
local macro_rules | `(tactic| walk_at "ep") => `(tactic| simp only [startD, List.map_cons, List.map_nil, List.length_cons, List.length_nil, Nat.reduceAdd, Nat.reduceSub, List.replicate, List.cons_append, List.nil_append, List.set_cons_succ, List.set_cons_zero])
noncomputable def linesD (rows : List (List Nat)) (web : List (List (List Mv))) (plan : List Choice) : D := .tup ((runK rows web plan start).map fun l => lineD (lined l))
def spBack : SpD := fun ds st R _ => ∃ (q letters states nodes : Nat) (rows : List (List Nat)) (shows : List Rat) (web : List (List (List Mv))) (plan more : List Choice), ds = [gaugeD letters rows shows, webD web, planD plan, linesD rows web (plan ++ more)] ∧ Run q letters states nodes rows shows web ∧
  (∀ ch ∈ plan, ChoiceOk states nodes web ch) ∧ (plan.length + 1) * q ≤ 4000 ∧ plan.length ≤ 100 ∧ R (qD (backK rows shows web plan (0, 0))) st
theorem len_back : ∀ ds st R Rx, spBack ds st R Rx → ds.length = 4 := by
  rintro ds st R Rx ⟨_, _, _, _, _, _, _, _, _, rfl, -⟩; rfl
theorem lines_at {rows : List (List Nat)} {web : List (List (List Mv))} {plan more : List Choice} {j : Nat} (hj : j ≤ plan.length) : atI ((runK rows web (plan ++ more) start).map fun l => lineD (lined l)) (j : Int) = some (lineD (lined (levK rows web (plan.take j) start))) := by
  refine atI_map ?_
  rw [runK_at _ _ _ (by rw [List.length_append]; omega), List.take_append_of_le_length hj]
/-- a dict that tells f for the keys ks -/
def Tells (f : Pt → Rat) (ks : List Pt) (B : List (List Key × D)) : Prop := ∀ k ∈ ks, valD B (keyN k) = some (qD (f k))
theorem Tells.put {f : Pt → Rat} {ks : List Pt} {B : List (List Key × D)} (h : Tells f ks B) (k : Pt) : Tells f (ks ++ [k]) (putD B (keyN k) (qD (f k))) := fun j hj => by
  rw [valD_put]
  by_cases e : j = k
  · rw [if_pos (keyN_inj.mpr e), e]
  · rw [if_neg (fun z => e (keyN_inj.mp z))]
    rcases List.mem_append.mp hj with hj | hj
    · exact h j hj
    · exact absurd (List.mem_singleton.mp hj) e
theorem Tells.put2 {f : Pt → Rat} {ks : List Pt} {B : List (List Key × D)} (h : Tells f ks B) (k : Pt) (d : D) : Tells f (ks ++ [k]) (putD (putD B (keyN k) d) (keyN k) (qD (f k))) := fun j hj => by
  rw [valD_put, valD_put]
  by_cases e : j = k
  · rw [if_pos (keyN_inj.mpr e), e]
  · rw [if_neg (fun z => e (keyN_inj.mp z)), if_neg (fun z => e (keyN_inj.mp z))]
    rcases List.mem_append.mp hj with hj | hj
    · exact h j hj
    · exact absurd (List.mem_singleton.mp hj) e
theorem range_at {n a : Nat} {pre r : List Nat} (e : List.range n = pre ++ a :: r) : a = pre.length ∧ a < n := by
  have h : (List.range n)[pre.length]? = some a := by rw [e]; simp
  have hl : pre.length < n := by
    have := congrArg List.length e
    rw [List.length_range, List.length_append, List.length_cons] at this
    omega
  rw [List.getElem?_range hl] at h
  have := Option.some.inj h
  omega
theorem put_len3 {B : List (List Key × D)} {k : List Key} {d : D} {n : Nat} (h : B.length ≤ n) : (putD B k d).length ≤ n + 1 := Nat.le_trans (putD_len _ _ _) (by omega)
theorem read_back : ∀ ds st R Rx, spBack ds st R Rx → wb_law_mean_back spTimes spOver spSumM spWsum (bodyEd R Rx) (startD 13 ds) st := by
  rintro ds st R Rx ⟨q, letters, states, nodes, rows, shows, web, plan, more, rfl, h, hp, hq, hl, kk⟩
  have hQ := h.pos
  have hS : states * nodes ≤ 64 * 64 := Nat.mul_le_mul h.g.s1 h.n1
  have hsl := h.g.sl
  have hpt : ∀ j, ∀ c ∈ plan.take j, ChoiceOk states nodes web c := fun j c hc => hp c (List.mem_of_mem_take hc)
  have hpd : ∀ j, ∀ c ∈ plan.drop j, ChoiceOk states nodes web c := fun j c hc => hp c (List.mem_of_mem_drop hc)
  have vv : ∀ j, j ≤ plan.length → Lev (webQ web ^ j) states nodes (levK rows web (plan.take j) start) := fun j hj => by
    have := levs0 h (hpt j)
    rwa [List.length_take, Nat.min_eq_left hj] at this
  have inr : ∀ j, j ≤ plan.length → ∀ k ∈ keys (levK rows web (plan.take j) start), k.1 < states ∧ k.2 < nodes := fun j hj k hk => by
    obtain ⟨x, hx, rfl⟩ := List.mem_map.mp hk
    exact (vv j hj).r x hx
  have srp : ∀ j, j ≤ plan.length → (srtK (levK rows web (plan.take j) start)).Perm (keys (levK rows web (plan.take j) start)) := fun j hj => srtK_perm (vv j hj).ok.nd
  have srl : ∀ j, j ≤ plan.length → (srtK (levK rows web (plan.take j) start)).length ≤ 4096 := fun j hj => by
    rw [(srp j hj).length_eq]
    have : (keys (levK rows web (plan.take j) start)).length = (levK rows web (plan.take j) start).length := List.length_map _
    have := (vv j hj).len
    omega
  have shl : ∀ k : Pt, k.1 < states → atI (shows.map qD) (k.1 : Int) = some (qD (shows.getD k.1 0)) := fun k hk => at_map (by omega)
  have lenp : ((plan.map choiceD).length : Int) = (plan.length : Int) := by rw [List.length_map]
  unfold wb_law_mean_back bodyEd gaugeD planD linesD
  walk_at "s"
  intro a4 h4
  have look0 := lines_at (rows := rows) (web := web) (more := more) (Nat.le_refl plan.length)
  walk_at "s"
  rw [lenp]
  walk_at "s"
  rw [List.take_length] at *
  have vT := vv _ (Nat.le_refl _)
  have iT := inr _ (Nat.le_refl _)
  have pT := srp _ (Nat.le_refl _)
  have lT := srl _ (Nat.le_refl _)
  rw [List.take_length] at vT iT pT lT
  unfold lineD lined
  rw [List.map_map]
  walk_at "s"
  walk_at "ep"
  refine for_pre (entD ∘ fun k => (k, (getK (levK rows web plan start) k).getD 0)) (srtK (levK rows web plan start)) (fun pre ep T => ∃ (B : List (List Key × D)) (x5 x6 x7 x8 x9 x10 x11 x12 : Option D), T a4 = some (.dt B) ∧ Tells (backK rows shows web []) pre B ∧ B.length ≤ pre.length ∧ Sub st T ∧
    ep = [some (gaugeD letters rows shows), some (webD web), some (planD plan), some (linesD rows web (plan ++ more)), some (.ref a4), x5, x6, x7, x8, x9, x10, x11, x12]) ?_ ?_ ⟨[], _, _, _, _, _, _, _, _, put_same, (fun k hk => by cases hk), Nat.le_refl _, Sub.put_new h4, rfl⟩
  · rintro ep T ⟨B, x5, x6, x7, x8, x9, x10, x11, x12, hT, tB, lB, sT, rfl⟩
    refine ⟨trivial, ?_⟩
    unfold planD
    walk_at "s"
    rw [lenp]
    walk_at "s"
    rw [show ((plan.length : Int) - 1 - (-1)).toNat = plan.length by omega]
    refine for_pre (fun i : Nat => D.int ((plan.length : Int) - 1 + (i : Int) * (-1))) (List.range plan.length) (fun pre ep T => ∃ (a4 : Addr) (B : List (List Key × D)) (x5 x6 x7 x8 x9 x10 x11 x12 : Option D), pre.length ≤ plan.length ∧ st a4 = none ∧ T a4 = some (.dt B) ∧ Tells (backK rows shows web (plan.drop (plan.length - pre.length))) (keys (levK rows web (plan.take (plan.length - pre.length)) start)) B ∧ Sub st T ∧
      ep = [some (gaugeD letters rows shows), some (webD web), some (planD plan), some (linesD rows web (plan ++ more)), some (.ref a4), x5, x6, x7, x8, x9, x10, x11, x12]) ?_ ?_ ⟨a4, B, x5, x6, x7, x8, x9, x10, x11, x12, Nat.zero_le _, h4, hT, ?_, sT, rfl⟩
    · rintro ep T ⟨a4, B, x5, x6, x7, x8, x9, x10, x11, x12, -, h4, hT, tB, sT, rfl⟩
      refine ⟨trivial, ?_⟩
      rw [List.length_range, Nat.sub_self, List.take_zero, List.drop_zero] at tB
      have := tB (0, 0) List.mem_cons_self
      have hv : valD B [.inl 0, .inl 0] = some (qD (backK rows shows web plan (0, 0))) := this
      walk_at "s"
      exact s_endS sT kk
    · rintro K pre i r ep T e ⟨a4, B, x5, x6, x7, x8, x9, x10, x11, x12, hpl, h4, hT, tB, sT, rfl⟩ ih
      refine ⟨trivial, ?_⟩
      obtain ⟨rfl, hi⟩ := range_at e
      obtain ⟨j, hj⟩ : ∃ j, plan.length - pre.length = j + 1 := ⟨plan.length - pre.length - 1, by omega⟩
      have hjl : j < plan.length := by omega
      rw [List.length_append, List.length_singleton, show plan.length - (pre.length + 1) = j by omega] at ih
      rw [hj] at tB
      rw [show (plan.length : Int) - 1 + (pre.length : Int) * (-1) = (j : Int) by omega]
      have hdrop : plan.drop j = plan.getD j [] :: plan.drop (j + 1) := by
        rw [List.drop_eq_getElem_cons hjl, List.getD_eq_getElem?_getD, List.getElem?_eq_getElem hjl]; rfl
      have htake : plan.take (j + 1) = plan.take j ++ [plan.getD j []] := by
        rw [List.getD_eq_getElem?_getD, List.getElem?_eq_getElem hjl]
        exact List.take_succ_eq_append_getElem hjl
      have lookch : atI (plan.map choiceD) (j : Int) = some (choiceD (plan.getD j [])) := at_map hjl
      have hcm : plan.getD j [] ∈ plan := getD_mem hjl
      have lookl := lines_at (rows := rows) (web := web) (more := more) (Nat.le_of_lt hjl)
      have vj := vv j (Nat.le_of_lt hjl)
      have ij := inr j (Nat.le_of_lt hjl)
      have pj := srp j (Nat.le_of_lt hjl)
      have lj := srl j (Nat.le_of_lt hjl)
      have hco := hp _ hcm
      have bfit : ∀ {p : Pt}, p.1 < states → p.2 < nodes → Fit (webQ web ^ (plan.length - (j + 1)) * 840) 8 (backK rows shows web (plan.drop (j + 1)) p) := fun {p} h1 h2 => by
        have := back_fit h (hpd (j + 1)) h1 h2
        rwa [List.length_drop] at this
      rw [htake, levK_snoc] at tB
      rw [hdrop] at ih
      have hqj : (plan.length - (j + 1)) * q + q ≤ 4000 := by
        have h1 : (plan.length - (j + 1)) * q ≤ plan.length * q := Nat.mul_le_mul_right _ (by omega)
        rw [Nat.succ_mul] at hq
        omega
      have bM := (powQ h.q (plan.length - (j + 1))).mul (show Bt 10 840 by unfold Bt; decide)
      have M0 : 0 < webQ web ^ (plan.length - (j + 1)) * 840 := Int.mul_pos (pow_pos' hQ _) (by decide)
      generalize plan.getD j [] = ch at *
      generalize plan.drop (j + 1) = rest at *
      generalize levK rows web (plan.take j) start = l at *
      generalize plan.length - (j + 1) = n at *
      unfold gaugeD planD linesD
      walk_at "s"
      intro a7 h7
      have n47 : a4 ≠ a7 := ne_new h7 hT
      have f7 : st a7 = none := by
        cases q9 : st a7 with
        | none => rfl
        | some o => rw [sT a7 o q9] at h7; cases h7
      walk_at "s"
      unfold lineD lined
      rw [List.map_map]
      walk_at "s"
      walk_at "ep"
      refine for_pre (entD ∘ fun k => (k, (getK l k).getD 0)) (srtK l) (fun pre2 ep T => ∃ (C : List (List Key × D)) (x5 x8 x9 x10 x11 x12 : Option D), T a4 = some (.dt B) ∧ T a7 = some (.dt C) ∧ Tells (backK rows shows web (ch :: rest)) pre2 C ∧ C.length ≤ 2 * pre2.length ∧ Sub st T ∧
        ep = [some (gaugeD letters rows shows), some (webD web), some (planD plan), some (linesD rows web (plan ++ more)), some (.ref a4), x5, some (.int (j : Int)), some (.ref a7), x8, x9, x10, x11, x12]) ?_ ?_ ⟨[], _, _, _, _, _, _, look_new h7 hT, put_same, (fun k hk => by cases hk), Nat.le_refl _, sT.put_to _ f7, rfl⟩
      · rintro ep T2 ⟨C, x5, x8, x9, x10, x11, x12, g4, g7, tC, lC, sT2, rfl⟩
        refine ⟨trivial, ?_⟩
        walk_at "s"
        exact ih _ _ ⟨a7, C, _, _, _, _, _, _, _, _, by omega, f7, g7, fun k hk => tC k (pj.mem_iff.mpr hk), sT2, rfl⟩
      · rintro K2 pre2 k r2 ep T2 e2 ⟨C, x5, x8, x9, x10, x11, x12, g4, g7, tC, lC, sT2, rfl⟩ ih2
        refine ⟨trivial, ?_⟩
        have hk : k ∈ keys l := pj.mem_iff.mp (by rw [e2]; exact List.mem_append_right _ List.mem_cons_self)
        obtain ⟨r1, r2'⟩ := ij k hk
        have hch1 : ch.length = states := hco.1
        have hrl1 := (hco.2 _ (getD_mem (d := []) (l := ch) (i := k.1) (by omega))).1
        have lookc : atI (ch.map fun r => D.tup (r.map D.int)) (k.1 : Int) = some (.tup ((ch.getD k.1 []).map D.int)) := at_map (by omega)
        have lookn : atI ((ch.getD k.1 []).map D.int) (k.2 : Int) = some (.int (pick ch k)) := at_map (f := D.int) (d := -1) (by omega)
        have looks := shl k r1
        have hb := hco.at r1 r2'
        have hp2 : pre2.length + 1 ≤ (srtK l).length := by rw [e2, List.length_append, List.length_cons]; omega
        have hCl : C.length < sizeLine := by show _ < 2 ^ 24; omega
        have hCl2 : ∀ (k : List Key) (d : D), (putD C k d).length < sizeLine := fun k d => by have := putD_len C k d; show _ < 2 ^ 24; omega
        show gN 5 (D.tup [.int (k.1 : Int), .int (k.2 : Int), qD ((getK l k).getD 0)]) _ _ _
        unfold gaugeD planD linesD
        walk_at "s"
        unfold choiceD
        walk_at "s"
        refine s_putT g7 hCl ?_
        walk_at "s"
        refine s_dec (fun hs => ?_) (fun hs => ?_)
        · have hs : ¬ pick ch k < 0 := by omega
          obtain ⟨m1, m2⟩ := h.cn hco r1 r2' hs
          obtain ⟨ne, cl, mv⟩ := h.c _ m2 _ m1
          have w0 := wsum_pos ne mv
          have dQ := webQ_dvd m2 m1
          have bw : Bt q (wsum (cnr web k.2 (pick ch k))) := h.q.dvd dQ hQ
          have lookw : atI (web.map nodeD) (k.2 : Int) = some (.tup ((web.getD k.2 []).map cornerD)) := at_map (f := nodeD) (d := []) (by rw [h.wl]; exact r2')
          have lookm : atI ((web.getD k.2 []).map cornerD) (pick ch k) = some (cornerD (cnr web k.2 (pick ch k))) := by
            have : atI ((web.getD k.2 []).map cornerD) (((pick ch k).toNat : Nat) : Int) = some (cornerD ((web.getD k.2 []).getD (pick ch k).toNat [])) := at_map (by omega)
            rwa [Int.toNat_of_nonneg (by omega)] at this
          have hrow := h.g.r _ (getD_mem (d := []) (l := rows) (i := k.1) (by rw [h.g.rl]; exact r1))
          have look1 : atI (rows.map natsD) (k.1 : Int) = some (natsD (rows.getD k.1 [])) := at_map (by rw [h.g.rl]; exact r1)
          have nk : ∀ m ∈ cnr web k.2 (pick ch k), goesTo rows k.1 m ∈ keys (nextK rows web ch l) := fun m hm => next_key hk hs hm
          have eb : backK rows shows web (ch :: rest) k = sumQ ((cnr web k.2 (pick ch k)).map fun m => (m.1 : Rat) * backK rows shows web rest (goesTo rows k.1 m)) / (wsum (cnr web k.2 (pick ch k)) : Rat) := by
            conv => lhs; unfold backK
            rw [if_neg hs]
          generalize cnr web k.2 (pick ch k) = c at *
          have G4 : put T2 a7 (.dt (putD C [Sum.inl ↑k.fst, Sum.inl ↑k.snd] (qD (shows.getD k.fst 0)))) a4 = some (.dt B) := by rw [put_ne n47]; exact g4
          have G7 : put T2 a7 (.dt (putD C [Sum.inl ↑k.fst, Sum.inl ↑k.snd] (qD (shows.getD k.fst 0)))) a7 = some (.dt (putD C [Sum.inl ↑k.fst, Sum.inl ↑k.snd] (qD (shows.getD k.fst 0)))) := put_same
          have sT3 : Sub st (put T2 a7 (.dt (putD C [Sum.inl ↑k.fst, Sum.inl ↑k.snd] (qD (shows.getD k.fst 0))))) := sT2.put_to _ f7
          generalize put T2 a7 (.dt (putD C [Sum.inl ↑k.fst, Sum.inl ↑k.snd] (qD (shows.getD k.fst 0)))) = T3 at *
          have fits : ∀ m ∈ c, Fit (webQ web ^ n * 840) 8 (backK rows shows web rest (goesTo rows k.1 m)) := fun m hm => bfit (hrow.2 _ (getD_mem (d := 0) (by rw [hrow.1]; exact (mv m hm).l))) (mv m hm).a
          unfold webD
          walk_at "s"
          show itemsD (.tup (c.map moveD)) T3 _
          walk_at "s"
          refine lc_pre moveD c (fun p3 acc T' => acc = (p3.map fun m => (m.1 : Rat) * backK rows shows web rest (goesTo rows k.1 m)).map qD ∧ T' = T3) ?_ ?_ ⟨rfl, rfl⟩
          · rintro acc T' ⟨rfl, rfl⟩
            refine ⟨trivial, ?_⟩
            intro u hu
            have n7u : a7 ≠ u := ne_new hu G7
            have n4u : a4 ≠ u := ne_new hu G4
            have fu : st u = none := by
              cases q9 : st u with
              | none => rfl
              | some o => rw [sT3 u o q9] at hu; cases hu
            walk_at "s"
            have so : SumOk (webQ web ^ n * 840) 8000 (1 + n * q + 10) 19 (c.map fun m => (m.1 : Rat) * backK rows shows web rest (goesTo rows k.1 m)) := by
              refine ⟨M0, bM, fun x hx => ?_, ?_, by omega⟩
              · obtain ⟨m, hm, rfl⟩ := List.mem_map.mp hx
                have hw := (mv m hm).w0
                have hw2 := (mv m hm).w1
                have fw : Fit 1 1000 (m.1 : Rat) := fit_of (n := m.1) (d := 1) (by decide) (by show (m.1 : Rat) = (m.1 : Rat) / ((1 : Int) : Rat); rw [Rat.intCast_one, Rat.div_def]; grind) (Int.dvd_refl _) (by show m.1.natAbs ≤ 1000 * 1; omega)
                have := fw.mul (fits m hm)
                rwa [Int.one_mul] at this
              · rw [List.length_map]
                show c.length * 8000 ≤ 524288
                omega
            refine ⟨.ref u, _, _, _, _, _, rfl, .inr ⟨u, rfl, put_same⟩, so, ?_⟩
            walk_at "s"
            refine ⟨c, rfl, by omega, ?_⟩
            walk_at "s"
            show spOver [qD _, qD ((wsum c : Int) : Rat)] _ _ _
            have bS : Bits ((1 + n * q + 10) + 19) (sumQ (c.map fun m => (m.1 : Rat) * backK rows shows web rest (goesTo rows k.1 m))) := (fit_sum M0 so.f).bits M0 bM so.l
            have bW : Bits (q + 1) ((wsum c : Int) : Rat) := ⟨bw.mono (Nat.le_succ _), (show Bt 1 1 by unfold Bt; decide).mono (by omega)⟩
            refine over_q bS bW (cast_ne (by omega)) (by omega) fun _ => ?_
            rw [← eb]
            walk_at "s"
            refine s_putT (look_new hu G7) (hCl2 _ _) ?_
            refine ih2 _ _ ⟨_, _, _, _, _, _, _, by rw [put_ne n47]; exact look_new hu G4, put_same, tC.put2 k _, ?_, (sT3.put_to _ fu).put_to _ f7, rfl⟩
            have h1 := putD_len (putD C (keyN k) (qD (shows.getD k.1 0))) (keyN k) (qD (backK rows shows web (ch :: rest) k))
            have h2 := putD_len C (keyN k) (qD (shows.getD k.1 0))
            rw [List.length_append, List.length_singleton]
            show (putD (putD C (keyN k) (qD (shows.getD k.1 0))) (keyN k) (qD (backK rows shows web (ch :: rest) k))).length ≤ _
            omega
          · rintro K3 p3 m r3 acc T' em ⟨rfl, rfl⟩ ih3
            refine ⟨trivial, ?_⟩
            have hm : m ∈ c := by rw [em]; exact List.mem_append_right _ List.mem_cons_self
            have hw := (mv m hm).w0
            have hw2 := (mv m hm).w1
            have look2 : atI ((rows.getD k.1 []).map fun i : Nat => D.int (i : Int)) (m.2.1 : Int) = some (.int (((rows.getD k.1 []).getD m.2.1 0 : Nat) : Int)) := at_map (by rw [hrow.1]; exact (mv m hm).l)
            have hv : valD B [.inl (((rows.getD k.1 []).getD m.2.1 0 : Nat) : Int), .inl (m.2.2 : Int)] = some (qD (backK rows shows web rest (goesTo rows k.1 m))) := tB _ (nk m hm)
            have bb : Bits ((1 + n * q + 10) + 3) (backK rows shows web rest (goesTo rows k.1 m)) := (fits m hm).bits M0 bM (by decide)
            have bm : Bits 10 (m.1 : Rat) := ⟨(show Bt 10 m.1 by unfold Bt; show _ < 1024; omega), (show Bt 10 1 by unfold Bt; decide)⟩
            have hp3 : p3.length + 1 ≤ c.length := by rw [em, List.length_append, List.length_cons]; omega
            unfold moveD
            walk_at "s"
            unfold natsD
            walk_at "s"
            show spTimes [qD (m.1 : Rat), qD _] _ _ _
            refine times_q bm bb (by omega) fun _ => ?_
            refine ⟨by rw [List.length_map, List.length_map]; show _ < 2 ^ 24; omega, ?_⟩
            exact ih3 _ _ ⟨by rw [List.map_append, List.map_append]; rfl, rfl⟩
        · have hs : pick ch k < 0 := by omega
          walk_at "s"
          refine ih2 _ _ ⟨_, _, _, _, _, _, _, by rw [put_ne n47]; exact g4, put_same, ?_, ?_, sT2.put_to _ f7, rfl⟩
          · have eb : backK rows shows web (ch :: rest) k = shows.getD k.1 0 := by unfold backK; rw [if_pos hs]
            rw [← eb]
            exact tC.put k
          · have := putD_len C (keyN k) (qD (shows.getD k.1 0))
            rw [List.length_append, List.length_singleton]
            show (putD C (keyN k) (qD (shows.getD k.1 0))).length ≤ _
            omega
    · rw [List.length_nil, Nat.sub_zero, List.drop_length, List.take_length]
      exact fun k hk => tB k (pT.mem_iff.mpr hk)
  · rintro K pre k r ep T e ⟨B, x5, x6, x7, x8, x9, x10, x11, x12, hT, tB, lB, sT, rfl⟩ ih
    refine ⟨trivial, ?_⟩
    have hk := pT.mem_iff.mp (show k ∈ srtK (levK rows web plan start) by rw [e]; exact List.mem_append_right _ List.mem_cons_self)
    obtain ⟨r1, r2⟩ := iT k hk
    have looks := shl k r1
    have hpl : pre.length + 1 ≤ (srtK (levK rows web plan start)).length := by rw [e, List.length_append, List.length_cons]; omega
    show gN 5 (D.tup [.int (k.1 : Int), .int (k.2 : Int), qD ((getK (levK rows web plan start) k).getD 0)]) _ _ _
    unfold gaugeD
    walk_at "s"
    refine s_putT hT (by show _ < 2 ^ 24; omega) ?_
    refine ih _ _ ⟨_, _, _, _, _, _, _, _, _, put_same, tB.put k, ?_, sT.put_to _ h4, rfl⟩
    have := putD_len B (keyN k) (qD (shows.getD k.1 0))
    rw [List.length_append, List.length_singleton]
    show (putD B (keyN k) (qD (shows.getD k.1 0))).length ≤ _
    omega
end K25
end DL

namespace DL
namespace K25
open PySem L2 C
local macro_rules | `(tactic| walk_at "look") => `(tactic| first
  | assumption
  | exact put_same
  | (refine look_ne (by first | assumption | exact Ne.symm (by assumption)) ?_; walk_at "look")
  | (refine look_new (by assumption) ?_; walk_at "look"))
local macro_rules | `(tactic| walk_at "side") => `(tactic| first | assumption | exact trivial | decide | omega | exact ⟨by assumption, by assumption⟩ | exact ⟨by omega, by omega⟩ | exact ⟨by decide, by decide⟩ | exact ⟨by decide, by decide, by decide⟩ | (exact .inl (.inl ⟨by decide, by decide⟩)) | (exact .inl (.inr ⟨by decide, by decide⟩)) | (exact .inl (.inl ⟨by omega, by omega⟩)) | (exact .inl (.inr ⟨by omega, by omega⟩)))
local macro_rules | `(tactic| walk_at "opt") => `(tactic| first | (with_reducible exact atI_0 _ _) | (with_reducible exact atI_1 _ _ _) | (with_reducible exact atI_2 _ _ _ _) | (with_reducible exact atI_3 _ _ _ _ _) | (with_reducible exact atI_4 _ _ _ _ _ _) | assumption | exact atI_0 _ _ | exact atI_1 _ _ _ | exact atI_2 _ _ _ _ | exact atI_3 _ _ _ _ _ | exact atI_4 _ _ _ _ _ _ | exact boolsOf_map _ | exact intsOf_map _ | exact rfl)
local macro_rules | `(tactic| walk_at "s1") => `(tactic| first
  | ((with_reducible refine' s_var ?k1 ?_); (case k1 => exact rfl))
  | with_reducible refine s_bin ?_
  | with_reducible refine s_c ?_
  | with_reducible refine s_seqM ?_
  | with_reducible refine s_asB ?_
  | with_reducible refine s_asI ?_
  | with_reducible refine s_asRI ?_
  | with_reducible refine s_acons ?_
  | with_reducible refine s_anil ?_
  | with_reducible refine s_call ?_
  | with_reducible refine s_cb ?_
  | with_reducible refine s_set ?_
  | with_reducible refine s_ixT ?_
  | with_reducible refine s_ixL ?_
  | with_reducible refine s_ixS ?_
  | ((with_reducible refine' s_getL ?k1 ?_); (case k1 => walk_at "look"))
  | ((with_reducible refine' s_opt ?k1 ?_); (case k1 => walk_at "opt"))
  | with_reducible refine s_binT ?_
  | with_reducible refine s_tup ?_
  | with_reducible refine s_tpT ?_
  | with_reducible refine s_key ?_
  | with_reducible refine s_kII ?_
  | with_reducible refine s_kIII ?_
  | with_reducible refine s_dget ?_
  | ((with_reducible refine' s_atT ?k1 ?_); (case k1 => walk_at "look"))
  | ((with_reducible refine' s_atTl ?k1 ?_); (case k1 => walk_at "look"))
  | ((with_reducible refine' s_got ?k1 ?_); (case k1 => assumption))
  | with_reducible refine s_din ?_
  | with_reducible refine s_dinT ?_
  | with_reducible refine s_dgetor ?_
  | with_reducible refine s_dput ?_
  | with_reducible refine s_dnewT ?_
  | with_reducible refine s_disp1 ?_
  | with_reducible refine s_keys ?_
  | with_reducible refine s_ixK0 ?_
  | with_reducible refine s_ixK1 ?_
  | with_reducible refine s_bTK ?_
  | with_reducible refine s_gTK ?_
  | with_reducible refine s_lst ?_
  | with_reducible refine s_ret ?_
  | with_reducible refine s_if ?_
  | with_reducible refine s_nextM ?_
  | with_reducible refine s_drop ?_
  | with_reducible refine s_par ?_
  | with_reducible refine s_asg ?_
  | with_reducible refine s_gN ?_
  | ((with_reducible refine' s_gT ?k1 ?_); (case k1 => exact rfl))
  | with_reducible refine s_gsC ?_
  | with_reducible refine s_gsN ?_
  | with_reducible refine s_gIx ?_
  | with_reducible refine s_setD ?_
  | with_reducible refine s_for ?_
  | with_reducible refine s_b ?_
  | with_reducible refine s_and ?_
  | with_reducible refine s_or ?_
  | with_reducible refine s_not ?_
  | with_reducible refine s_ife ?_
  | with_reducible refine s_neg ?_
  | with_reducible refine s_notV ?_
  | with_reducible refine s_andV ?_
  | with_reducible refine s_orV ?_
  | with_reducible refine s_isi ?_
  | with_reducible refine s_m ?_
  | with_reducible refine s_none ?_
  | with_reducible refine s_noneT ?_
  | with_reducible refine s_sl ?_
  | with_reducible refine s_oN ?_
  | with_reducible refine s_oS ?_
  | with_reducible refine s_lc ?_
  | with_reducible refine s_bN ?_
  | with_reducible refine s_bT ?_
  | with_reducible refine s_bTC ?_
  | with_reducible refine s_bTN ?_
  | with_reducible refine s_it ?_
  | with_reducible refine s_rng ?_
  | with_reducible refine s_zip ?_
  | with_reducible refine s_zip2 ?_
  | with_reducible refine s_enum ?_
  | with_reducible refine s_enum1 ?_
  | with_reducible refine s_yes ?_
  | with_reducible refine s_cT ?_
  | with_reducible refine s_cF ?_
  | with_reducible refine s_retN ?_
  | with_reducible refine s_try ?_
  | with_reducible refine s_raise0 ?_
  | with_reducible refine s_raise1 ?_
  | with_reducible refine s_isE ?_
  | with_reducible refine s_fld ?_
  | with_reducible refine s_brk ?_
  | with_reducible refine s_cnt ?_
  | ((with_reducible refine' s_aug ?k1 ?_); (case k1 => exact rfl))
  | with_reducible refine s_augix ?_
  | with_reducible refine s_addI ?_
  | ((with_reducible refine' s_addT ?k1 ?_); (case k1 => walk_at "side"))
  | ((with_reducible refine' s_addS ?k1 ?_); (case k1 => walk_at "side"))
  | with_reducible refine s_catL ?_
  | with_reducible refine s_subI ?_
  | ((with_reducible refine' s_mulI ?k1 ?_); (case k1 => walk_at "side"))
  | ((with_reducible refine' s_divI ?k1 ?_); (case k1 => walk_at "side"))
  | ((with_reducible refine' s_modI ?k1 ?_); (case k1 => walk_at "side"))
  | ((with_reducible refine' s_powI ?k1 ?_); (case k1 => walk_at "side"))
  | ((with_reducible refine' s_shlI ?k1 ?_); (case k1 => walk_at "side"))
  | with_reducible refine s_iaddI ?_
  | ((with_reducible refine' s_iaddS ?k1 ?_); (case k1 => walk_at "side"))
  | with_reducible refine s_eqI ?_
  | with_reducible refine s_neI ?_
  | with_reducible refine s_eqS ?_
  | with_reducible refine s_neS ?_
  | with_reducible refine s_eqB ?_
  | with_reducible refine s_neB ?_
  | with_reducible refine s_cmp ?_
  | ((with_reducible refine' s_ixX ?k1 ?_); (case k1 => walk_at "side"))
  | with_reducible refine s_lenT ?_
  | with_reducible refine s_lenL ?_
  | with_reducible refine s_lenC ?_
  | ((with_reducible refine' s_lenS ?k1 ?_); (case k1 => walk_at "side"))
  | with_reducible refine s_abs ?_
  | with_reducible refine s_intI ?_
  | with_reducible refine s_intB ?_
  | with_reducible refine s_gcd ?_
  | with_reducible refine s_listT ?_
  | with_reducible refine s_listL ?_
  | with_reducible refine s_tupT ?_
  | with_reducible refine s_tupL ?_
  | with_reducible refine s_all ?_
  | with_reducible refine s_any ?_
  | with_reducible refine s_sum ?_
  | with_reducible refine s_sumAT ?_
  | with_reducible refine s_sumAL ?_
  | with_reducible refine s_cnT ?_
  | with_reducible refine s_cnF ?_
  | with_reducible refine s_par3 ?_
  | with_reducible refine s_max2 ?_
  | with_reducible refine s_min2 ?_
  | with_reducible refine s_chain ?_
  | with_reducible refine s_chainT ?_
  | with_reducible refine s_inL ?_
  | with_reducible refine s_inT ?_
  | with_reducible refine s_append ?_
  | with_reducible refine s_extend ?_
  | with_reducible refine s_popAt ?_
  | with_reducible refine s_pop ?_
  | with_reducible refine s_slT ?_
  | with_reducible refine s_slL ?_
  | with_reducible refine s_itT ?_
  | with_reducible refine s_itL ?_
  | with_reducible refine s_itC ?_
  | ((with_reducible refine' s_rng1 ?k1 ?_); (case k1 => walk_at "side"))
  | ((with_reducible refine' s_rng2 ?k1 ?_); (case k1 => walk_at "side"))
  | ((with_reducible refine' s_rngD ?k1 ?_); (case k1 => walk_at "side"))
  | ((with_reducible refine' And.intro (s_isDT ?k1) ?_); (case k1 => walk_at "look"))
  | ((with_reducible refine' s_isLst ?k1 ?_); (case k1 => walk_at "look"))
  | ((with_reducible refine' s_lstOkL ?k1 ?_); (case k1 => walk_at "look"))
  | ((with_reducible refine' And.intro ?k1 ?_); (case k1 => walk_at "side")))
local macro_rules | `(tactic| walk_at "s") => `(tactic| repeat (walk_at "s1"))
local macro_rules | `(tactic| walk_at "ep") => `(tactic| simp only [startD, List.map_cons, List.map_nil, List.length_cons, List.length_nil, Nat.reduceAdd, Nat.reduceSub, List.replicate, List.cons_append, List.nil_append, List.set_cons_succ, List.set_cons_zero])
theorem pureOks_of {es : List D} (h : ∀ e ∈ es, pureOk e = true) : pureOk (.tup es) = true := by
  rw [pureOk]
  induction es with
  | nil => rw [pureOks]
  | cons x es ih => rw [pureOks, h x List.mem_cons_self, ih fun e he => h e (List.mem_cons_of_mem _ he)]; rfl
theorem deps_of {k : Nat} {es : List D} (h : ∀ e ∈ es, dep e ≤ k) : dep (.tup es) ≤ k + 1 := by
  rw [dep]
  suffices deps es ≤ k by omega
  induction es with
  | nil => rw [deps]; omega
  | cons x es ih =>
    rw [deps]
    have := h x List.mem_cons_self
    have := ih fun e he => h e (List.mem_cons_of_mem _ he)
    omega
theorem pure_line (l : Ch) : pureOk (lineD l) = true := pureOks_of fun e he => by
  obtain ⟨p, _, rfl⟩ := List.mem_map.mp he
  rfl
theorem dep_line (l : Ch) : dep (lineD l) ≤ 64 := Nat.le_trans (deps_of (k := 2) fun e he => by
  obtain ⟨p, _, rfl⟩ := List.mem_map.mp he
  show max 0 (max 0 (max (max 0 (max 0 0) + 1) 0)) + 1 ≤ 2
  decide) (by decide)
theorem dep_q1 (x : Rat) : dep (qD x) ≤ 64 := by
  show max 0 (max 0 0) + 1 ≤ 64
  decide
theorem qD_nr (q : Rat) : nr (qD q) = true ∧ (∀ x y, qD q = .tup [x, y] → nr x = true ∧ nr y = true) := ⟨rfl, fun x y e => by
  unfold qD at e
  cases e
  exact ⟨rfl, rfl⟩⟩
def spIsLine : SpD := fun ds st R _ => ∃ p : Pt × Rat, ds = [entD p] ∧ R (.bl true) st
theorem len_isline : ∀ ds st R Rx, spIsLine ds st R Rx → ds.length = 1 := by
  rintro ds st R Rx ⟨_, rfl, -⟩; rfl
theorem read_isline : ∀ ds st R Rx, spIsLine ds st R Rx → wb_law_is_line spIsInt spIsFr (bodyEd R Rx) (startD 1 ds) st := by
  rintro ds st R Rx ⟨p, rfl, kk⟩
  unfold wb_law_is_line bodyEd entD
  walk_at "s"
  refine s_noB rfl ?_
  walk_at "s"
  refine s_nnoP rfl ?_
  walk_at "s"
  refine ⟨_, rfl, trivial, ?_⟩
  walk_at "s"
  refine s_yesB rfl ?_
  walk_at "s"
  refine ⟨_, rfl, trivial, ?_⟩
  walk_at "s"
  refine s_yesB rfl ?_
  walk_at "s"
  refine ⟨_, rfl, (qD_nr _).1, (qD_nr _).2, ?_⟩
  rw [isFr_q]
  exact s_end kk
def runD (x : Rat) (ls : List Ch) : D := .tup [qD x, .tup (ls.map lineD)]
def spIsRun : SpD := fun ds st R _ => ∃ (x : Rat) (ls : List Ch), ds = [runD x ls, qD x, .tup (ls.map lineD)] ∧ ls.length ≤ 1000 ∧ (∀ l ∈ ls, l.length ≤ 1000000) ∧ R (.bl true) st
theorem len_isrun : ∀ ds st R Rx, spIsRun ds st R Rx → ds.length = 3 := by
  rintro ds st R Rx ⟨_, _, rfl, -⟩; rfl
theorem read_isrun : ∀ ds st R Rx, spIsRun ds st R Rx → wb_law_is_run spIsFr spIsLine (bodyEd R Rx) (startD 5 ds) st := by
  rintro ds st R Rx ⟨x, ls, rfl, hl, hll, kk⟩
  unfold wb_law_is_run bodyEd runD
  walk_at "s"
  refine s_noB rfl ?_
  walk_at "s"
  refine s_nnoP rfl ?_
  walk_at "s"
  refine ⟨_, rfl, (qD_nr _).1, (qD_nr _).2, ?_⟩
  rw [isFr_q]
  walk_at "s"
  refine s_neP (a := qD x) (b := qD x) rfl rfl (dep_q1 x) (dep_q1 x) ?_
  rw [peq_refl (qD x) rfl]
  walk_at "s"
  walk_at "s"
  refine s_noB rfl ?_
  walk_at "s"
  refine s_nnoP rfl ?_
  walk_at "s"
  rw [List.length_map]
  walk_at "s"
  rw [Int.toNat_natCast]
  walk_at "ep"
  refine for_rng ls.length (fun j ep T => ∃ (x3 x4 : Option D), Sub st T ∧ ep = [some (.tup [qD x, .tup (ls.map lineD)]), some (qD x), some (.tup (ls.map lineD)), x3, x4]) ?_ ?_ ⟨_, _, Sub.refl _, rfl⟩
  · rintro ep T ⟨x3, x4, sT, rfl⟩
    refine ⟨trivial, ?_⟩
    walk_at "s"
    exact s_endS sT kk
  · rintro K j ep T hj ⟨x3, x4, sT, rfl⟩ ih
    refine ⟨trivial, ?_⟩
    have lk1 : atI (ls.map lineD) (j : Int) = some (lineD (ls.getD j [])) := at_map hj
    have hlen := hll _ (getD_mem (d := []) hj)
    generalize ls.getD j [] = l at *
    walk_at "s"
    refine s_noB rfl ?_
    walk_at "s"
    show itemsD (.tup (l.map entD)) T _
    walk_at "s"
    refine lc_pre entD l (fun p2 acc T2 => acc = (p2.map fun _ => true).map D.bl ∧ T2 = T) ?_ ?_ ⟨rfl, rfl⟩
    · rintro acc T2 ⟨rfl, rfl⟩
      refine ⟨trivial, ?_⟩
      intro u hu
      walk_at "s"
      rw [show ((l.map fun _ => true).all fun b => b) = true by rw [List.all_map]; exact List.all_eq_true.mpr fun _ _ => rfl]
      refine s_noB rfl ?_
      walk_at "s"
      refine s_neP (pure_line l) (pure_line l) (dep_line l) (dep_line l) ?_
      rw [peq_refl _ (pure_line l)]
      walk_at "s"
      exact ih _ _ ⟨_, _, sT.trans (Sub.put_new hu), rfl⟩
    · rintro K2 p2 p r acc T2 e ⟨rfl, rfl⟩ ih2
      refine ⟨trivial, ?_⟩
      have hp2 : p2.length + 1 ≤ l.length := by rw [e, List.length_append, List.length_cons]; omega
      walk_at "s"
      refine ⟨p, rfl, ?_⟩
      refine ⟨by rw [List.length_map, List.length_map]; show _ < 2 ^ 24; omega, ?_⟩
      exact ih2 _ _ ⟨by rw [List.map_append, List.map_append]; rfl, rfl⟩
/-! the draws of a plan -/
def spPickAt : SpD := fun ds st R _ => ∃ (d c : Addr) (ns : List Int) (nd : List (List Mv)) (often : Int), ds = [.ref d, nodeD nd, .int often] ∧ DK st d c ns ∧ nd.length ≤ 64 ∧ 0 < often ∧ often ≤ 100 ∧
  ∀ (v : Int) st', -1 ≤ v → v < nd.length → Dr d c ns st st' → R (.int v) st'
theorem len_pickat : ∀ ds st R Rx, spPickAt ds st R Rx → ds.length = 3 := by
  rintro ds st R Rx ⟨_, _, _, _, _, rfl, -⟩; rfl
theorem read_pickat : ∀ ds st R Rx, spPickAt ds st R Rx → wb_law_pick_at spDraw (bodyEd R Rx) (startD 4 ds) st := by
  rintro ds st R Rx ⟨d, c, ns, nd, often, rfl, dk, hl, h0, h1, kk⟩
  have hm : 0 ≤ often * (nd.length : Int) := Int.mul_nonneg (by omega) (by omega)
  have hm2 : often * (nd.length : Int) ≤ 100 * 64 := Int.mul_le_mul (by omega) (by omega) (by omega) (by omega)
  have ml : ((nd.map cornerD).length : Int) = (nd.length : Int) := by rw [List.length_map]
  have mok : MulOk often (nd.length : Int) := (show Bt 7 often by unfold Bt; show _ < 128; omega).ok (show Bt 7 (nd.length : Int) by unfold Bt; show _ < 128; omega) (by decide)
  unfold wb_law_pick_at bodyEd nodeD
  walk_at "s"
  rw [ml]
  walk_at "s"
  refine ⟨d, c, ns, _, rfl, dk, by omega, sm (by omega) (by omega), fun v st1 v0 v1 r1 => ?_⟩
  walk_at "s"
  rw [ml]
  walk_at "s"
  refine s_dec (fun e => ?_) (fun e => ?_)
  · walk_at "s"
    refine s_divI ⟨h0, sm (by omega) (by omega)⟩ ?_
    refine s_end (kk _ _ ?_ ?_ r1)
    · have := Int.ediv_nonneg v0 (show (0 : Int) ≤ often by omega)
      omega
    · exact Int.ediv_lt_of_lt_mul h0 (by rw [Int.mul_comm]; exact e)
  · walk_at "s"
    exact s_end (kk _ _ (by omega) (by omega) r1)
def spPlan : SpD := fun ds st R _ => ∃ (d c : Addr) (ns : List Int) (letters states nodes many : Nat) (rows : List (List Nat)) (shows : List Rat) (web : List (List (List Mv))) (often : Int), ds = [.ref d, gaugeD letters rows shows, webD web, .int (many : Int), .int often] ∧ DK st d c ns ∧ rows.length = states ∧ states ≤ 64 ∧ web.length = nodes ∧ nodes ≤ 64 ∧ (∀ nd ∈ web, nd.length ≤ 64) ∧ 0 < often ∧ often ≤ 100 ∧ many ≤ 100 ∧
  ∀ (plan : List Choice) st', plan.length = many → (∀ ch ∈ plan, ChoiceOk states nodes web ch) → Dr d c ns st st' → R (planD plan) st'
theorem len_plan : ∀ ds st R Rx, spPlan ds st R Rx → ds.length = 5 := by
  rintro ds st R Rx ⟨_, _, _, _, _, _, _, _, _, _, _, rfl, -⟩; rfl
theorem gd_left {α : Type} {l r : List α} {i : Nat} {d : α} (h : i < l.length) : (l ++ r).getD i d = l.getD i d := by
  rw [List.getD_eq_getElem?_getD, List.getD_eq_getElem?_getD, List.getElem?_append_left h]
theorem gd_one {α : Type} {l : List α} {x d : α} : (l ++ [x]).getD l.length d = x := by
  rw [List.getD_eq_getElem?_getD, List.getElem?_append_right (Nat.le_refl _), Nat.sub_self]; rfl
theorem pick_row {d c : Addr} {ns : List Int} {web : List (List (List Mv))} {often : Int} {T : DS} {R : RD} {Rx : RX} {e1 e3 e5 e6 e7 e8 : Option D} (dk : DK T d c ns) (hn : web.length ≤ 64) (hw : ∀ nd ∈ web, nd.length ≤ 64) (h0 : 0 < often) (h1 : often ≤ 100)
    (k : ∀ (r : List Int) T', r.length = web.length → (∀ n, n < web.length → r.getD n (-1) < (web.getD n []).length ∧ -1 ≤ r.getD n (-1)) → Dr d c ns T T' → R (.tup (r.map D.int)) T') :
    (wCB tupleD (wACons (wLc (wIt (wVar 2)) (bN 8) [8] wYes (wCall spPickAt (wACons (wVar 0) (wACons (wVar 8) (wACons (wVar 4) wANil))))) wANil)) [some (.ref d), e1, some (webD web), e3, some (.int often), e5, e6, e7, e8] T R Rx := by
  unfold webD
  walk_at "s"
  refine lc_pre nodeD web (fun pre acc T2 => ∃ r : List Int, acc = r.map D.int ∧ r.length = pre.length ∧ (∀ n, n < pre.length → r.getD n (-1) < (web.getD n []).length ∧ -1 ≤ r.getD n (-1)) ∧ Dr d c ns T T2) ?_ ?_ ⟨[], rfl, rfl, fun n hn => absurd hn (Nat.not_lt_zero _), Dr.refl dk⟩
  · rintro acc T2 ⟨r, rfl, hr, hb, dr⟩
    refine ⟨trivial, ?_⟩
    intro u hu
    walk_at "s"
    exact k r _ hr hb (dr.new hu)
  · rintro K pre nd rest acc T2 e ⟨r, rfl, hr, hb, dr⟩ ih
    refine ⟨trivial, ?_⟩
    have hnd : nd ∈ web := by rw [e]; exact List.mem_append_right _ List.mem_cons_self
    have hpl : pre.length + 1 ≤ web.length := by rw [e, List.length_append, List.length_cons]; omega
    have en : web.getD pre.length [] = nd := by rw [e, List.getD_eq_getElem?_getD]; simp
    walk_at "s"
    refine ⟨d, c, ns, nd, often, rfl, dr.dk, hw nd hnd, h0, h1, fun v T3 v0 v1 dr2 => ?_⟩
    refine ⟨by rw [List.length_map]; show _ < 2 ^ 24; omega, ?_⟩
    refine ih _ _ ⟨r ++ [v], by rw [List.map_append]; rfl, by rw [List.length_append, List.length_append, hr]; rfl, fun n hn' => ?_, dr.trans dr2⟩
    rw [List.length_append, List.length_singleton] at hn'
    rcases Nat.lt_or_ge n pre.length with hlt | hge
    · rw [gd_left (by omega)]
      exact hb n hlt
    · have : n = r.length := by omega
      subst this
      rw [gd_one, hr, en]
      exact ⟨v1, v0⟩
theorem read_plan : ∀ ds st R Rx, spPlan ds st R Rx → wb_law_plan spPickAt (bodyEd R Rx) (startD 9 ds) st := by
  rintro ds st R Rx ⟨d, c, ns, letters, states, nodes, many, rows, shows, web, often, rfl, dk, hrl, hs, hwl, hn, hw, h0, h1, hm, kk⟩
  unfold wb_law_plan bodyEd gaugeD
  walk_at "s"
  intro p hp
  have pd := dk.ne_new hp
  have pc : p ≠ c := fun e => by rw [e, dk.hc] at hp; cases hp
  walk_at "s"
  rw [Int.toNat_natCast]
  walk_at "ep"
  refine for_rng many (fun j ep T => ∃ (plan : List Choice) (x6 x7 x8 : Option D), plan.length = j ∧ (∀ ch ∈ plan, ChoiceOk states nodes web ch) ∧ T p = some (.lst (plan.map choiceD)) ∧ Dr d c ns st T ∧
    ep = [some (.ref d), some (.tup [.str (PySem.Str.ofString "gauge"), .int (letters : Int), .tup (rows.map natsD), .tup (shows.map qD)]), some (webD web), some (.int (many : Int)), some (.int often), some (.ref p), x6, x7, x8]) ?_ ?_ ⟨[], _, _, _, rfl, fun ch hch => (by cases hch), put_same, (Dr.refl dk).new hp, rfl⟩
  · rintro ep T ⟨plan, x6, x7, x8, hl, hco, hT, dr, rfl⟩
    refine ⟨trivial, ?_⟩
    walk_at "s"
    exact s_end (kk plan T hl hco dr)
  · rintro K j ep T hj ⟨plan, x6, x7, x8, hl, hco, hT, dr, rfl⟩ ih
    refine ⟨trivial, ?_⟩
    walk_at "s"
    refine lc_pre natsD rows (fun pre acc T2 => ∃ ch : Choice, acc = (ch.map fun r => D.tup (r.map D.int)) ∧ ch.length = pre.length ∧ (∀ r ∈ ch, r.length = nodes ∧ ∀ n, n < nodes → r.getD n (-1) < (web.getD n []).length ∧ -1 ≤ r.getD n (-1)) ∧ T2 p = some (.lst (plan.map choiceD)) ∧ Dr d c ns st T2) ?_ ?_ ⟨[], rfl, rfl, fun r hr => (by cases hr), hT, dr⟩
    · rintro acc T2 ⟨ch, rfl, hcl, hcr, hT2, dr2⟩
      refine ⟨trivial, ?_⟩
      intro u hu
      have npu : p ≠ u := ne_new hu hT2
      walk_at "s"
      refine ⟨by rw [List.length_map]; show _ < 2 ^ 24; omega, ?_⟩
      refine ih _ _ ⟨plan ++ [ch], _, _, _, by rw [List.length_append, hl]; rfl, fun c' hc' => ?_, by rw [put_same, List.map_append]; rfl, ⟨(dr2.sx.trans (Sx.new hu)).put_off hp, (dr2.dk.new hu).putL pd pc⟩, rfl⟩
      rcases List.mem_append.mp hc' with z | z
      · exact hco c' z
      · rw [List.mem_singleton.mp z]; exact ⟨by omega, hcr⟩
    · rintro K2 pre row rest acc T2 e ⟨ch, rfl, hcl, hcr, hT2, dr2⟩ ih2
      refine ⟨trivial, ?_⟩
      have hpl : pre.length + 1 ≤ rows.length := by rw [e, List.length_append, List.length_cons]; omega
      walk_at "s"
      refine pick_row dr2.dk (by omega) hw h0 h1 fun r T3 hr hb dr3 => ?_
      refine ⟨by rw [List.length_map]; show _ < 2 ^ 24; omega, ?_⟩
      refine ih2 _ _ ⟨ch ++ [r], by rw [List.map_append]; rfl, by rw [List.length_append, List.length_append, hcl]; rfl, fun r' hr' => ?_, dr3.sx p _ pd hT2, dr2.trans dr3⟩
      rcases List.mem_append.mp hr' with z | z
      · exact hcr r' z
      · rw [List.mem_singleton.mp z]
        exact ⟨by omega, fun n hn' => hb n (by omega)⟩
end K25
end DL

namespace DL
namespace K25
open PySem L2 C
local macro_rules | `(tactic| walk_at "look") => `(tactic| first
  | assumption
  | exact put_same
  | (refine look_ne (by first | assumption | exact Ne.symm (by assumption)) ?_; walk_at "look")
  | (refine look_new (by assumption) ?_; walk_at "look"))
local macro_rules | `(tactic| walk_at "side") => `(tactic| first | assumption | exact trivial | decide | omega | exact ⟨by assumption, by assumption⟩ | exact ⟨by omega, by omega⟩ | exact ⟨by decide, by decide⟩ | exact ⟨by decide, by decide, by decide⟩ | (exact .inl (.inl ⟨by decide, by decide⟩)) | (exact .inl (.inr ⟨by decide, by decide⟩)) | (exact .inl (.inl ⟨by omega, by omega⟩)) | (exact .inl (.inr ⟨by omega, by omega⟩)))
local macro_rules | `(tactic| walk_at "opt") => `(tactic| first | (with_reducible exact atI_0 _ _) | (with_reducible exact atI_1 _ _ _) | (with_reducible exact atI_2 _ _ _ _) | (with_reducible exact atI_3 _ _ _ _ _) | (with_reducible exact atI_4 _ _ _ _ _ _) | assumption | exact atI_0 _ _ | exact atI_1 _ _ _ | exact atI_2 _ _ _ _ | exact atI_3 _ _ _ _ _ | exact atI_4 _ _ _ _ _ _ | exact boolsOf_map _ | exact intsOf_map _ | exact rfl)
local macro_rules | `(tactic| walk_at "s1") => `(tactic| first
  | ((with_reducible refine' s_var ?k1 ?_); (case k1 => exact rfl))
  | with_reducible refine s_bin ?_
  | with_reducible refine s_c ?_
  | with_reducible refine s_seqM ?_
  | with_reducible refine s_asB ?_
  | with_reducible refine s_asI ?_
  | with_reducible refine s_asRI ?_
  | with_reducible refine s_acons ?_
  | with_reducible refine s_anil ?_
  | with_reducible refine s_call ?_
  | with_reducible refine s_cb ?_
  | with_reducible refine s_set ?_
  | with_reducible refine s_ixT ?_
  | with_reducible refine s_ixL ?_
  | with_reducible refine s_ixS ?_
  | ((with_reducible refine' s_getL ?k1 ?_); (case k1 => walk_at "look"))
  | ((with_reducible refine' s_opt ?k1 ?_); (case k1 => walk_at "opt"))
  | with_reducible refine s_binT ?_
  | with_reducible refine s_tup ?_
  | with_reducible refine s_tpT ?_
  | with_reducible refine s_key ?_
  | with_reducible refine s_kII ?_
  | with_reducible refine s_kIII ?_
  | with_reducible refine s_dget ?_
  | ((with_reducible refine' s_atT ?k1 ?_); (case k1 => walk_at "look"))
  | ((with_reducible refine' s_atTl ?k1 ?_); (case k1 => walk_at "look"))
  | ((with_reducible refine' s_got ?k1 ?_); (case k1 => assumption))
  | with_reducible refine s_din ?_
  | with_reducible refine s_dinT ?_
  | with_reducible refine s_dgetor ?_
  | with_reducible refine s_dput ?_
  | with_reducible refine s_dnewT ?_
  | with_reducible refine s_disp1 ?_
  | with_reducible refine s_keys ?_
  | with_reducible refine s_ixK0 ?_
  | with_reducible refine s_ixK1 ?_
  | with_reducible refine s_bTK ?_
  | with_reducible refine s_gTK ?_
  | with_reducible refine s_lst ?_
  | with_reducible refine s_ret ?_
  | with_reducible refine s_if ?_
  | with_reducible refine s_nextM ?_
  | with_reducible refine s_drop ?_
  | with_reducible refine s_par ?_
  | with_reducible refine s_asg ?_
  | with_reducible refine s_gN ?_
  | ((with_reducible refine' s_gT ?k1 ?_); (case k1 => exact rfl))
  | with_reducible refine s_gsC ?_
  | with_reducible refine s_gsN ?_
  | with_reducible refine s_gIx ?_
  | with_reducible refine s_setD ?_
  | with_reducible refine s_for ?_
  | with_reducible refine s_b ?_
  | with_reducible refine s_and ?_
  | with_reducible refine s_or ?_
  | with_reducible refine s_not ?_
  | with_reducible refine s_ife ?_
  | with_reducible refine s_neg ?_
  | with_reducible refine s_notV ?_
  | with_reducible refine s_andV ?_
  | with_reducible refine s_orV ?_
  | with_reducible refine s_isi ?_
  | with_reducible refine s_m ?_
  | with_reducible refine s_none ?_
  | with_reducible refine s_noneT ?_
  | with_reducible refine s_sl ?_
  | with_reducible refine s_oN ?_
  | with_reducible refine s_oS ?_
  | with_reducible refine s_lc ?_
  | with_reducible refine s_bN ?_
  | with_reducible refine s_bT ?_
  | with_reducible refine s_bTC ?_
  | with_reducible refine s_bTN ?_
  | with_reducible refine s_it ?_
  | with_reducible refine s_rng ?_
  | with_reducible refine s_zip ?_
  | with_reducible refine s_zip2 ?_
  | with_reducible refine s_enum ?_
  | with_reducible refine s_enum1 ?_
  | with_reducible refine s_yes ?_
  | with_reducible refine s_cT ?_
  | with_reducible refine s_cF ?_
  | with_reducible refine s_retN ?_
  | with_reducible refine s_try ?_
  | with_reducible refine s_raise0 ?_
  | with_reducible refine s_raise1 ?_
  | with_reducible refine s_isE ?_
  | with_reducible refine s_fld ?_
  | with_reducible refine s_brk ?_
  | with_reducible refine s_cnt ?_
  | ((with_reducible refine' s_aug ?k1 ?_); (case k1 => exact rfl))
  | with_reducible refine s_augix ?_
  | with_reducible refine s_addI ?_
  | ((with_reducible refine' s_addT ?k1 ?_); (case k1 => walk_at "side"))
  | ((with_reducible refine' s_addS ?k1 ?_); (case k1 => walk_at "side"))
  | with_reducible refine s_catL ?_
  | with_reducible refine s_subI ?_
  | ((with_reducible refine' s_mulI ?k1 ?_); (case k1 => walk_at "side"))
  | ((with_reducible refine' s_divI ?k1 ?_); (case k1 => walk_at "side"))
  | ((with_reducible refine' s_modI ?k1 ?_); (case k1 => walk_at "side"))
  | ((with_reducible refine' s_powI ?k1 ?_); (case k1 => walk_at "side"))
  | ((with_reducible refine' s_shlI ?k1 ?_); (case k1 => walk_at "side"))
  | with_reducible refine s_iaddI ?_
  | ((with_reducible refine' s_iaddS ?k1 ?_); (case k1 => walk_at "side"))
  | with_reducible refine s_eqI ?_
  | with_reducible refine s_neI ?_
  | with_reducible refine s_eqS ?_
  | with_reducible refine s_neS ?_
  | with_reducible refine s_eqB ?_
  | with_reducible refine s_neB ?_
  | with_reducible refine s_cmp ?_
  | ((with_reducible refine' s_ixX ?k1 ?_); (case k1 => walk_at "side"))
  | with_reducible refine s_lenT ?_
  | with_reducible refine s_lenL ?_
  | with_reducible refine s_lenC ?_
  | ((with_reducible refine' s_lenS ?k1 ?_); (case k1 => walk_at "side"))
  | with_reducible refine s_abs ?_
  | with_reducible refine s_intI ?_
  | with_reducible refine s_intB ?_
  | with_reducible refine s_gcd ?_
  | with_reducible refine s_listT ?_
  | with_reducible refine s_listL ?_
  | with_reducible refine s_tupT ?_
  | with_reducible refine s_tupL ?_
  | with_reducible refine s_all ?_
  | with_reducible refine s_any ?_
  | with_reducible refine s_sum ?_
  | with_reducible refine s_sumAT ?_
  | with_reducible refine s_sumAL ?_
  | with_reducible refine s_cnT ?_
  | with_reducible refine s_cnF ?_
  | with_reducible refine s_par3 ?_
  | with_reducible refine s_max2 ?_
  | with_reducible refine s_min2 ?_
  | with_reducible refine s_chain ?_
  | with_reducible refine s_chainT ?_
  | with_reducible refine s_inL ?_
  | with_reducible refine s_inT ?_
  | with_reducible refine s_append ?_
  | with_reducible refine s_extend ?_
  | with_reducible refine s_popAt ?_
  | with_reducible refine s_pop ?_
  | with_reducible refine s_slT ?_
  | with_reducible refine s_slL ?_
  | with_reducible refine s_itT ?_
  | with_reducible refine s_itL ?_
  | with_reducible refine s_itC ?_
  | ((with_reducible refine' s_rng1 ?k1 ?_); (case k1 => walk_at "side"))
  | ((with_reducible refine' s_rng2 ?k1 ?_); (case k1 => walk_at "side"))
  | ((with_reducible refine' s_rngD ?k1 ?_); (case k1 => walk_at "side"))
  | ((with_reducible refine' And.intro (s_isDT ?k1) ?_); (case k1 => walk_at "look"))
  | ((with_reducible refine' s_isLst ?k1 ?_); (case k1 => walk_at "look"))
  | ((with_reducible refine' s_lstOkL ?k1 ?_); (case k1 => walk_at "look"))
  | ((with_reducible refine' And.intro ?k1 ?_); (case k1 => walk_at "side")))
local macro_rules | `(tactic| walk_at "s") => `(tactic| repeat (walk_at "s1"))
local macro_rules | `(tactic| walk_at "ep") => `(tactic| simp only [startD, List.map_cons, List.map_nil, List.length_cons, List.length_nil, Nat.reduceAdd, Nat.reduceSub, List.replicate, List.cons_append, List.nil_append, List.set_cons_succ, List.set_cons_zero])
def lightM (m : Mv) : Mv := (1 + m.1 % 2, m.2)
def lightW (web : List (List (List Mv))) : List (List (List Mv)) := web.map fun nd => nd.map fun c => c.map lightM
def spLight : SpD := fun ds st R _ => ∃ web : List (List (List Mv)), ds = [webD web] ∧ web.length ≤ 64 ∧ (∀ nd ∈ web, nd.length ≤ 64 ∧ ∀ c ∈ nd, c.length ≤ 64) ∧ R (webD (lightW web)) st
theorem len_light : ∀ ds st R Rx, spLight ds st R Rx → ds.length = 1 := by
  rintro ds st R Rx ⟨_, rfl, -⟩; rfl
theorem read_light : ∀ ds st R Rx, spLight ds st R Rx → wb_law_light (bodyEd R Rx) (startD 5 ds) st := by
  rintro ds st R Rx ⟨web, rfl, hl, hn, kk⟩
  unfold wb_law_light bodyEd webD
  walk_at "s"
  intro p hp
  walk_at "s"
  walk_at "ep"
  refine for_pre nodeD web (fun pre ep T => ∃ x2 x3 x4 : Option D, T p = some (.lst ((lightW pre).map nodeD)) ∧ Sub st T ∧ ep = [some (.tup (web.map nodeD)), some (.ref p), x2, x3, x4]) ?_ ?_ ⟨_, _, _, put_same, Sub.put_new hp, rfl⟩
  · rintro ep T ⟨x2, x3, x4, hT, sT, rfl⟩
    refine ⟨trivial, ?_⟩
    walk_at "s"
    exact s_endS sT kk
  · rintro K pre nd rest ep T e ⟨x2, x3, x4, hT, sT, rfl⟩ ih
    refine ⟨trivial, ?_⟩
    have hnd : nd ∈ web := by rw [e]; exact List.mem_append_right _ List.mem_cons_self
    have hpl : pre.length + 1 ≤ web.length := by rw [e, List.length_append, List.length_cons]; omega
    obtain ⟨n1, n2⟩ := hn nd hnd
    unfold nodeD
    walk_at "s"
    refine lc_pre cornerD nd (fun p2 acc T2 => acc = (p2.map fun c => c.map lightM).map cornerD ∧ T2 p = some (.lst ((lightW pre).map nodeD)) ∧ Sub st T2) ?_ ?_ ⟨rfl, hT, sT⟩
    · rintro acc T2 ⟨rfl, hT2, sT2⟩
      refine ⟨trivial, ?_⟩
      intro u hu
      have npu : p ≠ u := ne_new hu hT2
      walk_at "s"
      refine ⟨by rw [List.length_map, lightW, List.length_map]; show _ < 2 ^ 24; omega, ?_⟩
      refine ih _ _ ⟨_, _, _, by rw [put_same]; unfold lightW; rw [List.map_append, List.map_append]; rfl, (sT2.trans (Sub.put_new hu)).put_to _ hp, rfl⟩
    · rintro K2 p2 c r2 acc T2 e2 ⟨rfl, hT2, sT2⟩ ih2
      refine ⟨trivial, ?_⟩
      have hc := n2 c (by rw [e2]; exact List.mem_append_right _ List.mem_cons_self)
      have hp2 : p2.length + 1 ≤ nd.length := by rw [e2, List.length_append, List.length_cons]; omega
      unfold cornerD
      walk_at "s"
      refine lc_pre moveD c (fun p3 acc T3 => acc = (p3.map lightM).map moveD ∧ T3 p = some (.lst ((lightW pre).map nodeD)) ∧ Sub st T3) ?_ ?_ ⟨rfl, hT2, sT2⟩
      · rintro acc T3 ⟨rfl, hT3, sT3⟩
        refine ⟨trivial, ?_⟩
        intro u hu
        have npu : p ≠ u := ne_new hu hT3
        walk_at "s"
        refine ⟨by rw [List.length_map, List.length_map]; show _ < 2 ^ 24; omega, ?_⟩
        exact ih2 _ _ ⟨by rw [List.map_append, List.map_append]; rfl, by rw [put_ne npu]; exact hT3, sT3.trans (Sub.put_new hu)⟩
      · rintro K3 p3 m r3 acc T3 e3 ⟨rfl, hT3, sT3⟩ ih3
        refine ⟨trivial, ?_⟩
        have hp3 : p3.length + 1 ≤ c.length := by rw [e3, List.length_append, List.length_cons]; omega
        unfold moveD
        walk_at "s"
        refine ⟨by rw [List.length_map, List.length_map]; show _ < 2 ^ 24; omega, ?_⟩
        exact ih3 _ _ ⟨by rw [List.map_append, List.map_append]; rfl, hT3, sT3⟩
theorem len_cutD {ds : List D} {a b : Option Int} : (cutD ds a b).length ≤ ds.length := by
  unfold cutD
  rw [List.length_take, List.length_drop]
  omega
theorem wsum_le {letters nodes b : Nat} : ∀ {c : List Mv}, (∀ v ∈ c, v.1 ≤ (b : Int)) → wsum c ≤ (b : Int) * (c.length : Int)
  | [], _ => by show (0 : Int) ≤ _; rw [List.length_nil]; omega
  | m :: c, h => by
    have a := wsum_le (letters := letters) (nodes := nodes) (c := c) fun v hv => h v (List.mem_cons_of_mem _ hv)
    have := h m List.mem_cons_self
    show m.1 + wsum c ≤ _
    rw [List.length_cons, Int.natCast_succ, Int.mul_add]
    omega
theorem flat_len {α : Type} {cn : Nat} : ∀ {w : List (List α)}, (∀ nd ∈ w, nd.length ≤ cn) → w.flatten.length ≤ w.length * cn
  | [], _ => by simp
  | nd :: w, h => by
    have := flat_len (w := w) fun x hx => h x (List.mem_cons_of_mem _ hx)
    have := h nd List.mem_cons_self
    rw [List.flatten_cons, List.length_append, List.length_cons, Nat.succ_mul]
    omega
theorem mkRun {m letters states nodes cn b wt : Nat} {rows : List (List Nat)} {shows : List Rat} {web : List (List (List Mv))} (g : GOk 3 letters states rows shows) (w : WOk m letters nodes web) (hm : m ≤ 64) (hc : ∀ nd ∈ web, nd.length ≤ cn)
    (hw : ∀ nd ∈ web, ∀ c ∈ nd, ∀ v ∈ c, v.1 ≤ (wt : Int)) (hb : wt * m < 2 ^ b) : Run (1 + nodes * cn * b) letters states nodes rows shows web := by
  refine ⟨g, w.wl, fun nd hnd c hcc => ?_, ?_, w.n0, w.n1⟩
  · obtain ⟨a1, a2, a3⟩ := (w.n nd hnd).2 c hcc
    exact ⟨a1, by omega, a3⟩
  · have h1 := prodI_bt (b := b) (l := web.flatten.map wsum) fun x hx => by
      obtain ⟨c, hcc, rfl⟩ := List.mem_map.mp hx
      obtain ⟨nd, hnd, hcc⟩ := List.mem_flatten.mp hcc
      obtain ⟨a1, a2, a3⟩ := (w.n nd hnd).2 c hcc
      have h2 := wsum_le (letters := letters) (nodes := nodes) (b := wt) (c := c) (hw nd hnd c hcc)
      have h3 := wsum_pos a1 a3
      have h4 : (wt : Int) * (c.length : Int) ≤ (wt : Int) * (m : Int) := Int.mul_le_mul_of_nonneg_left (by omega) (by omega)
      unfold Bt
      have h5 : ((wsum c).natAbs : Int) ≤ ((wt * m : Nat) : Int) := by rw [Int.natCast_mul]; omega
      have h6 : (wsum c).natAbs ≤ wt * m := by omega
      omega
    refine h1.mono ?_
    rw [List.length_map]
    have h2 := flat_len hc
    rw [w.wl] at h2
    have := Nat.mul_le_mul_right b h2
    omega
theorem wok_wt {m letters nodes : Nat} {web : List (List (List Mv))} (w : WOk m letters nodes web) : ∀ nd ∈ web, ∀ c ∈ nd, ∀ v ∈ c, v.1 ≤ ((1000 : Nat) : Int) := fun nd h1 c h2 v h3 => (((w.n nd h1).2 c h2).2.2 v h3).w1
theorem light_ok {m letters nodes cn : Nat} {web : List (List (List Mv))} (w : WOk m letters nodes web) (hc : ∀ nd ∈ web, nd.length ≤ cn) : WOk m letters nodes (lightW web) ∧ (∀ nd ∈ lightW web, nd.length ≤ cn) ∧ ∀ nd ∈ lightW web, ∀ c ∈ nd, ∀ v ∈ c, v.1 ≤ ((2 : Nat) : Int) := by
  refine ⟨⟨by unfold lightW; rw [List.length_map]; exact w.wl, fun nd hnd => ?_, w.n0, w.n1⟩, fun nd hnd => ?_, fun nd hnd c hcc v hv => ?_⟩
  · obtain ⟨nd0, h0, rfl⟩ := List.mem_map.mp hnd
    obtain ⟨a, b⟩ := w.n nd0 h0
    refine ⟨by rw [List.length_map]; exact a, fun c hcc => ?_⟩
    obtain ⟨c0, hc0, rfl⟩ := List.mem_map.mp hcc
    obtain ⟨b1, b2, b3⟩ := b c0 hc0
    refine ⟨fun z => b1 (List.map_eq_nil_iff.mp z), by rw [List.length_map]; exact b2, fun v hv => ?_⟩
    obtain ⟨v0, hv0, rfl⟩ := List.mem_map.mp hv
    have := b3 v0 hv0
    have h1 := Int.emod_nonneg v0.1 (show (2 : Int) ≠ 0 by decide)
    have h2 := Int.emod_lt_of_pos v0.1 (show (0 : Int) < 2 by decide)
    exact ⟨by show (0 : Int) < 1 + v0.1 % 2; omega, by show 1 + v0.1 % 2 ≤ (1000 : Int); omega, this.l, this.a⟩
  · obtain ⟨nd0, h0, rfl⟩ := List.mem_map.mp hnd
    rw [List.length_map]; exact hc nd0 h0
  · obtain ⟨nd0, h0, rfl⟩ := List.mem_map.mp hnd
    obtain ⟨c0, hc0, rfl⟩ := List.mem_map.mp hcc
    obtain ⟨v0, hv0, rfl⟩ := List.mem_map.mp hv
    have h2 := Int.emod_lt_of_pos v0.1 (show (0 : Int) < 2 by decide)
    show 1 + v0.1 % 2 ≤ (2 : Int)
    omega
/-- what a case is drawn to be -/
structure CaseOk (many often q letters states nodes : Nat) (rows : List (List Nat)) (shows : List Rat) (web : List (List (List Mv))) : Prop where
  run : Run q letters states nodes rows shows web
  nl : ∀ nd ∈ web, nd.length ≤ 64
  m : (many + 1) * q ≤ 4000
  m5 : 5 * q ≤ 4000
  many : many ≤ 64
  o0 : 0 < often
  o1 : often ≤ 100
def spCase : SpD := fun ds st R _ => ∃ (d c : Addr) (ns : List Int), ds = [.ref d] ∧ DK st d c ns ∧ ∀ (many often q letters states nodes : Nat) rows shows web st', CaseOk many often q letters states nodes rows shows web → Dr d c ns st st' → R (.tup [gaugeD letters rows shows, webD web, .int (many : Int), .int (often : Int)]) st'
theorem len_case : ∀ ds st R Rx, spCase ds st R Rx → ds.length = 1 := by
  rintro ds st R Rx ⟨_, _, _, rfl, -⟩; rfl
end K25
end DL

namespace DL
namespace K25
open PySem L2 C
local macro_rules | `(tactic| walk_at "look") => `(tactic| first
  | assumption
  | exact put_same
  | (refine look_ne (by first | assumption | exact Ne.symm (by assumption)) ?_; walk_at "look")
  | (refine look_new (by assumption) ?_; walk_at "look"))
local macro_rules | `(tactic| walk_at "side") => `(tactic| first | assumption | exact trivial | decide | omega | exact ⟨by assumption, by assumption⟩ | exact ⟨by omega, by omega⟩ | exact ⟨by decide, by decide⟩ | exact ⟨by decide, by decide, by decide⟩ | (exact .inl (.inl ⟨by decide, by decide⟩)) | (exact .inl (.inr ⟨by decide, by decide⟩)) | (exact .inl (.inl ⟨by omega, by omega⟩)) | (exact .inl (.inr ⟨by omega, by omega⟩)))
local macro_rules | `(tactic| walk_at "opt") => `(tactic| first | (with_reducible exact atI_0 _ _) | (with_reducible exact atI_1 _ _ _) | (with_reducible exact atI_2 _ _ _ _) | (with_reducible exact atI_3 _ _ _ _ _) | (with_reducible exact atI_4 _ _ _ _ _ _) | assumption | exact atI_0 _ _ | exact atI_1 _ _ _ | exact atI_2 _ _ _ _ | exact atI_3 _ _ _ _ _ | exact atI_4 _ _ _ _ _ _ | exact boolsOf_map _ | exact intsOf_map _ | exact rfl)
local macro_rules | `(tactic| walk_at "s1") => `(tactic| first
  | ((with_reducible refine' s_var ?k1 ?_); (case k1 => exact rfl))
  | with_reducible refine s_bin ?_
  | with_reducible refine s_c ?_
  | with_reducible refine s_seqM ?_
  | with_reducible refine s_asB ?_
  | with_reducible refine s_asI ?_
  | with_reducible refine s_asRI ?_
  | with_reducible refine s_acons ?_
  | with_reducible refine s_anil ?_
  | with_reducible refine s_call ?_
  | with_reducible refine s_cb ?_
  | with_reducible refine s_set ?_
  | with_reducible refine s_ixT ?_
  | with_reducible refine s_ixL ?_
  | with_reducible refine s_ixS ?_
  | ((with_reducible refine' s_getL ?k1 ?_); (case k1 => walk_at "look"))
  | ((with_reducible refine' s_opt ?k1 ?_); (case k1 => walk_at "opt"))
  | with_reducible refine s_binT ?_
  | with_reducible refine s_tup ?_
  | with_reducible refine s_tpT ?_
  | with_reducible refine s_key ?_
  | with_reducible refine s_kII ?_
  | with_reducible refine s_kIII ?_
  | with_reducible refine s_dget ?_
  | ((with_reducible refine' s_atT ?k1 ?_); (case k1 => walk_at "look"))
  | ((with_reducible refine' s_atTl ?k1 ?_); (case k1 => walk_at "look"))
  | ((with_reducible refine' s_got ?k1 ?_); (case k1 => assumption))
  | with_reducible refine s_din ?_
  | with_reducible refine s_dinT ?_
  | with_reducible refine s_dgetor ?_
  | with_reducible refine s_dput ?_
  | with_reducible refine s_dnewT ?_
  | with_reducible refine s_disp1 ?_
  | with_reducible refine s_keys ?_
  | with_reducible refine s_ixK0 ?_
  | with_reducible refine s_ixK1 ?_
  | with_reducible refine s_bTK ?_
  | with_reducible refine s_gTK ?_
  | with_reducible refine s_lst ?_
  | with_reducible refine s_ret ?_
  | with_reducible refine s_if ?_
  | with_reducible refine s_nextM ?_
  | with_reducible refine s_drop ?_
  | with_reducible refine s_par ?_
  | with_reducible refine s_asg ?_
  | with_reducible refine s_gN ?_
  | ((with_reducible refine' s_gT ?k1 ?_); (case k1 => exact rfl))
  | with_reducible refine s_gsC ?_
  | with_reducible refine s_gsN ?_
  | with_reducible refine s_gIx ?_
  | with_reducible refine s_setD ?_
  | with_reducible refine s_for ?_
  | with_reducible refine s_b ?_
  | with_reducible refine s_and ?_
  | with_reducible refine s_or ?_
  | with_reducible refine s_not ?_
  | with_reducible refine s_ife ?_
  | with_reducible refine s_neg ?_
  | with_reducible refine s_notV ?_
  | with_reducible refine s_andV ?_
  | with_reducible refine s_orV ?_
  | with_reducible refine s_isi ?_
  | with_reducible refine s_m ?_
  | with_reducible refine s_none ?_
  | with_reducible refine s_noneT ?_
  | with_reducible refine s_sl ?_
  | with_reducible refine s_oN ?_
  | with_reducible refine s_oS ?_
  | with_reducible refine s_lc ?_
  | with_reducible refine s_bN ?_
  | with_reducible refine s_bT ?_
  | with_reducible refine s_bTC ?_
  | with_reducible refine s_bTN ?_
  | with_reducible refine s_it ?_
  | with_reducible refine s_rng ?_
  | with_reducible refine s_zip ?_
  | with_reducible refine s_zip2 ?_
  | with_reducible refine s_enum ?_
  | with_reducible refine s_enum1 ?_
  | with_reducible refine s_yes ?_
  | with_reducible refine s_cT ?_
  | with_reducible refine s_cF ?_
  | with_reducible refine s_retN ?_
  | with_reducible refine s_try ?_
  | with_reducible refine s_raise0 ?_
  | with_reducible refine s_raise1 ?_
  | with_reducible refine s_isE ?_
  | with_reducible refine s_fld ?_
  | with_reducible refine s_brk ?_
  | with_reducible refine s_cnt ?_
  | ((with_reducible refine' s_aug ?k1 ?_); (case k1 => exact rfl))
  | with_reducible refine s_augix ?_
  | with_reducible refine s_addI ?_
  | ((with_reducible refine' s_addT ?k1 ?_); (case k1 => walk_at "side"))
  | ((with_reducible refine' s_addS ?k1 ?_); (case k1 => walk_at "side"))
  | with_reducible refine s_catL ?_
  | with_reducible refine s_subI ?_
  | ((with_reducible refine' s_mulI ?k1 ?_); (case k1 => walk_at "side"))
  | ((with_reducible refine' s_divI ?k1 ?_); (case k1 => walk_at "side"))
  | ((with_reducible refine' s_modI ?k1 ?_); (case k1 => walk_at "side"))
  | ((with_reducible refine' s_powI ?k1 ?_); (case k1 => walk_at "side"))
  | ((with_reducible refine' s_shlI ?k1 ?_); (case k1 => walk_at "side"))
  | with_reducible refine s_iaddI ?_
  | ((with_reducible refine' s_iaddS ?k1 ?_); (case k1 => walk_at "side"))
  | with_reducible refine s_eqI ?_
  | with_reducible refine s_neI ?_
  | with_reducible refine s_eqS ?_
  | with_reducible refine s_neS ?_
  | with_reducible refine s_eqB ?_
  | with_reducible refine s_neB ?_
  | with_reducible refine s_cmp ?_
  | ((with_reducible refine' s_ixX ?k1 ?_); (case k1 => walk_at "side"))
  | with_reducible refine s_lenT ?_
  | with_reducible refine s_lenL ?_
  | with_reducible refine s_lenC ?_
  | ((with_reducible refine' s_lenS ?k1 ?_); (case k1 => walk_at "side"))
  | with_reducible refine s_abs ?_
  | with_reducible refine s_intI ?_
  | with_reducible refine s_intB ?_
  | with_reducible refine s_gcd ?_
  | with_reducible refine s_listT ?_
  | with_reducible refine s_listL ?_
  | with_reducible refine s_tupT ?_
  | with_reducible refine s_tupL ?_
  | with_reducible refine s_all ?_
  | with_reducible refine s_any ?_
  | with_reducible refine s_sum ?_
  | with_reducible refine s_sumAT ?_
  | with_reducible refine s_sumAL ?_
  | with_reducible refine s_cnT ?_
  | with_reducible refine s_cnF ?_
  | with_reducible refine s_par3 ?_
  | with_reducible refine s_max2 ?_
  | with_reducible refine s_min2 ?_
  | with_reducible refine s_chain ?_
  | with_reducible refine s_chainT ?_
  | with_reducible refine s_inL ?_
  | with_reducible refine s_inT ?_
  | with_reducible refine s_append ?_
  | with_reducible refine s_extend ?_
  | with_reducible refine s_popAt ?_
  | with_reducible refine s_pop ?_
  | with_reducible refine s_slT ?_
  | with_reducible refine s_slL ?_
  | with_reducible refine s_itT ?_
  | with_reducible refine s_itL ?_
  | with_reducible refine s_itC ?_
  | ((with_reducible refine' s_rng1 ?k1 ?_); (case k1 => walk_at "side"))
  | ((with_reducible refine' s_rng2 ?k1 ?_); (case k1 => walk_at "side"))
  | ((with_reducible refine' s_rngD ?k1 ?_); (case k1 => walk_at "side"))
  | ((with_reducible refine' And.intro (s_isDT ?k1) ?_); (case k1 => walk_at "look"))
  | ((with_reducible refine' s_isLst ?k1 ?_); (case k1 => walk_at "look"))
  | ((with_reducible refine' s_lstOkL ?k1 ?_); (case k1 => walk_at "look"))
  | ((with_reducible refine' And.intro ?k1 ?_); (case k1 => walk_at "side")))
local macro_rules | `(tactic| walk_at "s") => `(tactic| repeat (walk_at "s1"))
local macro_rules | `(tactic| walk_at "ep") => `(tactic| simp only [startD, List.map_cons, List.map_nil, List.length_cons, List.length_nil, Nat.reduceAdd, Nat.reduceSub, List.replicate, List.cons_append, List.nil_append, List.set_cons_succ, List.set_cons_zero])
theorem read_case : ∀ ds st R Rx, spCase ds st R Rx → wb_law_case spDraw (spGauge false) spWebC spLight (bodyEd R Rx) (startD 5 ds) st := by
  rintro ds st R Rx ⟨d, c, ns, rfl, dk, kk⟩
  unfold wb_law_case bodyEd
  walk_at "s"
  refine ⟨d, c, ns, _, rfl, dk, by omega, sm (by omega) (by omega), fun kind st1 k0 k1 r1 => ?_⟩
  walk_at "s"
  refine s_dec (fun e7 => ?_) (fun e7 => ?_)
  · walk_at "s"
    refine ⟨d, c, ns, _, rfl, r1.dk, by omega, sm (by omega) (by omega), fun v st2 v0 v1 r2 => ?_⟩
    walk_at "s"
    obtain ⟨s, hs⟩ := Int.eq_ofNat_of_zero_le (show 0 ≤ 1 + v by omega)
    rw [hs]
    refine ⟨d, c, ns, 8, s, [], rfl, r2.dk, by omega, by omega, by omega, by omega, fun z => (by cases z), fun rows shows st3 _ g r3 => ?_⟩
    walk_at "s"
    refine ⟨d, c, ns, 8, 2, 16, 16, rfl, r3.dk, by omega, by omega, by omega, by omega, by omega, by omega, by omega, by omega, fun web st4 w wc r4 => ?_⟩
    walk_at "s"
    refine ⟨d, c, ns, _, rfl, r4.dk, by omega, sm (by omega) (by omega), fun u st5 u0 u1 r5 => ?_⟩
    walk_at "s"
    obtain ⟨m, hm⟩ := Int.eq_ofNat_of_zero_le (show 0 ≤ 1 + u by omega)
    rw [hm]
    have hm2 : m ≤ 3 := by omega
    have := Nat.mul_le_mul_right (1 + 2 * 16 * 14) (show m + 1 ≤ 4 by omega)
    exact s_end (kk m 2 _ 8 s 2 rows shows web st5 ⟨mkRun (b := 14) (cn := 16) g w (by decide) wc (wok_wt w) (by decide), fun nd h => Nat.le_trans (wc nd h) (by decide), by omega, by decide, by omega, by decide, by decide⟩ ((((r1.trans r2).trans r3).trans r4).trans r5))
  walk_at "s"
  refine s_dec (fun e11 => ?_) (fun e11 => ?_)
  · walk_at "s"
    refine ⟨d, c, ns, _, rfl, r1.dk, by omega, sm (by omega) (by omega), fun v st2 v0 v1 r2 => ?_⟩
    walk_at "s"
    refine ⟨d, c, ns, _, rfl, r2.dk, by omega, sm (by omega) (by omega), fun v' st2' v0' v1' r2' => ?_⟩
    walk_at "s"
    obtain ⟨n, hn⟩ := Int.eq_ofNat_of_zero_le (show 0 ≤ 2 + v' by omega)
    rw [hn]
    refine ⟨d, c, ns, 2, 40, [], rfl, r2'.dk, by omega, by omega, by omega, by omega, fun z => (by cases z), fun rows shows st3 _ g r3 => ?_⟩
    walk_at "s"
    refine ⟨d, c, ns, 2, n, 2, 2, rfl, r3.dk, by omega, by omega, by omega, by omega, by omega, by omega, by omega, by omega, fun web st4 w wc r4 => ?_⟩
    walk_at "s"
    refine ⟨d, c, ns, _, rfl, r4.dk, by omega, sm (by omega) (by omega), fun u st5 u0 u1 r5 => ?_⟩
    walk_at "s"
    obtain ⟨m, hm⟩ := Int.eq_ofNat_of_zero_le (show 0 ≤ 1 + u by omega)
    rw [hm]
    have hm2 : m ≤ 5 := by omega
    have hq : 1 + n * 2 * 11 ≤ 1 + 24 * 2 * 11 := by omega
    have := Nat.mul_le_mul (show m + 1 ≤ 6 by omega) hq
    exact s_end (kk m 2 _ 2 40 n rows shows web st5 ⟨mkRun (b := 11) (cn := 2) g w (by decide) wc (wok_wt w) (by decide), fun nd h => Nat.le_trans (wc nd h) (by decide), by omega, by omega, by omega, by decide, by decide⟩ (((((r1.trans r2).trans r2').trans r3).trans r4).trans r5))
  walk_at "s"
  refine s_dec (fun e13 => ?_) (fun e13 => ?_)
  · walk_at "s"
    refine ⟨d, c, ns, _, rfl, r1.dk, by omega, sm (by omega) (by omega), fun v st2 v0 v1 r2 => ?_⟩
    walk_at "s"
    obtain ⟨n, hn⟩ := Int.eq_ofNat_of_zero_le (show 0 ≤ 1 + v by omega)
    rw [hn]
    refine ⟨d, c, ns, 2, n, 2, 2, rfl, r2.dk, by omega, by omega, by omega, by omega, by omega, by omega, by omega, by omega, fun web st3 w wc r3 => ?_⟩
    walk_at "s"
    obtain ⟨lw, lc, lt⟩ := light_ok w wc
    refine ⟨web, rfl, by have := w.wl; omega, fun nd h => ⟨(w.n nd h).1, fun cc hcc => by have := ((w.n nd h).2 cc hcc).2.1; omega⟩, ?_⟩
    walk_at "s"
    refine ⟨d, c, ns, _, rfl, r3.dk, by omega, sm (by omega) (by omega), fun v' st4 v0' v1' r4 => ?_⟩
    walk_at "s"
    obtain ⟨s, hs⟩ := Int.eq_ofNat_of_zero_le (show 0 ≤ 1 + v' by omega)
    rw [hs]
    refine ⟨d, c, ns, 2, s, [], rfl, r4.dk, by omega, by omega, by omega, by omega, fun z => (by cases z), fun rows shows st5 _ g r5 => ?_⟩
    walk_at "s"
    refine ⟨d, c, ns, _, rfl, r5.dk, by omega, sm (by omega) (by omega), fun u st6 u0 u1 r6 => ?_⟩
    walk_at "s"
    obtain ⟨m, hm⟩ := Int.eq_ofNat_of_zero_le (show 0 ≤ 41 + u by omega)
    rw [hm]
    have hm2 : m ≤ 48 := by omega
    have hq : 1 + n * 2 * 3 ≤ 1 + 2 * 2 * 3 := by omega
    have := Nat.mul_le_mul (show m + 1 ≤ 49 by omega) hq
    exact s_end (kk m 9 _ 2 s n rows shows (lightW web) st6 ⟨mkRun (b := 3) (cn := 2) g lw (by decide) lc lt (by decide), fun nd h => Nat.le_trans (lc nd h) (by decide), by omega, by omega, by omega, by decide, by decide⟩ (((((r1.trans r2).trans r3).trans r4).trans r5).trans r6))
  walk_at "s"
  refine ⟨d, c, ns, _, rfl, r1.dk, by omega, sm (by omega) (by omega), fun v st2 v0 v1 r2 => ?_⟩
  walk_at "s"
  obtain ⟨L, hL⟩ := Int.eq_ofNat_of_zero_le (show 0 ≤ 1 + v by omega)
  rw [hL]
  refine ⟨d, c, ns, _, rfl, r2.dk, by omega, sm (by omega) (by omega), fun v' st3 v0' v1' r3 => ?_⟩
  walk_at "s"
  obtain ⟨n, hn⟩ := Int.eq_ofNat_of_zero_le (show 0 ≤ 1 + v' by omega)
  rw [hn]
  refine ⟨d, c, ns, L, n, 3, 3, rfl, r3.dk, by omega, by omega, by omega, by omega, by omega, by omega, by omega, by omega, fun web st4 w wc r4 => ?_⟩
  walk_at "s"
  have fin : ∀ (web : List (List (List Mv))) (x2 : Option D), WOk 3 L n web → (∀ nd ∈ web, nd.length ≤ 3) →
      wRet (wTup (wACons (wCall (spGauge false) (wACons (wVar 0) (wACons (wVar 4) (wACons (wBin addD (wC (.int 1)) (wCall spDraw (wACons (wVar 0) (wACons (wC (.int 4)) wANil)))) wANil)))) (wACons (wVar 3) (wACons (wCall spDraw (wACons (wVar 0) (wACons (wC (.int 6)) wANil))) (wACons (wC (.int 2)) wANil)))))
        { nx := fun _ st' => ∃ s2, Sub s2 st' ∧ R D.non s2, rt := fun d st' => ∃ s2, Sub s2 st' ∧ R d s2, ex := fun x _ st' => ∃ s2, Sub s2 st' ∧ Rx x s2 } [some (.ref d), some (.int kind), x2, some (webD web), some (.int (L : Int))] st4 := by
    intro web x2 w wc
    walk_at "s"
    refine ⟨d, c, ns, _, rfl, r4.dk, by omega, sm (by omega) (by omega), fun u st5 u0 u1 r5 => ?_⟩
    walk_at "s"
    obtain ⟨s, hs⟩ := Int.eq_ofNat_of_zero_le (show 0 ≤ 1 + u by omega)
    rw [hs]
    refine ⟨d, c, ns, L, s, [], rfl, r5.dk, by omega, by omega, by omega, by omega, fun z => (by cases z), fun rows shows st6 _ g r6 => ?_⟩
    walk_at "s"
    refine ⟨d, c, ns, _, rfl, r6.dk, by omega, sm (by omega) (by omega), fun u' st7 u0' u1' r7 => ?_⟩
    walk_at "s"
    obtain ⟨m, hm⟩ := Int.eq_ofNat_of_zero_le u0'
    rw [hm]
    have hm2 : m ≤ 5 := by omega
    have hq : 1 + n * 3 * 12 ≤ 1 + 4 * 3 * 12 := by omega
    have := Nat.mul_le_mul (show m + 1 ≤ 6 by omega) hq
    exact s_end (kk m 2 _ L s n rows shows web st7 ⟨mkRun (b := 12) (cn := 3) g w (by decide) wc (wok_wt w) (by decide), fun nd h => Nat.le_trans (wc nd h) (by decide), by omega, by omega, by omega, by decide, by decide⟩ ((((((r1.trans r2).trans r3).trans r4).trans r5).trans r6).trans r7))
  refine s_dec (fun e17 => ?_) (fun e17 => ?_)
  · have wl := w.wl
    have n0 := w.n0
    have n1 := w.n1
    unfold webD
    walk_at "s"
    refine s_addT ?_ ?_
    · have := len_cutD (ds := web.map nodeD) (a := some 1) (b := none)
      rw [List.length_map] at this
      show 1 + _ ≤ 2 ^ 24
      omega
    rw [show cutD (web.map nodeD) (some 1) none = (web.map nodeD).drop 1 from cut_from (z := 1) (by decide) (by rw [List.length_map]; omega), ← List.map_drop]
    walk_at "s"
    refine fin ([] :: web.drop 1) _ ⟨by rw [List.length_cons, List.length_drop]; omega, fun nd hnd => ?_, n0, n1⟩ fun nd hnd => ?_
    · rcases List.mem_cons.mp hnd with rfl | hnd
      · exact ⟨by decide, fun c hc => by cases hc⟩
      · exact w.n nd (List.mem_of_mem_drop hnd)
    · rcases List.mem_cons.mp hnd with rfl | hnd
      · decide
      · exact wc nd (List.mem_of_mem_drop hnd)
  · walk_at "s"
    exact fin web _ w wc
end K25
end DL

namespace DL
namespace K25
open PySem L2 C
local macro_rules | `(tactic| walk_at "look") => `(tactic| first
  | assumption
  | exact put_same
  | (refine look_ne (by first | assumption | exact Ne.symm (by assumption)) ?_; walk_at "look")
  | (refine look_new (by assumption) ?_; walk_at "look"))
local macro_rules | `(tactic| walk_at "side") => `(tactic| first | assumption | exact trivial | decide | omega | exact ⟨by assumption, by assumption⟩ | exact ⟨by omega, by omega⟩ | exact ⟨by decide, by decide⟩ | exact ⟨by decide, by decide, by decide⟩ | (exact .inl (.inl ⟨by decide, by decide⟩)) | (exact .inl (.inr ⟨by decide, by decide⟩)) | (exact .inl (.inl ⟨by omega, by omega⟩)) | (exact .inl (.inr ⟨by omega, by omega⟩)))
local macro_rules | `(tactic| walk_at "opt") => `(tactic| first | (with_reducible exact atI_0 _ _) | (with_reducible exact atI_1 _ _ _) | (with_reducible exact atI_2 _ _ _ _) | (with_reducible exact atI_3 _ _ _ _ _) | (with_reducible exact atI_4 _ _ _ _ _ _) | assumption | exact atI_0 _ _ | exact atI_1 _ _ _ | exact atI_2 _ _ _ _ | exact atI_3 _ _ _ _ _ | exact atI_4 _ _ _ _ _ _ | exact boolsOf_map _ | exact intsOf_map _ | exact rfl)
local macro_rules | `(tactic| walk_at "s1") => `(tactic| first
  | ((with_reducible refine' s_var ?k1 ?_); (case k1 => exact rfl))
  | with_reducible refine s_bin ?_
  | with_reducible refine s_c ?_
  | with_reducible refine s_seqM ?_
  | with_reducible refine s_asB ?_
  | with_reducible refine s_asI ?_
  | with_reducible refine s_asRI ?_
  | with_reducible refine s_acons ?_
  | with_reducible refine s_anil ?_
  | with_reducible refine s_call ?_
  | with_reducible refine s_cb ?_
  | with_reducible refine s_set ?_
  | with_reducible refine s_ixT ?_
  | with_reducible refine s_ixL ?_
  | with_reducible refine s_ixS ?_
  | ((with_reducible refine' s_getL ?k1 ?_); (case k1 => walk_at "look"))
  | ((with_reducible refine' s_opt ?k1 ?_); (case k1 => walk_at "opt"))
  | with_reducible refine s_binT ?_
  | with_reducible refine s_tup ?_
  | with_reducible refine s_tpT ?_
  | with_reducible refine s_key ?_
  | with_reducible refine s_kII ?_
  | with_reducible refine s_kIII ?_
  | with_reducible refine s_dget ?_
  | ((with_reducible refine' s_atT ?k1 ?_); (case k1 => walk_at "look"))
  | ((with_reducible refine' s_atTl ?k1 ?_); (case k1 => walk_at "look"))
  | ((with_reducible refine' s_got ?k1 ?_); (case k1 => assumption))
  | with_reducible refine s_din ?_
  | with_reducible refine s_dinT ?_
  | with_reducible refine s_dgetor ?_
  | with_reducible refine s_dput ?_
  | with_reducible refine s_dnewT ?_
  | with_reducible refine s_disp1 ?_
  | with_reducible refine s_keys ?_
  | with_reducible refine s_ixK0 ?_
  | with_reducible refine s_ixK1 ?_
  | with_reducible refine s_bTK ?_
  | with_reducible refine s_gTK ?_
  | with_reducible refine s_lst ?_
  | with_reducible refine s_ret ?_
  | with_reducible refine s_if ?_
  | with_reducible refine s_nextM ?_
  | with_reducible refine s_drop ?_
  | with_reducible refine s_par ?_
  | with_reducible refine s_asg ?_
  | with_reducible refine s_gN ?_
  | ((with_reducible refine' s_gT ?k1 ?_); (case k1 => exact rfl))
  | with_reducible refine s_gsC ?_
  | with_reducible refine s_gsN ?_
  | with_reducible refine s_gIx ?_
  | with_reducible refine s_setD ?_
  | with_reducible refine s_for ?_
  | with_reducible refine s_b ?_
  | with_reducible refine s_and ?_
  | with_reducible refine s_or ?_
  | with_reducible refine s_not ?_
  | with_reducible refine s_ife ?_
  | with_reducible refine s_neg ?_
  | with_reducible refine s_notV ?_
  | with_reducible refine s_andV ?_
  | with_reducible refine s_orV ?_
  | with_reducible refine s_isi ?_
  | with_reducible refine s_m ?_
  | with_reducible refine s_none ?_
  | with_reducible refine s_noneT ?_
  | with_reducible refine s_sl ?_
  | with_reducible refine s_oN ?_
  | with_reducible refine s_oS ?_
  | with_reducible refine s_lc ?_
  | with_reducible refine s_bN ?_
  | with_reducible refine s_bT ?_
  | with_reducible refine s_bTC ?_
  | with_reducible refine s_bTN ?_
  | with_reducible refine s_it ?_
  | with_reducible refine s_rng ?_
  | with_reducible refine s_zip ?_
  | with_reducible refine s_zip2 ?_
  | with_reducible refine s_enum ?_
  | with_reducible refine s_enum1 ?_
  | with_reducible refine s_yes ?_
  | with_reducible refine s_cT ?_
  | with_reducible refine s_cF ?_
  | with_reducible refine s_retN ?_
  | with_reducible refine s_try ?_
  | with_reducible refine s_raise0 ?_
  | with_reducible refine s_raise1 ?_
  | with_reducible refine s_isE ?_
  | with_reducible refine s_fld ?_
  | with_reducible refine s_brk ?_
  | with_reducible refine s_cnt ?_
  | ((with_reducible refine' s_aug ?k1 ?_); (case k1 => exact rfl))
  | with_reducible refine s_augix ?_
  | with_reducible refine s_addI ?_
  | ((with_reducible refine' s_addT ?k1 ?_); (case k1 => walk_at "side"))
  | ((with_reducible refine' s_addS ?k1 ?_); (case k1 => walk_at "side"))
  | with_reducible refine s_catL ?_
  | with_reducible refine s_subI ?_
  | ((with_reducible refine' s_mulI ?k1 ?_); (case k1 => walk_at "side"))
  | ((with_reducible refine' s_divI ?k1 ?_); (case k1 => walk_at "side"))
  | ((with_reducible refine' s_modI ?k1 ?_); (case k1 => walk_at "side"))
  | ((with_reducible refine' s_powI ?k1 ?_); (case k1 => walk_at "side"))
  | ((with_reducible refine' s_shlI ?k1 ?_); (case k1 => walk_at "side"))
  | with_reducible refine s_iaddI ?_
  | ((with_reducible refine' s_iaddS ?k1 ?_); (case k1 => walk_at "side"))
  | with_reducible refine s_eqI ?_
  | with_reducible refine s_neI ?_
  | with_reducible refine s_eqS ?_
  | with_reducible refine s_neS ?_
  | with_reducible refine s_eqB ?_
  | with_reducible refine s_neB ?_
  | with_reducible refine s_cmp ?_
  | ((with_reducible refine' s_ixX ?k1 ?_); (case k1 => walk_at "side"))
  | with_reducible refine s_lenT ?_
  | with_reducible refine s_lenL ?_
  | with_reducible refine s_lenC ?_
  | ((with_reducible refine' s_lenS ?k1 ?_); (case k1 => walk_at "side"))
  | with_reducible refine s_abs ?_
  | with_reducible refine s_intI ?_
  | with_reducible refine s_intB ?_
  | with_reducible refine s_gcd ?_
  | with_reducible refine s_listT ?_
  | with_reducible refine s_listL ?_
  | with_reducible refine s_tupT ?_
  | with_reducible refine s_tupL ?_
  | with_reducible refine s_all ?_
  | with_reducible refine s_any ?_
  | with_reducible refine s_sum ?_
  | with_reducible refine s_sumAT ?_
  | with_reducible refine s_sumAL ?_
  | with_reducible refine s_cnT ?_
  | with_reducible refine s_cnF ?_
  | with_reducible refine s_par3 ?_
  | with_reducible refine s_max2 ?_
  | with_reducible refine s_min2 ?_
  | with_reducible refine s_chain ?_
  | with_reducible refine s_chainT ?_
  | with_reducible refine s_inL ?_
  | with_reducible refine s_inT ?_
  | with_reducible refine s_append ?_
  | with_reducible refine s_extend ?_
  | with_reducible refine s_popAt ?_
  | with_reducible refine s_pop ?_
  | with_reducible refine s_slT ?_
  | with_reducible refine s_slL ?_
  | with_reducible refine s_itT ?_
  | with_reducible refine s_itL ?_
  | with_reducible refine s_itC ?_
  | ((with_reducible refine' s_rng1 ?k1 ?_); (case k1 => walk_at "side"))
  | ((with_reducible refine' s_rng2 ?k1 ?_); (case k1 => walk_at "side"))
  | ((with_reducible refine' s_rngD ?k1 ?_); (case k1 => walk_at "side"))
  | ((with_reducible refine' And.intro (s_isDT ?k1) ?_); (case k1 => walk_at "look"))
  | ((with_reducible refine' s_isLst ?k1 ?_); (case k1 => walk_at "look"))
  | ((with_reducible refine' s_lstOkL ?k1 ?_); (case k1 => walk_at "look"))
  | ((with_reducible refine' And.intro ?k1 ?_); (case k1 => walk_at "side")))
local macro_rules | `(tactic| walk_at "s") => `(tactic| repeat (walk_at "s1"))
local macro_rules | `(tactic| walk_at "ep") => `(tactic| simp only [startD, List.map_cons, List.map_nil, List.length_cons, List.length_nil, Nat.reduceAdd, Nat.reduceSub, List.replicate, List.cons_append, List.nil_append, List.set_cons_succ, List.set_cons_zero])
theorem runK_take {rows : List (List Nat)} {web : List (List (List Mv))} : ∀ (plan : List Choice) (l : Ch) (j : Nat), (runK rows web plan l).take (j + 1) = runK rows web (plan.take j) l
  | [], l, j => by
    show l :: ([] : List Ch).take j = runK rows web (([] : List Choice).take j) l
    rw [List.take_nil, List.take_nil]; rfl
  | ch :: plan, l, 0 => rfl
  | ch :: plan, l, j + 1 => by
    show l :: (runK rows web plan (nextK rows web ch l)).take (j + 1) = _
    rw [runK_take plan]
    rfl
theorem runK_mem {q letters states nodes : Nat} {rows : List (List Nat)} {shows : List Rat} {web : List (List (List Mv))} (h : Run q letters states nodes rows shows web) {plan : List Choice} (hc : ∀ ch ∈ plan, ChoiceOk states nodes web ch) : ∀ l ∈ (runK rows web plan start).map lined, l.length ≤ 1000000 := fun l hl => by
  obtain ⟨l0, h0, rfl⟩ := List.mem_map.mp hl
  obtain ⟨j, hj⟩ := List.mem_iff_getElem?.mp h0
  have hjl : j < (runK rows web plan start).length := (List.getElem?_eq_some_iff.mp hj).1
  rw [runK_len] at hjl
  rw [runK_at _ _ _ (by omega)] at hj
  cases hj
  have v := levs0 h (pre := plan.take j) fun c hcc => hc c (List.mem_of_mem_take hcc)
  have hS : states * nodes ≤ 64 * 64 := Nat.mul_le_mul h.g.s1 h.n1
  have := v.len
  have e : (lined (levK rows web (plan.take j) start)).length = (levK rows web (plan.take j) start).length := by
    unfold lined
    rw [List.length_map, (srtK_perm v.ok.nd).length_eq]
    exact List.length_map _
  omega
/-- a run judged against its own mean and lines -/
theorem judged {q letters states nodes : Nat} {rows : List (List Nat)} {shows : List Rat} {web : List (List (List Mv))} {plan : List Choice} {st : DS} {R : RD} {Rx : RX} {m : D} {ls : D} (h : Run q letters states nodes rows shows web) (hc : ∀ ch ∈ plan, ChoiceOk states nodes web ch) (hl : plan.length ≤ 100)
    (em : m = qD (backK rows shows web plan (0, 0))) (el : ls = linesD rows web plan) (k : R (.bl true) st) :
    spIsRun [.tup [qD (backK rows shows web plan (0, 0)), .tup ((runK rows web plan start).map fun l => lineD (lined l))], m, ls] st R Rx := by
  subst em el
  have e : ((runK rows web plan start).map fun l => lineD (lined l)) = ((runK rows web plan start).map lined).map lineD := by rw [List.map_map]; rfl
  refine ⟨backK rows shows web plan (0, 0), (runK rows web plan start).map lined, ?_, by rw [List.length_map, runK_len]; omega, runK_mem h hc, k⟩
  unfold runD linesD
  rw [e]
theorem plan_take {plan : List Choice} {v : Int} (h0 : 0 ≤ v) (h1 : v ≤ (plan.length : Int)) : cutD (plan.map choiceD) none (some v) = (plan.take v.toNat).map choiceD := by
  rw [cut_to h0 (by rw [List.length_map]; exact h1), List.map_take]
def haltC (rows : List (List Nat)) (web : List (List (List Mv))) : Choice := rows.map fun _ => web.map fun _ => (-1 : Int)
theorem halt_ok {rows : List (List Nat)} {web : List (List (List Mv))} {states nodes : Nat} (hr : rows.length = states) (hw : web.length = nodes) : ChoiceOk states nodes web (haltC rows web) := by
  refine ⟨by unfold haltC; rw [List.length_map]; exact hr, fun r hr' => ?_⟩
  obtain ⟨_, _, rfl⟩ := List.mem_map.mp hr'
  refine ⟨by rw [List.length_map]; exact hw, fun n hn => ?_⟩
  have e : (web.map fun _ => (-1 : Int)).getD n (-1) = -1 := by
    rw [List.getD_eq_getElem?_getD, List.getElem?_map, List.getElem?_eq_getElem (by omega)]; rfl
  rw [e]
  omega
theorem halt_pick {rows : List (List Nat)} {web : List (List (List Mv))} (p : Pt) : pick (haltC rows web) p = -1 := by
  unfold pick haltC
  rw [List.getD_eq_getElem?_getD, List.getD_eq_getElem?_getD, List.getElem?_map]
  cases rows[p.1]? with
  | none => rfl
  | some r =>
    show (((web.map fun _ => (-1 : Int))[p.2]?).getD (-1)) = -1
    rw [List.getElem?_map]
    cases web[p.2]? <;> rfl
theorem runK_nil {rows : List (List Nat)} {web : List (List (List Mv))} : ∀ r : List Choice, runK rows web r [] = List.replicate (r.length + 1) []
  | [] => rfl
  | ch :: r => by
    show [] :: runK rows web r (nextK rows web ch []) = _
    rw [show nextK rows web ch [] = [] from rfl, runK_nil r]
    rfl
theorem lined_nil : lined [] = [] := by
  have e : srtK [] = [] := srtK_of (.refl _) .nil
  unfold lined
  rw [e]; rfl
theorem halt_lines {rows : List (List Nat)} {web : List (List (List Mv))} (r : List Choice) : (runK rows web (haltC rows web :: r) start).map (fun l => lineD (lined l)) = lineD (lined start) :: List.replicate (r.length + 1) (.tup []) := by
  have e : nextK rows web (haltC rows web) start = [] := by
    unfold nextK contrs C.start
    show addAll [] (contr rows web (haltC rows web) ((0, 0), 1) ++ []) = []
    rw [contr_stop (by rw [halt_pick]; decide)]; rfl
  show lineD (lined start) :: (runK rows web r (nextK rows web (haltC rows web) start)).map (fun l => lineD (lined l)) = _
  rw [e, runK_nil, List.map_replicate, lined_nil]
  rfl
theorem flat_rep (n : Nat) : (List.replicate n [D.tup []]).flatten = List.replicate n (.tup []) := by
  induction n with
  | zero => rfl
  | succ n ih => rw [List.replicate_succ, List.flatten_cons, ih]; rfl
theorem cut_any {l : List D} {n : Nat} : cutD l none (some (n : Int)) = l.take n := by
  unfold cutD
  rw [HT.sIx_nat, HT.sIx_none, List.drop_zero, Nat.sub_zero]
  rcases Nat.le_total n l.length with h | h
  · rw [Nat.min_eq_left h]
  · rw [Nat.min_eq_right h, List.take_length, List.take_of_length_le h]
def spLaw : SpD := fun ds st R _ => ∃ ns : List Int, ds = [.scr (ns.map D.int)] ∧ ns.length ≤ sizeLine ∧ ∀ st', R (.bl true) st'
theorem len_law : ∀ ds st R Rx, spLaw ds st R Rx → ds.length = 1 := by
  rintro ds st R Rx ⟨_, rfl, -⟩; rfl
theorem read_law : ∀ ds st R Rx, spLaw ds st R Rx → wb_law spBegin spCase spPlan spLines spBack spIsRun spRun spDraw (bodyEd R Rx) (startD 15 ds) st := by
  rintro ds st R Rx ⟨ns, rfl, hns, k⟩
  unfold wb_law bodyEd
  walk_at "s"
  refine ⟨ns, rfl, hns, fun d c st0 s0 dk => ?_⟩
  walk_at "s"
  refine ⟨d, c, ns, rfl, dk, fun many often q letters states nodes rows shows web st1 ok r1 => ?_⟩
  have h := ok.run
  have hm := ok.many
  have hw := h.wl
  have o0 := ok.o0
  have o1 := ok.o1
  walk_at "s"
  refine ⟨d, c, ns, letters, states, nodes, many, rows, shows, web, often, rfl, r1.dk, h.g.rl, h.g.s1, hw, h.n1, ok.nl, by omega, by omega, by omega, fun plan st2 pl pc r2 => ?_⟩
  walk_at "s"
  have hq : (plan.length + 1) * q ≤ 4000 := by rw [pl]; exact ok.m
  refine ⟨q, letters, states, nodes, rows, shows, web, plan, rfl, h, pc, hq, by omega, ?_⟩
  unfold gaugeD webD planD
  walk_at "s"
  refine ⟨q, letters, states, nodes, rows, shows, web, plan, [], by rw [List.append_nil]; rfl, h, pc, hq, by omega, ?_⟩
  walk_at "s"
  refine ⟨q, letters, states, nodes, rows, shows, web, plan, rfl, h, pc, hq, by omega, ?_⟩
  walk_at "s"
  refine judged h pc (by omega) rfl rfl ?_
  walk_at "s"
  walk_at "ep"
  have pcl : ((plan.map choiceD).length : Int) = (plan.length : Int) := by rw [List.length_map]
  rw [pcl]
  refine ⟨d, c, ns, _, rfl, r2.dk, by omega, sm (by omega) (by omega), fun v st3 v0 v1 r3 => ?_⟩
  walk_at "s"
  rw [plan_take v0 (by omega)]
  obtain ⟨j, rfl⟩ := Int.eq_ofNat_of_zero_le v0
  rw [Int.toNat_natCast]
  have pcj : ∀ ch ∈ plan.take j, ChoiceOk states nodes web ch := fun ch hc => pc ch (List.mem_of_mem_take hc)
  have tl : (plan.take j).length = j := by rw [List.length_take]; omega
  have hqj : ((plan.take j).length + 1) * q ≤ 4000 := Nat.le_trans (Nat.mul_le_mul_right _ (by omega)) hq
  walk_at "s"
  refine ⟨q, letters, states, nodes, rows, shows, web, plan.take j, plan.drop j, by rw [List.take_append_drop]; rfl, h, pcj, hqj, by omega, ?_⟩
  walk_at "s"
  refine ⟨q, letters, states, nodes, rows, shows, web, plan.take j, rfl, h, pcj, hqj, by omega, ?_⟩
  walk_at "s"
  have lcut : ∀ (z : Int) (i : Nat), z = ((i + 1 : Nat) : Int) → i ≤ plan.length → cutD ((runK rows web plan start).map fun l => lineD (lined l)) none (some z) = (runK rows web (plan.take i) start).map fun l => lineD (lined l) := by
    rintro z i rfl hi
    rw [cut_to (by omega) (by rw [List.length_map, runK_len]; omega), ← List.map_take, Int.toNat_natCast, runK_take]
  rw [List.length_map, tl, lcut _ j (by omega) (by omega)]
  refine judged h pcj (by omega) rfl rfl ?_
  walk_at "s"
  walk_at "ep"
  refine ⟨d, c, ns, _, rfl, r3.dk, by omega, sm (by omega) (by omega), fun w st4 w0 w1 r4 => ?_⟩
  obtain ⟨m, rfl⟩ := Int.eq_ofNat_of_zero_le w0
  walk_at "s"
  refine ⟨d, c, ns, letters, states, nodes, m, rows, shows, web, 2, rfl, r4.dk, h.g.rl, h.g.s1, hw, h.n1, ok.nl, by omega, by omega, by omega, fun other st5 ol oc r5 => ?_⟩
  unfold planD
  have hqo : (other.length + 1) * q ≤ 4000 := Nat.le_trans (Nat.mul_le_mul_right _ (show other.length + 1 ≤ 5 by omega)) ok.m5
  walk_at "s"
  refine ⟨q, letters, states, nodes, rows, shows, web, other, rfl, h, oc, hqo, by omega, ?_⟩
  walk_at "s"
  refine ⟨q, letters, states, nodes, rows, shows, web, other, rfl, h, oc, hqo, by omega, ?_⟩
  walk_at "s"
  refine ⟨q, letters, states, nodes, rows, shows, web, other, [], by rw [List.append_nil]; rfl, h, oc, hqo, by omega, ?_⟩
  walk_at "s"
  refine judged h oc (by omega) rfl rfl ?_
  walk_at "s"
  walk_at "ep"
  have q1 : q ≤ 4000 := by have := ok.m5; omega
  refine ⟨q, letters, states, nodes, rows, shows, web, [], rfl, h, fun ch hc => (by cases hc), by rw [List.length_nil]; omega, by decide, ?_⟩
  have look0 : atI (shows.map qD) 0 = some (qD (shows.getD 0 0)) := at_map (i := 0) (by rw [h.g.sl]; exact h.g.s0)
  walk_at "s"
  rw [lcut 1 0 rfl (by omega)]
  refine judged h (plan := []) (fun ch hc => (by cases hc)) (by decide) rfl rfl ?_
  walk_at "s"
  walk_at "ep"
  refine lc_pre natsD rows (fun pre acc T => acc = (pre.map fun _ => D.tup ((web.map fun _ => (-1 : Int)).map D.int)) ∧ Sub st5 T) ?_ ?_ ⟨rfl, Sub.refl _⟩
  · rintro acc T ⟨rfl, sT⟩
    refine ⟨trivial, ?_⟩
    intro u hu
    walk_at "s"
    have e3 : cutD (plan.map choiceD) none (some 3) = (plan.take 3).map choiceD := by
      rw [show (3 : Int) = ((3 : Nat) : Int) from rfl, cut_any, List.map_take]
    have t3 : (plan.take 3).length ≤ 3 := by rw [List.length_take]; omega
    have eH : [D.tup (rows.map fun _ => D.tup ((web.map fun _ => (-1 : Int)).map D.int))] ++ (plan.take 3).map choiceD = (haltC rows web :: plan.take 3).map choiceD := by
      have : choiceD (haltC rows web) = D.tup (rows.map fun _ => D.tup ((web.map fun _ => (-1 : Int)).map D.int)) := congrArg D.tup (List.map_map ..)
      rw [← this]; rfl
    have hcl : (choiceD (haltC rows web) :: (plan.take 3).map choiceD).length = (plan.take 3).length + 1 := by rw [List.length_cons, List.length_map]
    have hco : ∀ ch ∈ haltC rows web :: plan.take 3, ChoiceOk states nodes web ch := fun ch hc => by
      rcases List.mem_cons.mp hc with rfl | hc
      · exact halt_ok h.g.rl hw
      · exact pc ch (List.mem_of_mem_take hc)
    have hqh : ((haltC rows web :: plan.take 3).length + 1) * q ≤ 4000 := Nat.le_trans (Nat.mul_le_mul_right _ (show (haltC rows web :: plan.take 3).length + 1 ≤ 5 by rw [List.length_cons]; omega)) ok.m5
    rw [e3]
    refine s_addT (by rw [List.length_map]; show 1 + _ ≤ 2 ^ 24; omega) ?_
    rw [eH]
    walk_at "s"
    walk_at "ep"
    refine ⟨q, letters, states, nodes, rows, shows, web, haltC rows web :: plan.take 3, rfl, h, hco, hqh, by rw [List.length_cons]; omega, ?_⟩
    walk_at "s"
    rw [lcut 1 0 rfl (by omega), hcl]
    refine s_mulT (by simp) (by omega) (by omega) (by decide) ?_
    refine s_addT (by rw [List.length_map, runK_len, flat_rep, List.length_replicate, List.length_take]; show _ ≤ 2 ^ 24; omega) ?_
    walk_at "s"
    refine judged h hco (by rw [List.length_cons]; omega) ?_ ?_ ?_
    · have eb : backK rows shows web (haltC rows web :: plan.take 3) (0, 0) = shows.getD 0 0 := by
        unfold backK
        rw [if_pos (by rw [halt_pick]; decide)]
      rw [eb]
    · unfold linesD
      rw [halt_lines, flat_rep, show (((plan.take 3).length + 1 : Nat) : Int).toNat = (plan.take 3).length + 1 from Int.toNat_natCast _]
      rfl
    · walk_at "s"
      refine ⟨q, letters, states, nodes, rows, shows, web, plan, rfl, h, pc, hq, by omega, ?_⟩
      walk_at "s"
      refine judged h pc (by omega) rfl rfl ?_
      exact s_end (k _)
  · rintro K pre row r acc T e ⟨rfl, sT⟩ ih
    refine ⟨trivial, ?_⟩
    have hp2 : pre.length + 1 ≤ rows.length := by rw [e, List.length_append, List.length_cons]; omega
    have rl := h.g.rl
    have rs := h.g.s1
    walk_at "s"
    refine lc_pre nodeD web (fun pre2 acc T2 => acc = ((pre2.map fun _ => (-1 : Int)).map D.int) ∧ Sub st5 T2) ?_ ?_ ⟨rfl, sT⟩
    · rintro acc T2 ⟨rfl, sT2⟩
      refine ⟨trivial, ?_⟩
      intro u hu
      walk_at "s"
      refine ⟨by rw [List.length_map]; show _ < 2 ^ 24; omega, ?_⟩
      exact ih _ _ ⟨by rw [List.map_append]; rfl, sT2.trans (Sub.put_new hu)⟩
    · rintro K2 pre2 nd r2 acc T2 e2 ⟨rfl, sT2⟩ ih2
      refine ⟨trivial, ?_⟩
      have hp3 : pre2.length + 1 ≤ web.length := by rw [e2, List.length_append, List.length_cons]; omega
      have wn := h.n1
      walk_at "s"
      refine ⟨by rw [List.length_map, List.length_map]; show _ < 2 ^ 24; omega, ?_⟩
      exact ih2 _ _ ⟨by rw [List.map_append, List.map_append]; rfl, sT2⟩
end K25
end DL

namespace DL
namespace K25
open PySem PySem.Spec PyProof.Rows L2 C
theorem all_mk {P : Program} {w : World} {K : PySem.W.Frag} {h : Heap} {mg : Str → Option Value} {fa : Addr} (X : K.In h) (G : h.Ns mainGlobals mg) (hfa : mg "law" = some (.ref fa))
    {f0 : Addr} {oc0 kV0 dc0 pm0 cd0 ct0 : Value} {od0 an0 : Option Addr} {sl0 : Array (Option Value)}
    {f1 : Addr} {oc1 kV1 dc1 pm1 cd1 ct1 : Value} {od1 an1 : Option Addr} {sl1 : Array (Option Value)}
    {f2 : Addr} {oc2 kV2 dc2 pm2 cd2 ct2 : Value} {od2 an2 : Option Addr} {sl2 : Array (Option Value)}
    {f3 : Addr} {oc3 kV3 dc3 pm3 cd3 ct3 : Value} {od3 an3 : Option Addr} {sl3 : Array (Option Value)}
    {f4 : Addr} {oc4 kV4 dc4 pm4 cd4 ct4 : Value} {od4 an4 : Option Addr} {sl4 : Array (Option Value)}
    {f5 : Addr} {oc5 kV5 dc5 pm5 cd5 ct5 : Value} {od5 an5 : Option Addr} {sl5 : Array (Option Value)}
    {f6 : Addr} {oc6 kV6 dc6 pm6 cd6 ct6 : Value} {od6 an6 : Option Addr} {sl6 : Array (Option Value)}
    {f7 : Addr} {oc7 kV7 dc7 pm7 cd7 ct7 : Value} {od7 an7 : Option Addr} {sl7 : Array (Option Value)}
    {f8 : Addr} {oc8 kV8 dc8 pm8 cd8 ct8 : Value} {od8 an8 : Option Addr} {sl8 : Array (Option Value)}
    {f9 : Addr} {oc9 kV9 dc9 pm9 cd9 ct9 : Value} {od9 an9 : Option Addr} {sl9 : Array (Option Value)}
    {f10 : Addr} {oc10 kV10 dc10 pm10 cd10 ct10 : Value} {od10 an10 : Option Addr} {sl10 : Array (Option Value)}
    {f11 : Addr} {oc11 kV11 dc11 pm11 cd11 ct11 : Value} {od11 an11 : Option Addr} {sl11 : Array (Option Value)}
    {f12 : Addr} {oc12 kV12 dc12 pm12 cd12 ct12 : Value} {od12 an12 : Option Addr} {sl12 : Array (Option Value)}
    {f13 : Addr} {oc13 kV13 dc13 pm13 cd13 ct13 : Value} {od13 an13 : Option Addr} {sl13 : Array (Option Value)}
    {f14 : Addr} {oc14 kV14 dc14 pm14 cd14 ct14 : Value} {od14 an14 : Option Addr} {sl14 : Array (Option Value)}
    {f15 : Addr} {oc15 kV15 dc15 pm15 cd15 ct15 : Value} {od15 an15 : Option Addr} {sl15 : Array (Option Value)}
    {f16 : Addr} {oc16 kV16 dc16 pm16 cd16 ct16 : Value} {od16 an16 : Option Addr} {sl16 : Array (Option Value)}
    {f17 : Addr} {oc17 kV17 dc17 pm17 cd17 ct17 : Value} {od17 an17 : Option Addr} {sl17 : Array (Option Value)}
    {f18 : Addr} {oc18 kV18 dc18 pm18 cd18 ct18 : Value} {od18 an18 : Option Addr} {sl18 : Array (Option Value)}
    {f19 : Addr} {oc19 kV19 dc19 pm19 cd19 ct19 : Value} {od19 an19 : Option Addr} {sl19 : Array (Option Value)}
    {f20 : Addr} {oc20 kV20 dc20 pm20 cd20 ct20 : Value} {od20 an20 : Option Addr} {sl20 : Array (Option Value)}
    {f21 : Addr} {oc21 kV21 dc21 pm21 cd21 ct21 : Value} {od21 an21 : Option Addr} {sl21 : Array (Option Value)}
    {f22 : Addr} {oc22 kV22 dc22 pm22 cd22 ct22 : Value} {od22 an22 : Option Addr} {sl22 : Array (Option Value)}
    {f23 : Addr} {oc23 kV23 dc23 pm23 cd23 ct23 : Value} {od23 an23 : Option Addr} {sl23 : Array (Option Value)}
    {f24 : Addr} {oc24 kV24 dc24 pm24 cd24 ct24 : Value} {od24 an24 : Option Addr} {sl24 : Array (Option Value)}
    {f25 : Addr} {oc25 kV25 dc25 pm25 cd25 ct25 : Value} {od25 an25 : Option Addr} {sl25 : Array (Option Value)}
    {f26 : Addr} {oc26 kV26 dc26 pm26 cd26 ct26 : Value} {od26 an26 : Option Addr} {sl26 : Array (Option Value)}
    {f27 : Addr} {oc27 kV27 dc27 pm27 cd27 ct27 : Value} {od27 an27 : Option Addr} {sl27 : Array (Option Value)}
    {f28 : Addr} {oc28 kV28 dc28 pm28 cd28 ct28 : Value} {od28 an28 : Option Addr} {sl28 : Array (Option Value)}
    {f29 : Addr} {oc29 kV29 dc29 pm29 cd29 ct29 : Value} {od29 an29 : Option Addr} {sl29 : Array (Option Value)}
    {f30 : Addr} {oc30 kV30 dc30 pm30 cd30 ct30 : Value} {od30 an30 : Option Addr} {sl30 : Array (Option Value)}
    {f31 : Addr} {oc31 kV31 dc31 pm31 cd31 ct31 : Value} {od31 an31 : Option Addr} {sl31 : Array (Option Value)}
    {f32 : Addr} {oc32 kV32 dc32 pm32 cd32 ct32 : Value} {od32 an32 : Option Addr} {sl32 : Array (Option Value)}
    {f33 : Addr} {oc33 kV33 dc33 pm33 cd33 ct33 : Value} {od33 an33 : Option Addr} {sl33 : Array (Option Value)}
    {f34 : Addr} {oc34 kV34 dc34 pm34 cd34 ct34 : Value} {od34 an34 : Option Addr} {sl34 : Array (Option Value)}
    {f35 : Addr} {oc35 kV35 dc35 pm35 cd35 ct35 : Value} {od35 an35 : Option Addr} {sl35 : Array (Option Value)}
    {f36 : Addr} {oc36 kV36 dc36 pm36 cd36 ct36 : Value} {od36 an36 : Option Addr} {sl36 : Array (Option Value)}
    {kz_ONE : Addr} {kn_ONE : Nat} {ks_ONE : Array (Option Value)} {kt_ONE0 kt_ONE1 : Tok}
    (a0 : PySem.W.nsIn K mainGlobals "fraction" = some (some (.ref f0))) (l0 : K.lookup f0 = some ⟨oc0, od0, .func (PySem.W.fnOf "fraction" "fraction" (defArgs s_fraction) (defBody s_fraction) (defScope s_fraction) .none kV0 dc0 pm0 an0 cd0 ct0), sl0⟩) (c0 : PySem.W.codeIn K cd0 "fraction" = true) (k0 : PySem.W.keepIn K (.ref f0) = true)
    (a1 : PySem.W.nsIn K mainGlobals "plus" = some (some (.ref f1))) (l1 : K.lookup f1 = some ⟨oc1, od1, .func (PySem.W.fnOf "plus" "plus" (defArgs s_plus) (defBody s_plus) (defScope s_plus) .none kV1 dc1 pm1 an1 cd1 ct1), sl1⟩) (c1 : PySem.W.codeIn K cd1 "plus" = true) (k1 : PySem.W.keepIn K (.ref f1) = true)
    (a2 : PySem.W.nsIn K mainGlobals "times" = some (some (.ref f2))) (l2 : K.lookup f2 = some ⟨oc2, od2, .func (PySem.W.fnOf "times" "times" (defArgs s_times) (defBody s_times) (defScope s_times) .none kV2 dc2 pm2 an2 cd2 ct2), sl2⟩) (c2 : PySem.W.codeIn K cd2 "times" = true) (k2 : PySem.W.keepIn K (.ref f2) = true)
    (a3 : PySem.W.nsIn K mainGlobals "shared" = some (some (.ref f3))) (l3 : K.lookup f3 = some ⟨oc3, od3, .func (PySem.W.fnOf "shared" "shared" (defArgs s_shared) (defBody s_shared) (defScope s_shared) .none kV3 dc3 pm3 an3 cd3 ct3), sl3⟩) (c3 : PySem.W.codeIn K cd3 "shared" = true) (k3 : PySem.W.keepIn K (.ref f3) = true)
    (a4 : PySem.W.nsIn K mainGlobals "total" = some (some (.ref f4))) (l4 : K.lookup f4 = some ⟨oc4, od4, .func (PySem.W.fnOf "total" "total" (defArgs s_total) (defBody s_total) (defScope s_total) .none kV4 dc4 pm4 an4 cd4 ct4), sl4⟩) (c4 : PySem.W.codeIn K cd4 "total" = true) (k4 : PySem.W.keepIn K (.ref f4) = true)
    (a5 : PySem.W.nsIn K mainGlobals "added" = some (some (.ref f5))) (l5 : K.lookup f5 = some ⟨oc5, od5, .func (PySem.W.fnOf "added" "added" (defArgs s_added) (defBody s_added) (defScope s_added) .none kV5 dc5 pm5 an5 cd5 ct5), sl5⟩) (c5 : PySem.W.codeIn K cd5 "added" = true) (k5 : PySem.W.keepIn K (.ref f5) = true)
    (a6 : PySem.W.nsIn K mainGlobals "part_of" = some (some (.ref f6))) (l6 : K.lookup f6 = some ⟨oc6, od6, .func (PySem.W.fnOf "part_of" "part_of" (defArgs s_part_of) (defBody s_part_of) (defScope s_part_of) .none kV6 dc6 pm6 an6 cd6 ct6), sl6⟩) (c6 : PySem.W.codeIn K cd6 "part_of" = true) (k6 : PySem.W.keepIn K (.ref f6) = true)
    (a7 : PySem.W.nsIn K mainGlobals "listed" = some (some (.ref f7))) (l7 : K.lookup f7 = some ⟨oc7, od7, .func (PySem.W.fnOf "listed" "listed" (defArgs s_listed) (defBody s_listed) (defScope s_listed) .none kV7 dc7 pm7 an7 cd7 ct7), sl7⟩) (c7 : PySem.W.codeIn K cd7 "listed" = true) (k7 : PySem.W.keepIn K (.ref f7) = true)
    (a8 : PySem.W.nsIn K mainGlobals "run_plan" = some (some (.ref f8))) (l8 : K.lookup f8 = some ⟨oc8, od8, .func (PySem.W.fnOf "run_plan" "run_plan" (defArgs s_run_plan) (defBody s_run_plan) (defScope s_run_plan) .none kV8 dc8 pm8 an8 cd8 ct8), sl8⟩) (c8 : PySem.W.codeIn K cd8 "run_plan" = true) (k8 : PySem.W.keepIn K (.ref f8) = true)
    (a9 : PySem.W.nsIn K mainGlobals "_law_begin" = some (some (.ref f9))) (l9 : K.lookup f9 = some ⟨oc9, od9, .func (PySem.W.fnOf "_law_begin" "_law_begin" (defArgs s_law_begin) (defBody s_law_begin) (defScope s_law_begin) .none kV9 dc9 pm9 an9 cd9 ct9), sl9⟩) (c9 : PySem.W.codeIn K cd9 "_law_begin" = true) (k9 : PySem.W.keepIn K (.ref f9) = true)
    (a10 : PySem.W.nsIn K mainGlobals "_law_draw" = some (some (.ref f10))) (l10 : K.lookup f10 = some ⟨oc10, od10, .func (PySem.W.fnOf "_law_draw" "_law_draw" (defArgs s_law_draw) (defBody s_law_draw) (defScope s_law_draw) .none kV10 dc10 pm10 an10 cd10 ct10), sl10⟩) (c10 : PySem.W.codeIn K cd10 "_law_draw" = true) (k10 : PySem.W.keepIn K (.ref f10) = true)
    (a11 : PySem.W.nsIn K mainGlobals "_law_rare" = some (some (.ref f11))) (l11 : K.lookup f11 = some ⟨oc11, od11, .func (PySem.W.fnOf "_law_rare" "_law_rare" (defArgs s_law_rare) (defBody s_law_rare) (defScope s_law_rare) .none kV11 dc11 pm11 an11 cd11 ct11), sl11⟩) (c11 : PySem.W.codeIn K cd11 "_law_rare" = true) (k11 : PySem.W.keepIn K (.ref f11) = true)
    (a12 : PySem.W.nsIn K mainGlobals "_law_shuffled" = some (some (.ref f12))) (l12 : K.lookup f12 = some ⟨oc12, od12, .func (PySem.W.fnOf "_law_shuffled" "_law_shuffled" (defArgs s_law_shuffled) (defBody s_law_shuffled) (defScope s_law_shuffled) .none kV12 dc12 pm12 an12 cd12 ct12), sl12⟩) (c12 : PySem.W.codeIn K cd12 "_law_shuffled" = true) (k12 : PySem.W.keepIn K (.ref f12) = true)
    (a13 : PySem.W.nsIn K mainGlobals "_law_is_int" = some (some (.ref f13))) (l13 : K.lookup f13 = some ⟨oc13, od13, .func (PySem.W.fnOf "_law_is_int" "_law_is_int" (defArgs s_law_is_int) (defBody s_law_is_int) (defScope s_law_is_int) .none kV13 dc13 pm13 an13 cd13 ct13), sl13⟩) (c13 : PySem.W.codeIn K cd13 "_law_is_int" = true) (k13 : PySem.W.keepIn K (.ref f13) = true)
    (a14 : PySem.W.nsIn K mainGlobals "_law_gcd" = some (some (.ref f14))) (l14 : K.lookup f14 = some ⟨oc14, od14, .func (PySem.W.fnOf "_law_gcd" "_law_gcd" (defArgs s_law_gcd) (defBody s_law_gcd) (defScope s_law_gcd) .none kV14 dc14 pm14 an14 cd14 ct14), sl14⟩) (c14 : PySem.W.codeIn K cd14 "_law_gcd" = true) (k14 : PySem.W.keepIn K (.ref f14) = true)
    (a15 : PySem.W.nsIn K mainGlobals "_law_frac" = some (some (.ref f15))) (l15 : K.lookup f15 = some ⟨oc15, od15, .func (PySem.W.fnOf "_law_frac" "_law_frac" (defArgs s_law_frac) (defBody s_law_frac) (defScope s_law_frac) .none kV15 dc15 pm15 an15 cd15 ct15), sl15⟩) (c15 : PySem.W.codeIn K cd15 "_law_frac" = true) (k15 : PySem.W.keepIn K (.ref f15) = true)
    (a16 : PySem.W.nsIn K mainGlobals "_law_is_frac" = some (some (.ref f16))) (l16 : K.lookup f16 = some ⟨oc16, od16, .func (PySem.W.fnOf "_law_is_frac" "_law_is_frac" (defArgs s_law_is_frac) (defBody s_law_is_frac) (defScope s_law_is_frac) .none kV16 dc16 pm16 an16 cd16 ct16), sl16⟩) (c16 : PySem.W.codeIn K cd16 "_law_is_frac" = true) (k16 : PySem.W.keepIn K (.ref f16) = true)
    (a17 : PySem.W.nsIn K mainGlobals "_law_plus" = some (some (.ref f17))) (l17 : K.lookup f17 = some ⟨oc17, od17, .func (PySem.W.fnOf "_law_plus" "_law_plus" (defArgs s_law_plus) (defBody s_law_plus) (defScope s_law_plus) .none kV17 dc17 pm17 an17 cd17 ct17), sl17⟩) (c17 : PySem.W.codeIn K cd17 "_law_plus" = true) (k17 : PySem.W.keepIn K (.ref f17) = true)
    (a18 : PySem.W.nsIn K mainGlobals "_law_times" = some (some (.ref f18))) (l18 : K.lookup f18 = some ⟨oc18, od18, .func (PySem.W.fnOf "_law_times" "_law_times" (defArgs s_law_times) (defBody s_law_times) (defScope s_law_times) .none kV18 dc18 pm18 an18 cd18 ct18), sl18⟩) (c18 : PySem.W.codeIn K cd18 "_law_times" = true) (k18 : PySem.W.keepIn K (.ref f18) = true)
    (a19 : PySem.W.nsIn K mainGlobals "_law_over" = some (some (.ref f19))) (l19 : K.lookup f19 = some ⟨oc19, od19, .func (PySem.W.fnOf "_law_over" "_law_over" (defArgs s_law_over) (defBody s_law_over) (defScope s_law_over) .none kV19 dc19 pm19 an19 cd19 ct19), sl19⟩) (c19 : PySem.W.codeIn K cd19 "_law_over" = true) (k19 : PySem.W.keepIn K (.ref f19) = true)
    (a20 : PySem.W.nsIn K mainGlobals "_law_sum" = some (some (.ref f20))) (l20 : K.lookup f20 = some ⟨oc20, od20, .func (PySem.W.fnOf "_law_sum" "_law_sum" (defArgs s_law_sum) (defBody s_law_sum) (defScope s_law_sum) .none kV20 dc20 pm20 an20 cd20 ct20), sl20⟩) (c20 : PySem.W.codeIn K cd20 "_law_sum" = true) (k20 : PySem.W.keepIn K (.ref f20) = true)
    (a21 : PySem.W.nsIn K mainGlobals "_law_fraction" = some (some (.ref f21))) (l21 : K.lookup f21 = some ⟨oc21, od21, .func (PySem.W.fnOf "_law_fraction" "_law_fraction" (defArgs s_law_fraction) (defBody s_law_fraction) (defScope s_law_fraction) .none kV21 dc21 pm21 an21 cd21 ct21), sl21⟩) (c21 : PySem.W.codeIn K cd21 "_law_fraction" = true) (k21 : PySem.W.keepIn K (.ref f21) = true)
    (a22 : PySem.W.nsIn K mainGlobals "_law_weight" = some (some (.ref f22))) (l22 : K.lookup f22 = some ⟨oc22, od22, .func (PySem.W.fnOf "_law_weight" "_law_weight" (defArgs s_law_weight) (defBody s_law_weight) (defScope s_law_weight) .none kV22 dc22 pm22 an22 cd22 ct22), sl22⟩) (c22 : PySem.W.codeIn K cd22 "_law_weight" = true) (k22 : PySem.W.keepIn K (.ref f22) = true)
    (a23 : PySem.W.nsIn K mainGlobals "_law_corner" = some (some (.ref f23))) (l23 : K.lookup f23 = some ⟨oc23, od23, .func (PySem.W.fnOf "_law_corner" "_law_corner" (defArgs s_law_corner) (defBody s_law_corner) (defScope s_law_corner) .none kV23 dc23 pm23 an23 cd23 ct23), sl23⟩) (c23 : PySem.W.codeIn K cd23 "_law_corner" = true) (k23 : PySem.W.keepIn K (.ref f23) = true)
    (a24 : PySem.W.nsIn K mainGlobals "_law_web" = some (some (.ref f24))) (l24 : K.lookup f24 = some ⟨oc24, od24, .func (PySem.W.fnOf "_law_web" "_law_web" (defArgs s_law_web) (defBody s_law_web) (defScope s_law_web) .none kV24 dc24 pm24 an24 cd24 ct24), sl24⟩) (c24 : PySem.W.codeIn K cd24 "_law_web" = true) (k24 : PySem.W.keepIn K (.ref f24) = true)
    (a25 : PySem.W.nsIn K mainGlobals "_law_rows_of_states" = some (some (.ref f25))) (l25 : K.lookup f25 = some ⟨oc25, od25, .func (PySem.W.fnOf "_law_rows_of_states" "_law_rows_of_states" (defArgs s_law_rows_of_states) (defBody s_law_rows_of_states) (defScope s_law_rows_of_states) .none kV25 dc25 pm25 an25 cd25 ct25), sl25⟩) (c25 : PySem.W.codeIn K cd25 "_law_rows_of_states" = true) (k25 : PySem.W.keepIn K (.ref f25) = true)
    (a26 : PySem.W.nsIn K mainGlobals "_law_gauge" = some (some (.ref f26))) (l26 : K.lookup f26 = some ⟨oc26, od26, .func (PySem.W.fnOf "_law_gauge" "_law_gauge" (defArgs s_law_gauge) (defBody s_law_gauge) (defScope s_law_gauge) .none kV26 dc26 pm26 an26 cd26 ct26), sl26⟩) (c26 : PySem.W.codeIn K cd26 "_law_gauge" = true) (k26 : PySem.W.keepIn K (.ref f26) = true)
    (a27 : PySem.W.nsIn K mainGlobals "_law_weight_sum" = some (some (.ref f27))) (l27 : K.lookup f27 = some ⟨oc27, od27, .func (PySem.W.fnOf "_law_weight_sum" "_law_weight_sum" (defArgs s_law_weight_sum) (defBody s_law_weight_sum) (defScope s_law_weight_sum) .none kV27 dc27 pm27 an27 cd27 ct27), sl27⟩) (c27 : PySem.W.codeIn K cd27 "_law_weight_sum" = true) (k27 : PySem.W.keepIn K (.ref f27) = true)
    (a28 : PySem.W.nsIn K mainGlobals "_law_pick_at" = some (some (.ref f28))) (l28 : K.lookup f28 = some ⟨oc28, od28, .func (PySem.W.fnOf "_law_pick_at" "_law_pick_at" (defArgs s_law_pick_at) (defBody s_law_pick_at) (defScope s_law_pick_at) .none kV28 dc28 pm28 an28 cd28 ct28), sl28⟩) (c28 : PySem.W.codeIn K cd28 "_law_pick_at" = true) (k28 : PySem.W.keepIn K (.ref f28) = true)
    (a29 : PySem.W.nsIn K mainGlobals "_law_plan" = some (some (.ref f29))) (l29 : K.lookup f29 = some ⟨oc29, od29, .func (PySem.W.fnOf "_law_plan" "_law_plan" (defArgs s_law_plan) (defBody s_law_plan) (defScope s_law_plan) .none kV29 dc29 pm29 an29 cd29 ct29), sl29⟩) (c29 : PySem.W.codeIn K cd29 "_law_plan" = true) (k29 : PySem.W.keepIn K (.ref f29) = true)
    (a30 : PySem.W.nsIn K mainGlobals "_law_light" = some (some (.ref f30))) (l30 : K.lookup f30 = some ⟨oc30, od30, .func (PySem.W.fnOf "_law_light" "_law_light" (defArgs s_law_light) (defBody s_law_light) (defScope s_law_light) .none kV30 dc30 pm30 an30 cd30 ct30), sl30⟩) (c30 : PySem.W.codeIn K cd30 "_law_light" = true) (k30 : PySem.W.keepIn K (.ref f30) = true)
    (a31 : PySem.W.nsIn K mainGlobals "_law_case" = some (some (.ref f31))) (l31 : K.lookup f31 = some ⟨oc31, od31, .func (PySem.W.fnOf "_law_case" "_law_case" (defArgs s_law_case) (defBody s_law_case) (defScope s_law_case) .none kV31 dc31 pm31 an31 cd31 ct31), sl31⟩) (c31 : PySem.W.codeIn K cd31 "_law_case" = true) (k31 : PySem.W.keepIn K (.ref f31) = true)
    (a32 : PySem.W.nsIn K mainGlobals "_law_lines" = some (some (.ref f32))) (l32 : K.lookup f32 = some ⟨oc32, od32, .func (PySem.W.fnOf "_law_lines" "_law_lines" (defArgs s_law_lines) (defBody s_law_lines) (defScope s_law_lines) .none kV32 dc32 pm32 an32 cd32 ct32), sl32⟩) (c32 : PySem.W.codeIn K cd32 "_law_lines" = true) (k32 : PySem.W.keepIn K (.ref f32) = true)
    (a33 : PySem.W.nsIn K mainGlobals "_law_mean_back" = some (some (.ref f33))) (l33 : K.lookup f33 = some ⟨oc33, od33, .func (PySem.W.fnOf "_law_mean_back" "_law_mean_back" (defArgs s_law_mean_back) (defBody s_law_mean_back) (defScope s_law_mean_back) .none kV33 dc33 pm33 an33 cd33 ct33), sl33⟩) (c33 : PySem.W.codeIn K cd33 "_law_mean_back" = true) (k33 : PySem.W.keepIn K (.ref f33) = true)
    (a34 : PySem.W.nsIn K mainGlobals "_law_is_line" = some (some (.ref f34))) (l34 : K.lookup f34 = some ⟨oc34, od34, .func (PySem.W.fnOf "_law_is_line" "_law_is_line" (defArgs s_law_is_line) (defBody s_law_is_line) (defScope s_law_is_line) .none kV34 dc34 pm34 an34 cd34 ct34), sl34⟩) (c34 : PySem.W.codeIn K cd34 "_law_is_line" = true) (k34 : PySem.W.keepIn K (.ref f34) = true)
    (a35 : PySem.W.nsIn K mainGlobals "_law_is_run" = some (some (.ref f35))) (l35 : K.lookup f35 = some ⟨oc35, od35, .func (PySem.W.fnOf "_law_is_run" "_law_is_run" (defArgs s_law_is_run) (defBody s_law_is_run) (defScope s_law_is_run) .none kV35 dc35 pm35 an35 cd35 ct35), sl35⟩) (c35 : PySem.W.codeIn K cd35 "_law_is_run" = true) (k35 : PySem.W.keepIn K (.ref f35) = true)
    (a36 : PySem.W.nsIn K mainGlobals "law" = some (some (.ref f36))) (l36 : K.lookup f36 = some ⟨oc36, od36, .func (PySem.W.fnOf "law" "law" (defArgs s_law) (defBody s_law) (defScope s_law) .none kV36 dc36 pm36 an36 cd36 ct36), sl36⟩) (c36 : PySem.W.codeIn K cd36 "law" = true) (k36 : PySem.W.keepIn K (.ref f36) = true)
    (z_abs : PySem.W.nsIn K mainGlobals "abs" = some none)
    (z_all : PySem.W.nsIn K mainGlobals "all" = some none)
    (z_bool : PySem.W.nsIn K mainGlobals "bool" = some none)
    (g_gcd : PySem.W.nsIn K mainGlobals "gcd" = some (some (.builtin "math.gcd")))
    (z_int : PySem.W.nsIn K mainGlobals "int" = some none)
    (z_isinstance : PySem.W.nsIn K mainGlobals "isinstance" = some none)
    (z_len : PySem.W.nsIn K mainGlobals "len" = some none)
    (z_list : PySem.W.nsIn K mainGlobals "list" = some none)
    (z_min : PySem.W.nsIn K mainGlobals "min" = some none)
    (z_range : PySem.W.nsIn K mainGlobals "range" = some none)
    (z_sorted : PySem.W.nsIn K mainGlobals "sorted" = some none)
    (z_sum : PySem.W.nsIn K mainGlobals "sum" = some none)
    (z_tuple : PySem.W.nsIn K mainGlobals "tuple" = some none)
    (ka_ONE : PySem.W.nsIn K mainGlobals "ONE" = some (some (.ref kz_ONE))) (kl_ONE : K.lookup kz_ONE = some ⟨.type "tuple", none, .seq #[.int 1 kt_ONE0, .int 1 kt_ONE1] kn_ONE, ks_ONE⟩) :
    ∃ fd : FuncData, (∀ (s : Shared) (v : Value), BindsTo s fd ⟨[v], []⟩ [("script", v)]) ∧ ∀ base : Heap, K.In base → base.Ns mainGlobals mg → FnOk P w K mg base (L2.CX P w) 7 fa fd ["script"] (spOf K spLaw) := by
  have e := hfa.symm.trans (PySem.W.mg_of X G a36)
  cases e
  have F0 := fun_mk (st := s_fraction) l0 c0 k0
  have b0 := F0.binds (ps := ["n", "d"]) fun _ _ _ _ _ _ us hl => match us, hl with | [_, _], _ => rfl
  have F1 := fun_mk (st := s_plus) l1 c1 k1
  have b1 := F1.binds (ps := ["a", "b"]) fun _ _ _ _ _ _ us hl => match us, hl with | [_, _], _ => rfl
  have F2 := fun_mk (st := s_times) l2 c2 k2
  have b2 := F2.binds (ps := ["a", "b"]) fun _ _ _ _ _ _ us hl => match us, hl with | [_, _], _ => rfl
  have F3 := fun_mk (st := s_shared) l3 c3 k3
  have b3 := F3.binds (ps := ["row"]) fun _ _ _ _ _ _ us hl => match us, hl with | [_], _ => rfl
  have F4 := fun_mk (st := s_total) l4 c4 k4
  have b4 := F4.binds (ps := ["row"]) fun _ _ _ _ _ _ us hl => match us, hl with | [_], _ => rfl
  have F5 := fun_mk (st := s_added) l5 c5 k5
  have b5 := F5.binds (ps := ["table", "key", "amount"]) fun _ _ _ _ _ _ us hl => match us, hl with | [_, _, _], _ => rfl
  have F6 := fun_mk (st := s_part_of) l6 c6 k6
  have b6 := F6.binds (ps := ["weight", "corner"]) fun _ _ _ _ _ _ us hl => match us, hl with | [_, _], _ => rfl
  have F7 := fun_mk (st := s_listed) l7 c7 k7
  have b7 := F7.binds (ps := ["chances"]) fun _ _ _ _ _ _ us hl => match us, hl with | [_], _ => rfl
  have F8 := fun_mk (st := s_run_plan) l8 c8 k8
  have b8 := F8.binds (ps := ["gauge", "web", "plan"]) fun _ _ _ _ _ _ us hl => match us, hl with | [_, _, _], _ => rfl
  have F9 := fun_mk (st := s_law_begin) l9 c9 k9
  have b9 := F9.binds (ps := ["script"]) fun _ _ _ _ _ _ us hl => match us, hl with | [_], _ => rfl
  have F10 := fun_mk (st := s_law_draw) l10 c10 k10
  have b10 := F10.binds (ps := ["d", "many"]) fun _ _ _ _ _ _ us hl => match us, hl with | [_, _], _ => rfl
  have F11 := fun_mk (st := s_law_rare) l11 c11 k11
  have b11 := F11.binds (ps := ["d", "many"]) fun _ _ _ _ _ _ us hl => match us, hl with | [_, _], _ => rfl
  have F12 := fun_mk (st := s_law_shuffled) l12 c12 k12
  have b12 := F12.binds (ps := ["d", "row"]) fun _ _ _ _ _ _ us hl => match us, hl with | [_, _], _ => rfl
  have F13 := fun_mk (st := s_law_is_int) l13 c13 k13
  have b13 := F13.binds (ps := ["thing"]) fun _ _ _ _ _ _ us hl => match us, hl with | [_], _ => rfl
  have F14 := fun_mk (st := s_law_gcd) l14 c14 k14
  have b14 := F14.binds (ps := ["a", "b"]) fun _ _ _ _ _ _ us hl => match us, hl with | [_, _], _ => rfl
  have F15 := fun_mk (st := s_law_frac) l15 c15 k15
  have b15 := F15.binds (ps := ["n", "d"]) fun _ _ _ _ _ _ us hl => match us, hl with | [_, _], _ => rfl
  have F16 := fun_mk (st := s_law_is_frac) l16 c16 k16
  have b16 := F16.binds (ps := ["thing"]) fun _ _ _ _ _ _ us hl => match us, hl with | [_], _ => rfl
  have F17 := fun_mk (st := s_law_plus) l17 c17 k17
  have b17 := F17.binds (ps := ["a", "b"]) fun _ _ _ _ _ _ us hl => match us, hl with | [_, _], _ => rfl
  have F18 := fun_mk (st := s_law_times) l18 c18 k18
  have b18 := F18.binds (ps := ["a", "b"]) fun _ _ _ _ _ _ us hl => match us, hl with | [_, _], _ => rfl
  have F19 := fun_mk (st := s_law_over) l19 c19 k19
  have b19 := F19.binds (ps := ["a", "b"]) fun _ _ _ _ _ _ us hl => match us, hl with | [_, _], _ => rfl
  have F20 := fun_mk (st := s_law_sum) l20 c20 k20
  have b20 := F20.binds (ps := ["row"]) fun _ _ _ _ _ _ us hl => match us, hl with | [_], _ => rfl
  have F21 := fun_mk (st := s_law_fraction) l21 c21 k21
  have b21 := F21.binds (ps := ["d", "top", "bottom"]) fun _ _ _ _ _ _ us hl => match us, hl with | [_, _, _], _ => rfl
  have F22 := fun_mk (st := s_law_weight) l22 c22 k22
  have b22 := F22.binds (ps := ["d"]) fun _ _ _ _ _ _ us hl => match us, hl with | [_], _ => rfl
  have F23 := fun_mk (st := s_law_corner) l23 c23 k23
  have b23 := F23.binds (ps := ["d", "letters", "nodes", "most"]) fun _ _ _ _ _ _ us hl => match us, hl with | [_, _, _, _], _ => rfl
  have F24 := fun_mk (st := s_law_web) l24 c24 k24
  have b24 := F24.binds (ps := ["d", "letters", "nodes", "corners", "most"]) fun _ _ _ _ _ _ us hl => match us, hl with | [_, _, _, _, _], _ => rfl
  have F25 := fun_mk (st := s_law_rows_of_states) l25 c25 k25
  have b25 := F25.binds (ps := ["d", "letters", "states"]) fun _ _ _ _ _ _ us hl => match us, hl with | [_, _, _], _ => rfl
  have F26 := fun_mk (st := s_law_gauge) l26 c26 k26
  have b26 := F26.binds (ps := ["d", "letters", "states"]) fun _ _ _ _ _ _ us hl => match us, hl with | [_, _, _], _ => rfl
  have F27 := fun_mk (st := s_law_weight_sum) l27 c27 k27
  have b27 := F27.binds (ps := ["corner"]) fun _ _ _ _ _ _ us hl => match us, hl with | [_], _ => rfl
  have F28 := fun_mk (st := s_law_pick_at) l28 c28 k28
  have b28 := F28.binds (ps := ["d", "node", "often"]) fun _ _ _ _ _ _ us hl => match us, hl with | [_, _, _], _ => rfl
  have F29 := fun_mk (st := s_law_plan) l29 c29 k29
  have b29 := F29.binds (ps := ["d", "gauge", "web", "many", "often"]) fun _ _ _ _ _ _ us hl => match us, hl with | [_, _, _, _, _], _ => rfl
  have F30 := fun_mk (st := s_law_light) l30 c30 k30
  have b30 := F30.binds (ps := ["web"]) fun _ _ _ _ _ _ us hl => match us, hl with | [_], _ => rfl
  have F31 := fun_mk (st := s_law_case) l31 c31 k31
  have b31 := F31.binds (ps := ["d"]) fun _ _ _ _ _ _ us hl => match us, hl with | [_], _ => rfl
  have F32 := fun_mk (st := s_law_lines) l32 c32 k32
  have b32 := F32.binds (ps := ["gauge", "web", "plan"]) fun _ _ _ _ _ _ us hl => match us, hl with | [_, _, _], _ => rfl
  have F33 := fun_mk (st := s_law_mean_back) l33 c33 k33
  have b33 := F33.binds (ps := ["gauge", "web", "plan", "lines"]) fun _ _ _ _ _ _ us hl => match us, hl with | [_, _, _, _], _ => rfl
  have F34 := fun_mk (st := s_law_is_line) l34 c34 k34
  have b34 := F34.binds (ps := ["line"]) fun _ _ _ _ _ _ us hl => match us, hl with | [_], _ => rfl
  have F35 := fun_mk (st := s_law_is_run) l35 c35 k35
  have b35 := F35.binds (ps := ["told", "mean", "lines"]) fun _ _ _ _ _ _ us hl => match us, hl with | [_, _, _], _ => rfl
  have F36 := fun_mk (st := s_law) l36 c36 k36
  have b36 := F36.binds (ps := ["script"]) fun _ _ _ _ _ _ us hl => match us, hl with | [_], _ => rfl
  refine ⟨PySem.W.fnOf "law" "law" (defArgs s_law) (defBody s_law) (defScope s_law) .none kV36 dc36 pm36 an36 cd36 ct36, fun s v => .of_eq rfl, fun base _ _ => ?_⟩
  let T : Txt P K mg := { f_fraction := f0, fd_fraction := _, F_fraction := F0, m_fraction := PySem.W.mg_of X G a0, b_fraction := b0, f_plus := f1, fd_plus := _, F_plus := F1, m_plus := PySem.W.mg_of X G a1, b_plus := b1, f_times := f2, fd_times := _, F_times := F2, m_times := PySem.W.mg_of X G a2, b_times := b2, f_shared := f3, fd_shared := _, F_shared := F3, m_shared := PySem.W.mg_of X G a3, b_shared := b3, f_total := f4, fd_total := _, F_total := F4, m_total := PySem.W.mg_of X G a4, b_total := b4, f_added := f5, fd_added := _, F_added := F5, m_added := PySem.W.mg_of X G a5, b_added := b5, f_part_of := f6, fd_part_of := _, F_part_of := F6, m_part_of := PySem.W.mg_of X G a6, b_part_of := b6, f_listed := f7, fd_listed := _, F_listed := F7, m_listed := PySem.W.mg_of X G a7, b_listed := b7, f_run_plan := f8, fd_run_plan := _, F_run_plan := F8, m_run_plan := PySem.W.mg_of X G a8, b_run_plan := b8, f_law_begin := f9, fd_law_begin := _, F_law_begin := F9, m_law_begin := PySem.W.mg_of X G a9, b_law_begin := b9, f_law_draw := f10, fd_law_draw := _, F_law_draw := F10, m_law_draw := PySem.W.mg_of X G a10, b_law_draw := b10, f_law_rare := f11, fd_law_rare := _, F_law_rare := F11, m_law_rare := PySem.W.mg_of X G a11, b_law_rare := b11, f_law_shuffled := f12, fd_law_shuffled := _, F_law_shuffled := F12, m_law_shuffled := PySem.W.mg_of X G a12, b_law_shuffled := b12, f_law_is_int := f13, fd_law_is_int := _, F_law_is_int := F13, m_law_is_int := PySem.W.mg_of X G a13, b_law_is_int := b13, f_law_gcd := f14, fd_law_gcd := _, F_law_gcd := F14, m_law_gcd := PySem.W.mg_of X G a14, b_law_gcd := b14, f_law_frac := f15, fd_law_frac := _, F_law_frac := F15, m_law_frac := PySem.W.mg_of X G a15, b_law_frac := b15, f_law_is_frac := f16, fd_law_is_frac := _, F_law_is_frac := F16, m_law_is_frac := PySem.W.mg_of X G a16, b_law_is_frac := b16, f_law_plus := f17, fd_law_plus := _, F_law_plus := F17, m_law_plus := PySem.W.mg_of X G a17, b_law_plus := b17, f_law_times := f18, fd_law_times := _, F_law_times := F18, m_law_times := PySem.W.mg_of X G a18, b_law_times := b18, f_law_over := f19, fd_law_over := _, F_law_over := F19, m_law_over := PySem.W.mg_of X G a19, b_law_over := b19, f_law_sum := f20, fd_law_sum := _, F_law_sum := F20, m_law_sum := PySem.W.mg_of X G a20, b_law_sum := b20, f_law_fraction := f21, fd_law_fraction := _, F_law_fraction := F21, m_law_fraction := PySem.W.mg_of X G a21, b_law_fraction := b21, f_law_weight := f22, fd_law_weight := _, F_law_weight := F22, m_law_weight := PySem.W.mg_of X G a22, b_law_weight := b22, f_law_corner := f23, fd_law_corner := _, F_law_corner := F23, m_law_corner := PySem.W.mg_of X G a23, b_law_corner := b23, f_law_web := f24, fd_law_web := _, F_law_web := F24, m_law_web := PySem.W.mg_of X G a24, b_law_web := b24, f_law_rows_of_states := f25, fd_law_rows_of_states := _, F_law_rows_of_states := F25, m_law_rows_of_states := PySem.W.mg_of X G a25, b_law_rows_of_states := b25, f_law_gauge := f26, fd_law_gauge := _, F_law_gauge := F26, m_law_gauge := PySem.W.mg_of X G a26, b_law_gauge := b26, f_law_weight_sum := f27, fd_law_weight_sum := _, F_law_weight_sum := F27, m_law_weight_sum := PySem.W.mg_of X G a27, b_law_weight_sum := b27, f_law_pick_at := f28, fd_law_pick_at := _, F_law_pick_at := F28, m_law_pick_at := PySem.W.mg_of X G a28, b_law_pick_at := b28, f_law_plan := f29, fd_law_plan := _, F_law_plan := F29, m_law_plan := PySem.W.mg_of X G a29, b_law_plan := b29, f_law_light := f30, fd_law_light := _, F_law_light := F30, m_law_light := PySem.W.mg_of X G a30, b_law_light := b30, f_law_case := f31, fd_law_case := _, F_law_case := F31, m_law_case := PySem.W.mg_of X G a31, b_law_case := b31, f_law_lines := f32, fd_law_lines := _, F_law_lines := F32, m_law_lines := PySem.W.mg_of X G a32, b_law_lines := b32, f_law_mean_back := f33, fd_law_mean_back := _, F_law_mean_back := F33, m_law_mean_back := PySem.W.mg_of X G a33, b_law_mean_back := b33, f_law_is_line := f34, fd_law_is_line := _, F_law_is_line := F34, m_law_is_line := PySem.W.mg_of X G a34, b_law_is_line := b34, f_law_is_run := f35, fd_law_is_run := _, F_law_is_run := F35, m_law_is_run := PySem.W.mg_of X G a35, b_law_is_run := b35, f_law := fa, fd_law := _, F_law := F36, m_law := PySem.W.mg_of X G a36, b_law := b36, z_abs := PySem.W.mg_none_of X G z_abs, z_all := PySem.W.mg_none_of X G z_all, z_bool := PySem.W.mg_none_of X G z_bool, g_gcd := PySem.W.mg_of X G g_gcd, z_int := PySem.W.mg_none_of X G z_int, z_isinstance := PySem.W.mg_none_of X G z_isinstance, z_len := PySem.W.mg_none_of X G z_len, z_list := PySem.W.mg_none_of X G z_list, z_min := PySem.W.mg_none_of X G z_min, z_range := PySem.W.mg_none_of X G z_range, z_sorted := PySem.W.mg_none_of X G z_sorted, z_sum := PySem.W.mg_none_of X G z_sum, z_tuple := PySem.W.mg_none_of X G z_tuple, a_ONE := kz_ONE, m_ONE := PySem.W.mg_of X G ka_ONE, r_ONE := fun H => Rep_tup.mpr ⟨kz_ONE, [V.int 1, V.int 1], rfl, .inr ⟨_, _, _, kl_ONE, rfl, rfl, (show 2 ≤ 2 ^ 24 by decide), (Paired.cons ⟨_, rfl⟩ (Paired.cons ⟨_, rfl⟩ Paired.nil))⟩, Reps_cons.mpr ⟨_, _, rfl, Rep_int.mpr rfl, Reps_cons.mpr ⟨_, _, rfl, Rep_int.mpr rfl, Reps_nil.mpr rfl⟩⟩⟩ }
  have h_fraction : FnD P w K mg base 1 T.f_fraction T.fd_fraction ["n", "d"] spFrac := ok_fraction T  len_frac read_fraction
  have h_plus : FnD P w K mg base 2 T.f_plus T.fd_plus ["a", "b"] spPlus := ok_plus T h_fraction len_q2 read_plus2
  have h_times : FnD P w K mg base 2 T.f_times T.fd_times ["a", "b"] spTimes := ok_times T h_fraction len_times read_times
  have h_shared : FnD P w K mg base 1 T.f_shared T.fd_shared ["row"] spSharedM := ok_shared T  len_sharedM read_sharedM
  have h_total : FnD P w K mg base 2 T.f_total T.fd_total ["row"] spTotalM := ok_total T h_shared h_fraction len_totalM read_totalM
  have h_added : FnD P w K mg base 3 T.f_added T.fd_added ["table", "key", "amount"] spAdded := ok_added T h_plus len_added read_added
  have h_part_of : FnD P w K mg base 2 T.f_part_of T.fd_part_of ["weight", "corner"] spPartOf := ok_part_of T h_fraction len_partof read_partof
  have h_listed : FnD P w K mg base 1 T.f_listed T.fd_listed ["chances"] spListed := ok_listed T  len_listed read_listed
  have h_run_plan : FnD P w K mg base 4 T.f_run_plan T.fd_run_plan ["gauge", "web", "plan"] spRun := ok_run_plan T h_listed h_times h_added h_part_of h_total len_run read_run
  have h_law_begin : FnD P w K mg base 1 T.f_law_begin T.fd_law_begin ["script"] spBegin := ok_law_begin T  len_begin read_begin
  have h_law_draw : FnD P w K mg base 1 T.f_law_draw T.fd_law_draw ["d", "many"] spDraw := ok_law_draw T  len_draw read_draw
  have h_law_rare : FnD P w K mg base 2 T.f_law_rare T.fd_law_rare ["d", "many"] spRare := ok_law_rare T h_law_draw len_rare read_rare
  have h_law_shuffled : FnD P w K mg base 2 T.f_law_shuffled T.fd_law_shuffled ["d", "row"] spShuffled := ok_law_shuffled T h_law_draw len_shuffled read_shuffled
  have h_law_is_int : FnD P w K mg base 1 T.f_law_is_int T.fd_law_is_int ["thing"] spIsInt := ok_law_is_int T  len_is_int read_is_int
  have h_law_gcd : FnD P w K mg base 1 T.f_law_gcd T.fd_law_gcd ["a", "b"] spGcd := ok_law_gcd T  len_gcd read_gcd
  have h_law_frac : FnD P w K mg base 2 T.f_law_frac T.fd_law_frac ["n", "d"] spFrac := ok_law_frac T h_law_gcd len_frac read_frac
  have h_law_is_frac : FnD P w K mg base 2 T.f_law_is_frac T.fd_law_is_frac ["thing"] spIsFr := ok_law_is_frac T h_law_is_int h_law_gcd len_isfr read_is_frac
  have h_law_plus : FnD P w K mg base 3 T.f_law_plus T.fd_law_plus ["a", "b"] spPlus := ok_law_plus T h_law_frac len_q2 read_plus
  have h_law_times : FnD P w K mg base 3 T.f_law_times T.fd_law_times ["a", "b"] spTimes := ok_law_times T h_law_frac len_times read_ltimes
  have h_law_over : FnD P w K mg base 3 T.f_law_over T.fd_law_over ["a", "b"] spOver := ok_law_over T h_law_frac len_over read_lover
  have h_law_sum : FnD P w K mg base 3 T.f_law_sum T.fd_law_sum ["row"] spSumM := ok_law_sum T h_law_gcd h_law_frac len_sumM read_sumM
  have h_law_fraction : FnD P w K mg base 3 T.f_law_fraction T.fd_law_fraction ["d", "top", "bottom"] spFraction := ok_law_fraction T h_law_frac h_law_draw len_fraction read_lfraction
  have h_law_weight : FnD P w K mg base 3 T.f_law_weight T.fd_law_weight ["d"] spWeight := ok_law_weight T h_law_rare h_law_draw len_weight read_weight
  have h_law_corner : FnD P w K mg base 4 T.f_law_corner T.fd_law_corner ["d", "letters", "nodes", "most"] spCorner := ok_law_corner T h_law_shuffled h_law_draw h_law_weight len_corner read_corner
  have h_law_web : FnD P w K mg base 5 T.f_law_web T.fd_law_web ["d", "letters", "nodes", "corners", "most"] spWebC := ok_law_web T h_law_draw h_law_corner len_webC read_webC
  have h_law_rows_of_states : FnD P w K mg base 2 T.f_law_rows_of_states T.fd_law_rows_of_states ["d", "letters", "states"] spRows := ok_law_rows_of_states T h_law_draw len_rows read_rows
  have h_law_gauge : FnD P w K mg base 4 T.f_law_gauge T.fd_law_gauge ["d", "letters", "states"] (spGauge false) := ok_law_gauge T h_law_draw h_law_fraction h_law_rows_of_states len_gauge read_gauge
  have h_law_weight_sum : FnD P w K mg base 1 T.f_law_weight_sum T.fd_law_weight_sum ["corner"] spWsum := ok_law_weight_sum T  len_wsum read_wsum
  have h_law_pick_at : FnD P w K mg base 2 T.f_law_pick_at T.fd_law_pick_at ["d", "node", "often"] spPickAt := ok_law_pick_at T h_law_draw len_pickat read_pickat
  have h_law_plan : FnD P w K mg base 3 T.f_law_plan T.fd_law_plan ["d", "gauge", "web", "many", "often"] spPlan := ok_law_plan T h_law_pick_at len_plan read_plan
  have h_law_light : FnD P w K mg base 1 T.f_law_light T.fd_law_light ["web"] spLight := ok_law_light T  len_light read_light
  have h_law_case : FnD P w K mg base 6 T.f_law_case T.fd_law_case ["d"] spCase := ok_law_case T h_law_draw h_law_gauge h_law_web h_law_light len_case read_case
  have h_law_lines : FnD P w K mg base 4 T.f_law_lines T.fd_law_lines ["gauge", "web", "plan"] spLines := ok_law_lines T h_law_times h_law_weight_sum h_law_plus len_lines read_lines
  have h_law_mean_back : FnD P w K mg base 4 T.f_law_mean_back T.fd_law_mean_back ["gauge", "web", "plan", "lines"] spBack := ok_law_mean_back T h_law_times h_law_over h_law_sum h_law_weight_sum len_back read_back
  have h_law_is_line : FnD P w K mg base 3 T.f_law_is_line T.fd_law_is_line ["line"] spIsLine := ok_law_is_line T h_law_is_int h_law_is_frac len_isline read_isline
  have h_law_is_run : FnD P w K mg base 4 T.f_law_is_run T.fd_law_is_run ["told", "mean", "lines"] spIsRun := ok_law_is_run T h_law_is_frac h_law_is_line len_isrun read_isrun
  have h_law : FnD P w K mg base 7 T.f_law T.fd_law ["script"] spLaw := ok_law T h_law_begin h_law_case h_law_plan h_law_lines h_law_mean_back h_law_is_run h_run_plan h_law_draw len_law read_law
  exact h_law
end K25
end DL

open PySem PySem.W PyProof.Rows
set_option maxRecDepth 100000 in
set_option maxHeartbeats 16000000 in
theorem PySem.Challenge.cw_carriedstakes_k25_plans_run_holds : PySem.Challenge.rw_carriedstakes_k25_plans_run.Holds := by
  w_on; o_law; k_head; (case hw => w_witness2)
  k_fill
  refine L2.walk_of (l := PySem.Challenge.rw_carriedstakes_k25_plans_run) (n := 63) (k := 7) (x := "script") (CX := fun w => L2.CX PySem.Challenge.rw_carriedstakes_k25_plans_run.prog w) (sp := fun w => DL.spOf _ DL.K25.spLaw) rfl (by decide) rfl ⟨rfl, by decide, by decide⟩ (fun w h Y => PySem.W.kIn_of Y) ?F (fun _ _ a ns hl hO hS => DL.law_start hO hS ⟨ns, rfl, Nat.le_trans hl (by decide), fun _ => rfl⟩) (fun _ _ _ _ _ h => DL.no_cx h)
  case F =>
    intro w mg fa h KX G hmg
    refine' DL.K25.all_mk KX G hmg ?a0 ?l0 ?c0 ?k0 ?a1 ?l1 ?c1 ?k1 ?a2 ?l2 ?c2 ?k2 ?a3 ?l3 ?c3 ?k3 ?a4 ?l4 ?c4 ?k4 ?a5 ?l5 ?c5 ?k5 ?a6 ?l6 ?c6 ?k6 ?a7 ?l7 ?c7 ?k7 ?a8 ?l8 ?c8 ?k8 ?a9 ?l9 ?c9 ?k9 ?a10 ?l10 ?c10 ?k10 ?a11 ?l11 ?c11 ?k11 ?a12 ?l12 ?c12 ?k12 ?a13 ?l13 ?c13 ?k13 ?a14 ?l14 ?c14 ?k14 ?a15 ?l15 ?c15 ?k15 ?a16 ?l16 ?c16 ?k16 ?a17 ?l17 ?c17 ?k17 ?a18 ?l18 ?c18 ?k18 ?a19 ?l19 ?c19 ?k19 ?a20 ?l20 ?c20 ?k20 ?a21 ?l21 ?c21 ?k21 ?a22 ?l22 ?c22 ?k22 ?a23 ?l23 ?c23 ?k23 ?a24 ?l24 ?c24 ?k24 ?a25 ?l25 ?c25 ?k25 ?a26 ?l26 ?c26 ?k26 ?a27 ?l27 ?c27 ?k27 ?a28 ?l28 ?c28 ?k28 ?a29 ?l29 ?c29 ?k29 ?a30 ?l30 ?c30 ?k30 ?a31 ?l31 ?c31 ?k31 ?a32 ?l32 ?c32 ?k32 ?a33 ?l33 ?c33 ?k33 ?a34 ?l34 ?c34 ?k34 ?a35 ?l35 ?c35 ?k35 ?a36 ?l36 ?c36 ?k36 ?z_abs ?z_all ?z_bool ?g_gcd ?z_int ?z_isinstance ?z_len ?z_list ?z_min ?z_range ?z_sorted ?z_sum ?z_tuple ?ka_ONE ?kl_ONE
    (case a0 => k_is)
    (case l0 => k_is)
    (case c0 => k_is)
    (case k0 => k_is)
    (case a1 => k_is)
    (case l1 => k_is)
    (case c1 => k_is)
    (case k1 => k_is)
    (case a2 => k_is)
    (case l2 => k_is)
    (case c2 => k_is)
    (case k2 => k_is)
    (case a3 => k_is)
    (case l3 => k_is)
    (case c3 => k_is)
    (case k3 => k_is)
    (case a4 => k_is)
    (case l4 => k_is)
    (case c4 => k_is)
    (case k4 => k_is)
    (case a5 => k_is)
    (case l5 => k_is)
    (case c5 => k_is)
    (case k5 => k_is)
    (case a6 => k_is)
    (case l6 => k_is)
    (case c6 => k_is)
    (case k6 => k_is)
    (case a7 => k_is)
    (case l7 => k_is)
    (case c7 => k_is)
    (case k7 => k_is)
    (case a8 => k_is)
    (case l8 => k_is)
    (case c8 => k_is)
    (case k8 => k_is)
    (case a9 => k_is)
    (case l9 => k_is)
    (case c9 => k_is)
    (case k9 => k_is)
    (case a10 => k_is)
    (case l10 => k_is)
    (case c10 => k_is)
    (case k10 => k_is)
    (case a11 => k_is)
    (case l11 => k_is)
    (case c11 => k_is)
    (case k11 => k_is)
    (case a12 => k_is)
    (case l12 => k_is)
    (case c12 => k_is)
    (case k12 => k_is)
    (case a13 => k_is)
    (case l13 => k_is)
    (case c13 => k_is)
    (case k13 => k_is)
    (case a14 => k_is)
    (case l14 => k_is)
    (case c14 => k_is)
    (case k14 => k_is)
    (case a15 => k_is)
    (case l15 => k_is)
    (case c15 => k_is)
    (case k15 => k_is)
    (case a16 => k_is)
    (case l16 => k_is)
    (case c16 => k_is)
    (case k16 => k_is)
    (case a17 => k_is)
    (case l17 => k_is)
    (case c17 => k_is)
    (case k17 => k_is)
    (case a18 => k_is)
    (case l18 => k_is)
    (case c18 => k_is)
    (case k18 => k_is)
    (case a19 => k_is)
    (case l19 => k_is)
    (case c19 => k_is)
    (case k19 => k_is)
    (case a20 => k_is)
    (case l20 => k_is)
    (case c20 => k_is)
    (case k20 => k_is)
    (case a21 => k_is)
    (case l21 => k_is)
    (case c21 => k_is)
    (case k21 => k_is)
    (case a22 => k_is)
    (case l22 => k_is)
    (case c22 => k_is)
    (case k22 => k_is)
    (case a23 => k_is)
    (case l23 => k_is)
    (case c23 => k_is)
    (case k23 => k_is)
    (case a24 => k_is)
    (case l24 => k_is)
    (case c24 => k_is)
    (case k24 => k_is)
    (case a25 => k_is)
    (case l25 => k_is)
    (case c25 => k_is)
    (case k25 => k_is)
    (case a26 => k_is)
    (case l26 => k_is)
    (case c26 => k_is)
    (case k26 => k_is)
    (case a27 => k_is)
    (case l27 => k_is)
    (case c27 => k_is)
    (case k27 => k_is)
    (case a28 => k_is)
    (case l28 => k_is)
    (case c28 => k_is)
    (case k28 => k_is)
    (case a29 => k_is)
    (case l29 => k_is)
    (case c29 => k_is)
    (case k29 => k_is)
    (case a30 => k_is)
    (case l30 => k_is)
    (case c30 => k_is)
    (case k30 => k_is)
    (case a31 => k_is)
    (case l31 => k_is)
    (case c31 => k_is)
    (case k31 => k_is)
    (case a32 => k_is)
    (case l32 => k_is)
    (case c32 => k_is)
    (case k32 => k_is)
    (case a33 => k_is)
    (case l33 => k_is)
    (case c33 => k_is)
    (case k33 => k_is)
    (case a34 => k_is)
    (case l34 => k_is)
    (case c34 => k_is)
    (case k34 => k_is)
    (case a35 => k_is)
    (case l35 => k_is)
    (case c35 => k_is)
    (case k35 => k_is)
    (case a36 => k_is)
    (case l36 => k_is)
    (case c36 => k_is)
    (case k36 => k_is)
    (case z_abs => k_is)
    (case z_all => k_is)
    (case z_bool => k_is)
    (case g_gcd => k_is)
    (case z_int => k_is)
    (case z_isinstance => k_is)
    (case z_len => k_is)
    (case z_list => k_is)
    (case z_min => k_is)
    (case z_range => k_is)
    (case z_sorted => k_is)
    (case z_sum => k_is)
    (case z_tuple => k_is)
    (case ka_ONE => k_is)
    (case kl_ONE => k_is)
